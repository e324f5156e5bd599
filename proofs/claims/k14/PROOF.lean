import PyProof.Rows.All
import Wide.All
import OpenK.AllK
import Wide.FinOn
import HandS.ForMost
import HandS.ForExc
import HandS.Wide
import HandS.CallSlots
import HandS.IsInst
import HandS.TupSets
import HandS.SortInts
import HandS.TupMul
import HandS.TupLe
import HandS.Flow
import HandS.Deep
import HandS.TupAny
import HandS.Conv
import HandS.ExcInit
import HandS.ExcField
import KE.KExcSuper
import HandS.TryMany
import HandS.SetFor
import HandS.Strs
import HandS.Style
import HandS.EndBits
import PySem.Challenge.RW_reesroads_k14_greens_relations
set_option Elab.async false
set_option linter.all false
set_option maxRecDepth 100000
/-! A small machine over plain data: what the defs of the text compute. -/
namespace Q
open PySem L2

/-! ### data -/
inductive D where
  | non | bl (b : Bool) | int (i : Int) | str (s : Str)
  | tup (xs : List D) | lst (xs : List D)
  | scr (xs : List D)
  | ins (c : Nat) (fs : List D)
  | sref (k : Nat)

-- data of the library, where it is such
mutual
def D.py : D → Option PyData
  | .non => some .none
  | .bl b => some (.bool b)
  | .int i => some (.int i)
  | .str s => some (.str s)
  | .tup xs => match D.pys xs with | some ys => some (.tuple ys) | none => none
  | .lst xs => match D.pys xs with | some ys => some (.list ys) | none => none
  | .scr _ => none
  | .ins _ _ => none
  | .sref _ => none
def D.pys : List D → Option (List PyData)
  | [] => some []
  | x :: xs => match D.py x, D.pys xs with | some y, some ys => some (y :: ys) | _, _ => none
end

inductive Cell where
  | undef
  | imm (d : D)
  | own (cs : List Cell)
  | bor (cs : List Cell)
  | obj (c : Nat) (fs : List D)

mutual
def Cell.dat : Cell → Option D
  | .undef => none
  | .imm d => some d
  | .own cs => match Cell.dats cs with | some ds => some (.lst ds) | none => none
  | .bor cs => match Cell.dats cs with | some ds => some (.lst ds) | none => none
  | .obj _ _ => none
def Cell.dats : List Cell → Option (List D)
  | [] => some []
  | c :: cs => match Cell.dat c, Cell.dats cs with | some d, some ds => some (d :: ds) | _, _ => none
end

-- an exception: the number of its class, its fields
structure Exc where
  c : Nat
  fs : List D

abbrev Store := List (List D)
abbrev Ev := List Cell

inductive Re (α : Type) where
  | ok (a : α) (st : Store)
  | exc (x : Exc) (st : Store)
  | stuck

/-! ### the terms -/
inductive Op where
  | add | sub | mul | fdiv | mod | pow
  | eq | ne | lt | le | gt | ge | is_ | isnot | in_ | notin
  deriving DecidableEq

inductive Ty where
  | int | str | bool | none | tuple | list | valueError | c (k : Nat) | x (k : Nat)
  deriving DecidableEq

inductive BI where
  | len | int | abs | tuple | list | all | any | min2 | max2 | sorted | min1 | max1 | sset | lset
  deriving DecidableEq

/-- what a clause returns: a constant, the exception's field, a tuple of these -/
inductive HX where
  | con (d : D)
  | fld
  | tup (as : List (Option D))
/-- what a clause of a comprehension binds: a name, the names of a tuple -/
inductive Tgt where
  | n (j : Nat)
  | t (js : List Nat)
def Tgt.js : Tgt → List Nat
  | .n j => [j]
  | .t js => js
inductive IE where
  | var (i : Nat)
  | con (d : D)
  | glob (x : Str) (d : D)
  | bin (o : Op) (a b : IE)
  | ix (a b : IE)
  | chn (o1 o2 : Op) (a b c : IE)
  | neg (a : IE)
  | not (a : IE)
  | and (a b : IE)
  | or (a b : IE)
  | ite (c a b : IE)
  | nil
  | cons (a as : IE)
  | tup (as : IE)
  | lst (as : IE)
  | nref (as : IE)
  | slc (a : IE) (lo hi : IE)
  | fld (a : IE) (c k : Nat)
  | call (f : Nat) (as : IE)
  | meth (c f : Nat) (o as : IE)
  | new (c f : Nat) (as : IE)
  | bi (b : BI) (as : IE)
  | nopart
  | range1 (a : IE)
  | range2 (a b : IE)
  | lrange (b : Bool) (r : IE)
  | isi (a : IE) (ts : List Ty)
  | comp (j : Nat) (it c e : IE)
  | compt (t : Tgt) (it c e : IE)
  | comp2 (t : Tgt) (it : IE) (u : Tgt) (jt c e : IE)
  | eqm (es : List (Nat × Nat)) (a b : IE)
  | index (a b : IE)
  | rev (a : IE)
  | kp (a : IE)
  | never

inductive IS where
  | skip
  | seq (a b : IS)
  | drop (e : IE)
  | asg (i : Nat) (e : IE)
  | par (i j : Nat) (a b : IE)
  | unp (js : List Nat) (e : IE)
  | aug (i : Nat) (o : Op) (e : IE)
  | app (i : Nat) (e : IE)
  | apop (i j : Nat) (e : IE)
  | ext (i : Nat) (e : IE)
  | popi (i j : Nat) (e : IE)
  | popl (i j : Nat)
  | popu (js : List Nat) (j : Nat)
  | set (i : Nat) (a e : IE)
  | set2 (i : Nat) (a b e : IE)
  | sset (i : Nat) (a e : IE)
  | setf (c k : Nat) (e : IE)
  | frz (i : Nat)
  | ite (c : IE) (a b : IS)
  | whl (c : IE) (b : IS)
  | for_ (j : Nat) (it : IE) (b : IS)
  | fort (js : List Nat) (it : IE) (b : IS)
  | ret (e : IE)
  | retv (i : Nat)
  | retn
  | brk
  | cont
  | raiseM (c : Nat)
  | raise (c : Nat) (as : IE)
  | try1 (b : IS) (c : Nat) (d : D)
  | tryR (b : IS) (hs : List (Nat × HX))
  | never

/-! ### what the operations give -/
def small (n : Nat) : Bool := decide (n ≤ 1000000)
def bitsOk (i j : Int) : Bool := decide (i.natAbs.log2 + j.natAbs.log2 < 100000000)
def rngOk (i : Int) : Bool := decide (-(2 ^ 62) ≤ i ∧ i < 2 ^ 62)

def eqD (x y : D) : Option Bool :=
  match D.py x, D.py y with
  | some a, some b => if SeqAt.shaped a && SeqAt.shaped b then some (PyData.eqv a b) else none
  | _, _ => none

def flatD : D → Bool
  | .non => true | .bl _ => true | .int _ => true | .str _ => true | _ => false
def D.toV : D → V
  | .non => .non | .bl b => .bl b | .int i => .int i | .str s => .str s | _ => .non
def eqF (x y : D) : Bool := eqV x.toV y.toV
def memF (x : D) (xs : List D) : Bool := xs.any fun y => eqF y x
-- one among data of any depth
def memD (x : D) (ys : List D) : Option Bool :=
  match D.py x, D.pys ys with
  | some p, some ps => if SeqAt.shaped p && SeqAt.shaped (.list ps) then some (ps.any fun z => PyData.eqv z p) else none
  | _, _ => none
def findIx (f : PyData → Bool) : List PyData → Option Nat
  | [] => none
  | x :: xs => if f x then some 0 else (findIx f xs).map (· + 1)
def indexD (xs : List D) (y : D) : Option Nat :=
  match D.pys xs, D.py y with
  | some ps, some p => if SeqAt.shaped (.list ps) && SeqAt.shaped p then findIx (fun z => PyData.eqv z p) ps else none
  | _, _ => none
def isNone : D → Bool
  | .non => true
  | _ => false

-- a sequence's items, all of them plain
def imms : List Cell → Option (List D)
  | [] => some []
  | .imm d :: cs => (imms cs).map (d :: ·)
  | _ => none
def lstItems : Cell → Option (List D)
  | .imm (.lst ds) => some ds
  | .own cs => imms cs
  | .bor cs => imms cs
  | _ => none
def seqItems : Cell → Option (List D)
  | .imm (.lst ds) => some ds
  | .imm (.tup ds) => some ds
  | .imm (.scr ds) => some ds
  | .own cs => imms cs
  | .bor cs => imms cs
  | _ => none
def owns (ds : List D) : Cell := .own (ds.map .imm)

-- data in, data out (no lists are made)
def bopD (o : Op) (x y : D) : Option D :=
  match o with
  | .add => match x, y with
    | .int i, .int j => some (.int (i + j))
    | .str s, .str t => if small (s.length + t.length) then some (.str (s ++ t)) else none
    | .tup a, .tup b => if small (a.length + b.length) then some (.tup (a ++ b)) else none
    | _, _ => none
  | .sub => match x, y with
    | .int i, .int j => some (.int (i - j))
    | _, _ => none
  | .mul => match x, y with
    | .int i, .int j => if bitsOk i j then some (.int (i * j)) else none
    | .str s, .int k => if 1 ≤ k ∧ k ≤ 1000 ∧ s.length ≤ 1000 then some (.str ⟨(List.replicate k.toNat s.cps).foldl (· ++ ·) #[]⟩) else none
    | .tup xs, .int k => if 1 ≤ k ∧ k ≤ 1000 ∧ xs.length ≤ 1000 ∧ xs.isEmpty = false then some (.tup (List.replicate k.toNat xs).flatten) else none
    | _, _ => none
  | .fdiv => match x, y with
    | .int i, .int j => if 0 < j ∧ j.natAbs.log2 < 9000 then some (.int (i / j)) else none
    | _, _ => none
  | .mod => match x, y with
    | .int i, .int j => if 0 < j then some (.int (i % j)) else none
    | _, _ => none
  | .pow => match x, y with
    | .int i, .int j => if 0 ≤ j ∧ j ≤ 1000000 ∧ i.natAbs < 2 ^ 64 then some (.int (i ^ j.toNat)) else none
    | _, _ => none
  | .eq => (eqD x y).map .bl
  | .ne => (eqD x y).map fun b => .bl (!b)
  | .lt => match x, y with
    | .int i, .int j => some (.bl (decide (i < j)))
    | _, _ => none
  | .le => match x, y with
    | .int i, .int j => some (.bl (decide (i ≤ j)))
    | _, _ => none
  | .gt => match x, y with
    | .int i, .int j => some (.bl (decide (j < i)))
    | _, _ => none
  | .ge => match x, y with
    | .int i, .int j => some (.bl (decide (j ≤ i)))
    | _, _ => none
  | .is_ => match y with
    | .non => some (.bl (isNone x))
    | .bl b => match x with
      | .bl a => some (.bl (a == b))
      | _ => none
    | _ => none
  | .isnot => match y with
    | .non => some (.bl (!isNone x))
    | .bl b => match x with
      | .bl a => some (.bl (!(a == b)))
      | _ => none
    | _ => none
  | .in_ => match y with
    | .tup ys => if flatD x && ys.all flatD then some (.bl (memF x ys)) else (memD x ys).map .bl
    | .lst ys => if flatD x && ys.all flatD then some (.bl (memF x ys)) else (memD x ys).map .bl
    | _ => none
  | .notin => match y with
    | .tup ys => if flatD x && ys.all flatD then some (.bl (!memF x ys)) else (memD x ys).map fun b => .bl (!b)
    | .lst ys => if flatD x && ys.all flatD then some (.bl (!memF x ys)) else (memD x ys).map fun b => .bl (!b)
    | _ => none

def viaD (o : Op) (x y : Cell) : Option Cell :=
  match x.dat, y.dat with
  | some a, some b => (bopD o a b).map .imm
  | _, _ => none
def binC (o : Op) (x y : Cell) : Option Cell :=
  match o with
  | .add => match lstItems x, lstItems y with
    | some a, some b => if small (a.length + b.length) then some (owns (a ++ b)) else none
    | _, _ => viaD .add x y
  | .mul => match lstItems x, y with
    | some a, .imm (.int k) => if decide (k < 1000000) && small (a.length * k.toNat) && decide (-1000000 < k) then some (owns (List.replicate k.toNat a).flatten) else none
    | _, _ => viaD .mul x y
  | _ => viaD o x y

-- a place of a sequence
def ixOf (n : Nat) (i : Int) : Option Nat := ixN n i
def childC : Cell → Option Cell
  | .imm d => some (.imm d)
  | .own cs => some (.bor cs)
  | .bor cs => some (.bor cs)
  | _ => none
def ixD (x : D) (i : Int) (st : Store) : Option D :=
  match x with
  | .tup xs => atI xs i
  | .lst xs => atI xs i
  | .str s => if small s.length then (atI s.cps.toList i).map fun c => .str ⟨#[c]⟩ else none
  | .sref k => (st[k]?).bind fun ds => atI ds i
  | _ => none
def ixC (x y : Cell) (st : Store) : Option Cell :=
  match y with
  | .imm (.int i) => match x with
    | .imm d => (ixD d i st).map .imm
    | .own cs => (atI cs i).bind childC
    | .bor cs => (atI cs i).bind childC
    | _ => none
  | _ => none

def asBool : Cell → Option Bool
  | .imm (.bl b) => some b
  | _ => none
def asInt : Cell → Option Int
  | .imm (.int i) => some i
  | _ => none
def truD : D → Option Bool
  | .non => some false
  | .bl b => some b
  | .int i => some (i != 0)
  | .str s => if small s.length then some ((s.length : Int) != 0) else none
  | .tup xs => some (!xs.isEmpty)
  | .lst xs => some (!xs.isEmpty)
  | _ => none
def truC : Cell → Option Bool
  | .imm d => truD d
  | .own cs => some (!cs.isEmpty)
  | .bor cs => some (!cs.isEmpty)
  | _ => none

def lenC : Cell → Option Nat
  | .imm (.tup xs) => some xs.length
  | .imm (.lst xs) => some xs.length
  | .imm (.scr xs) => some xs.length
  | .imm (.str s) => if small s.length then some s.length else none
  | .own cs => some cs.length
  | .bor cs => some cs.length
  | _ => none
def bools : List D → Option (List Bool)
  | [] => some []
  | .bl b :: ds => (bools ds).map (b :: ·)
  | _ => none
def bLen : List Cell → Option Cell
  | [c] => (lenC c).map fun n => .imm (.int (n : Nat))
  | _ => none
def bInt : List Cell → Option Cell
  | [.imm (.int i)] => some (.imm (.int i))
  | [.imm (.bl b)] => some (.imm (.int (if b then 1 else 0)))
  | _ => none
def bAbs : List Cell → Option Cell
  | [.imm (.int i)] => some (.imm (.int (if i < 0 then -i else i)))
  | _ => none
def bTuple : List Cell → Option Cell
  | [.imm (.tup ds)] => some (.imm (.tup ds))
  | [c] => (lstItems c).map fun ds => .imm (.tup ds)
  | _ => none
def bList : List Cell → Option Cell
  | [c] => (seqItems c).map owns
  | _ => none
def bAll : List Cell → Option Cell
  | [c] => ((lstItems c).bind bools).map fun bs => .imm (.bl (bs.all id))
  | _ => none
def bAny : List Cell → Option Cell
  | [c] => ((lstItems c).bind bools).map fun bs => .imm (.bl (bs.any id))
  | _ => none
def bMin2 : List Cell → Option Cell
  | [.imm (.int i), .imm (.int j)] => some (.imm (.int (if j < i then j else i)))
  | _ => none
def bMax2 : List Cell → Option Cell
  | [.imm (.int i), .imm (.int j)] => some (.imm (.int (if j > i then j else i)))
  | _ => none
def intsD : List D → Option (List Int)
  | [] => some []
  | .int i :: ds => (intsD ds).map (i :: ·)
  | _ => none
def tupsD : List D → Option (List (List Int))
  | [] => some []
  | .tup ds :: xs => match intsD ds, tupsD xs with | some l, some ls => some (l :: ls) | _, _ => none
  | _ => none
def insZ {α : Type} (f : α → Int) (x : α) : List α → List α
  | [] => [x]
  | y :: ys => if f x ≤ f y then x :: y :: ys else y :: insZ f x ys
def sortZ {α : Type} (f : α → Int) : List α → List α
  | [] => []
  | x :: xs => insZ f x (sortZ f xs)
def tupsOk (ls : List (List Int)) : Bool := decide (ls.length < 64) && (match ls with
  | [] => false
  | l :: _ => decide (1 ≤ l.length) && ls.all (fun q => decide (q.length = l.length) && q.all fun i => decide (0 ≤ i ∧ i < 1000)))
def bSortedL : List Cell → Option Cell
  | [c] => (lstItems c).bind fun ds => match intsD ds with
    | some ns => some (owns ((sortZ id ns).map .int))
    | none => match tupsD ds with
      | some ls => if tupsOk ls then some (owns ((sortZ (TS.code 1000) ls).map fun l => .tup (l.map .int))) else none
      | none => none
  | _ => none
def bSorted : List Cell → Option Cell
  | [.imm (.tup ds)] => (intsD ds).map fun ns => owns ((sortZ id ns).map .int)
  | cs => bSortedL cs
-- the other way about
def revC : Cell → Option Cell
  | .imm (.tup ds) => some (.imm (.tup ds.reverse))
  | c => (lstItems c).map fun ds => owns ds.reverse
-- ascending, each once
def insU (x : Int) : List Int → List Int
  | [] => [x]
  | y :: ys => if x < y then x :: y :: ys else if x = y then y :: ys else y :: insU x ys
def uniqZ (l : List Int) : List Int := l.foldr insU []
-- the items of a list, of a tuple
def ltItems : Cell → Option (List D)
  | .imm (.tup ds) => some ds
  | c => lstItems c
def setZ (c : Cell) : Option (List Int) := ((ltItems c).bind intsD).bind fun ns => if (uniqZ ns).length < 64 ∧ ns.length < 4000 then some (uniqZ ns) else none
def bSset : List Cell → Option Cell
  | [c] => (setZ c).map fun us => owns (us.map .int)
  | _ => none
def bLset : List Cell → Option Cell
  | [c] => (setZ c).map fun us => .imm (.int (us.length : Nat))
  | _ => none
def maxZ : Int → List Int → Int
  | m, [] => m
  | m, x :: xs => maxZ (if m < x then x else m) xs
def minZ : Int → List Int → Int
  | m, [] => m
  | m, x :: xs => minZ (if x < m then x else m) xs
def bMax1 : List Cell → Option Cell
  | [c] => match (lstItems c).bind intsD with
    | some (n :: ns) => some (.imm (.int (maxZ n ns)))
    | _ => none
  | _ => none
def bMin1 : List Cell → Option Cell
  | [c] => match (lstItems c).bind intsD with
    | some (n :: ns) => some (.imm (.int (minZ n ns)))
    | _ => none
  | _ => none
def biC : BI → List Cell → Option Cell
  | .len => bLen
  | .int => bInt
  | .abs => bAbs
  | .tuple => bTuple
  | .list => bList
  | .all => bAll
  | .any => bAny
  | .min2 => bMin2
  | .max2 => bMax2
  | .sorted => bSorted
  | .min1 => bMin1
  | .max1 => bMax1
  | .sset => bSset
  | .lset => bLset

def tyD : D → Option Ty
  | .non => some .none
  | .bl _ => some .bool
  | .int _ => some .int
  | .str _ => some .str
  | .tup _ => some .tuple
  | .lst _ => some .list
  | .scr _ => some .list
  | .ins c _ => some (.c c)
  | .sref _ => none
def tyC : Cell → Option Ty
  | .imm d => tyD d
  | .own _ => some .list
  | .bor _ => some .list
  | _ => none
-- is the one type below the other one
def tyLe (t u : Ty) : Bool := decide (t = u) || (decide (t = .bool) && decide (u = .int))

def ranged (lo hi : Int) : List D := (List.range (hi - lo).toNat).map fun (i : Nat) => .int (lo + (i : Int))
def cutD (xs : List D) (lo hi : Option Int) : List D := (xs.drop (HT.sIx xs.length 0 lo)).take (HT.sIx xs.length xs.length hi - HT.sIx xs.length 0 lo)
def partE : IE → Cell → Option (Option Int)
  | .nopart, _ => some none
  | _, c => (asInt c).map some
def slcC (x : Cell) (l h : Option Int) : Option Cell :=
  match x with
  | .imm (.tup xs) => some (.imm (.tup (cutD xs l h)))
  | .imm (.scr xs) => some (owns (cutD xs l h))
  | _ => (lstItems x).map fun xs => owns (cutD xs l h)

-- what may be kept in a tuple: lists of one's own are frozen
mutual
def keepC : Cell → Option D
  | .undef => none
  | .imm d => some d
  | .own cs => match keepAll cs with | some ds => some (.lst ds) | none => none
  | .bor _ => none
  | .obj _ _ => none
def keepAll : List Cell → Option (List D)
  | [] => some []
  | c :: cs => match keepC c, keepAll cs with | some x, some xs => some (x :: xs) | _, _ => none
end
def isUndef : Cell → Bool
  | .undef => true
  | _ => false
-- what may be handed to a call: lists are frozen, or lent
def passC : Cell → Option Cell
  | .bor cs => some (.bor cs)
  | c => match keepC c with | some d => some (.imm d) | none => none
def passAll : List Cell → Option (List Cell)
  | [] => some []
  | c :: cs => match passC c, passAll cs with | some x, some xs => some (x :: xs) | _, _ => none
-- what may stand in a name, in a list
def ownable : Cell → Bool
  | .imm _ => true
  | .own _ => true
  | _ => false

def datL (x : Cell) : Option (List D) := match x.dat with
  | some (.lst xs) => some xs
  | _ => none
def indexC (xs : List D) (y : Cell) : Option Nat := match y.dat with
  | some b => indexD xs b
  | none => none
def insOf : Cell → Option (Nat × List D)
  | .imm (.ins c fs) => some (c, fs)
  | _ => none

/-! ### the run -/
abbrev CF := Nat → List Cell → Store → Re Cell
abbrev Den := Ev → Store → Re Cell

-- over the items, one after another
def cloop (f : Cell → Store → Re (Option Cell)) : List Cell → Store → Re (List Cell)
  | [], st => .ok [] st
  | x :: xs, st => match f x st with
    | .ok o st1 => match cloop f xs st1 with
      | .ok ys st2 => .ok (match o with | some y => y :: ys | none => ys) st2
      | .exc x s => .exc x s
      | .stuck => .stuck
    | .exc x s => .exc x s
    | .stuck => .stuck
def setAll : List Nat → List D → Ev → Option Ev
  | [], [], ρ => some ρ
  | j :: js, d :: ds, ρ => setAll js ds (ρ.set j (.imm d))
  | _, _, _ => none
def bindT (t : Tgt) (d : D) (ρ : Ev) : Option Ev :=
  match t with
  | .n j => some (ρ.set j (.imm d))
  | .t js => match d with
    | .tup ds => setAll js ds ρ
    | _ => none
def undefs (js : List Nat) (ρ : Ev) : Ev := js.foldl (fun ρ j => ρ.set j .undef) ρ
def dloop (f : D → Store → Re (List Cell)) : List D → Store → Re (List Cell)
  | [], st => .ok [] st
  | x :: xs, st => match f x st with
    | .ok ys s1 => match dloop f xs s1 with
      | .ok zs s2 => .ok (ys ++ zs) s2
      | .exc x s => .exc x s
      | .stuck => .stuck
    | .exc x s => .exc x s
    | .stuck => .stuck
-- one turn of a comprehension: is the item wanted, and what is it
def turnX (c e : Ev → Store → Re Cell) (t : Tgt) (ρ : Ev) (d : D) (st : Store) : Re (List Cell) :=
  match bindT t d ρ with
  | some ρ' => match c ρ' st with
    | .ok tv s1 => match truC tv with
      | some true => match e ρ' s1 with
        | .ok z s2 => if ownable z then .ok [z] s2 else .stuck
        | .exc _ _ => .stuck
        | .stuck => .stuck
      | some false => .ok [] s1
      | none => .stuck
    | .exc _ _ => .stuck
    | .stuck => .stuck
  | none => .stuck
-- a turn that is a loop
def turnY (wk : Ev → Cell → Option (List D)) (it c e : Ev → Store → Re Cell) (t u : Tgt) (ρ : Ev) (d : D) (st : Store) : Re (List Cell) :=
  match bindT t d (undefs u.js ρ) with
  | some ρ' => match it ρ' st with
    | .ok x s1 => match wk ρ' x with
      | some ds => dloop (turnX c e u ρ') ds s1
      | none => .stuck
    | .exc _ _ => .stuck
    | .stuck => .stuck
  | none => .stuck
def ownL (r : Re (List Cell)) : Re Cell :=
  match r with
  | .ok ys s => if small ys.length then .ok (.own ys) s else .stuck
  | .exc _ _ => .stuck
  | .stuck => .stuck
-- what a for walks: data; a list of its own is frozen
def walkC (it : IE) (ρ : Ev) (x : Cell) : Option (List D) :=
  match x with
  | .imm d => seqItems (.imm d)
  | .own cs => keepAll cs
  | .bor cs => match it with
    | .var i => match ρ[i]? with
      | some (.bor _) => imms cs
      | _ => none
    | _ => none
  | _ => none

def iterC (c : Cell) : Option (List Cell) := (seqItems c).map fun ds => ds.map .imm

def evE (cf : CF) : IE → Ev → Store → Re Cell
  | .var i, ρ, st => match ρ[i]? with
    | some (.imm d) => .ok (.imm d) st
    | some (.own cs) => .ok (.bor cs) st
    | some (.bor cs) => .ok (.bor cs) st
    | _ => .stuck
  | .con d, _, st => .ok (.imm d) st
  | .glob _ d, _, st => .ok (.imm d) st
  | .bin o a b, ρ, st => match evE cf a ρ st with
    | .ok x s1 => match evE cf b ρ s1 with
      | .ok y s2 => match binC o x y with
        | some z => .ok z s2
        | none => .stuck
      | r => r
    | r => r
  | .ix a b, ρ, st => match evE cf a ρ st with
    | .ok x s1 => match evE cf b ρ s1 with
      | .ok y s2 => match ixC x y s2 with
        | some z => .ok z s2
        | none => .stuck
      | r => r
    | r => r
  | .chn o1 o2 a b c, ρ, st => match evE cf a ρ st with
    | .ok x s1 => match evE cf b ρ s1 with
      | .ok y s2 => match (binC o1 x y).bind asBool with
        | some true => match evE cf c ρ s2 with
          | .ok z s3 => match binC o2 y z with
            | some r => .ok r s3
            | none => .stuck
          | r => r
        | some false => .ok (.imm (.bl false)) s2
        | none => .stuck
      | r => r
    | r => r
  | .neg a, ρ, st => match evE cf a ρ st with
    | .ok x s1 => match asInt x with
      | some i => .ok (.imm (.int (-i))) s1
      | none => .stuck
    | r => r
  | .not a, ρ, st => match evE cf a ρ st with
    | .ok x s1 => match truC x with
      | some b => .ok (.imm (.bl (!b))) s1
      | none => .stuck
    | r => r
  | .and a b, ρ, st => match evE cf a ρ st with
    | .ok x s1 => match truC x with
      | some true => evE cf b ρ s1
      | some false => .ok x s1
      | none => .stuck
    | r => r
  | .or a b, ρ, st => match evE cf a ρ st with
    | .ok x s1 => match truC x with
      | some true => .ok x s1
      | some false => evE cf b ρ s1
      | none => .stuck
    | r => r
  | .ite c a b, ρ, st => match evE cf c ρ st with
    | .ok x s1 => match truC x with
      | some true => evE cf a ρ s1
      | some false => evE cf b ρ s1
      | none => .stuck
    | r => r
  | .nil, _, st => .ok (.own []) st
  | .cons a as, ρ, st => match evE cf a ρ st with
    | .ok x s1 => match evE cf as ρ s1 with
      | .ok (.own xs) s2 => .ok (.own (x :: xs)) s2
      | .ok _ _ => .stuck
      | r => r
    | r => r
  | .tup as, ρ, st => match evE cf as ρ st with
    | .ok (.own xs) s1 => match keepAll xs with
      | some ds => if small ds.length then .ok (.imm (.tup ds)) s1 else .stuck
      | none => .stuck
    | .ok _ _ => .stuck
    | r => r
  | .lst as, ρ, st => match evE cf as ρ st with
    | .ok (.own xs) s1 => if xs.all ownable && small xs.length then .ok (.own xs) s1 else .stuck
    | .ok _ _ => .stuck
    | r => r
  | .nref as, ρ, st => match evE cf as ρ st with
    | .ok (.own xs) s1 => match imms xs with
      | some ds => if small ds.length then .ok (.imm (.sref s1.length)) (s1 ++ [ds]) else .stuck
      | none => .stuck
    | .ok _ _ => .stuck
    | r => r
  | .slc a lo hi, ρ, st => match evE cf a ρ st with
    | .ok x s1 => match evE cf lo ρ s1 with
      | .ok l s2 => match partE lo l with
        | some pl => match evE cf hi ρ s2 with
          | .ok h s3 => match partE hi h with
            | some ph => match slcC x pl ph with
              | some z => .ok z s3
              | none => .stuck
            | none => .stuck
          | r => r
        | none => .stuck
      | r => r
    | r => r
  | .fld a c k, ρ, st => match evE cf a ρ st with
    | .ok (.imm (.ins c' fs)) s1 => if c' = c then match fs[k]? with
        | some d => .ok (.imm d) s1
        | none => .stuck
      else .stuck
    | .ok (.obj c' fs) s1 => if c' = c then match fs[k]? with
        | some d => .ok (.imm d) s1
        | none => .stuck
      else .stuck
    | .ok _ _ => .stuck
    | r => r
  | .call f as, ρ, st => match evE cf as ρ st with
    | .ok (.own xs) s1 => match passAll xs with
      | some ys => cf f ys s1
      | none => .stuck
    | .ok _ _ => .stuck
    | r => r
  | .meth c f o as, ρ, st => match evE cf o ρ st with
    | .ok (.imm (.ins c' fs)) s0 => if c' = c then match evE cf as ρ s0 with
        | .ok (.own xs) s1 => match passAll xs with
          | some ys => cf f (.imm (.ins c fs) :: ys) s1
          | none => .stuck
        | .ok _ _ => .stuck
        | r => r
      else .stuck
    | .ok _ _ => .stuck
    | r => r
  | .new c f as, ρ, st => match evE cf as ρ st with
    | .ok (.own xs) s1 => match passAll xs with
      | some ys => match cf f (.obj c [] :: ys) s1 with
        | .ok (.imm (.ins c' fs)) s2 => if c' = c then .ok (.imm (.ins c' fs)) s2 else .stuck
        | .ok _ _ => .stuck
        | r => r
      | none => .stuck
    | .ok _ _ => .stuck
    | r => r
  | .bi b as, ρ, st => match evE cf as ρ st with
    | .ok (.own xs) s1 => match biC b xs with
      | some z => .ok z s1
      | none => .stuck
    | .ok _ _ => .stuck
    | r => r
  | .nopart, _, st => .ok (.imm .non) st
  | .range1 a, ρ, st => match evE cf a ρ st with
    | .ok x s1 => match asInt x with
      | some n => if rngOk n then .ok (owns (ranged 0 n)) s1 else .stuck
      | none => .stuck
    | r => r
  | .range2 a b, ρ, st => match evE cf a ρ st with
    | .ok x s1 => match evE cf b ρ s1 with
      | .ok y s2 => match asInt x, asInt y with
        | some m, some n => if rngOk m && rngOk n then .ok (owns (ranged m n)) s2 else .stuck
        | _, _ => .stuck
      | r => r
    | r => r
  | .lrange b r, ρ, st => match evE cf r ρ st with
    | .ok x s1 => match lstItems x with
      | some ds => if small ds.length then .ok (if b then .imm (.tup ds) else owns ds) s1 else .stuck
      | none => .stuck
    | r => r
  | .isi a ts, ρ, st => match evE cf a ρ st with
    | .ok x s1 => match tyC x with
      | some t => .ok (.imm (.bl (ts.any (tyLe t)))) s1
      | none => .stuck
    | r => r
  | .comp j it c e, ρ, st => match evE cf it ρ st with
    | .ok x s1 => match iterC x with
      | some xs => match cloop (fun y s => match evE cf c (ρ.set j y) s with
            | .ok t s1 => match truC t with
              | some true => match evE cf e (ρ.set j y) s1 with
                | .ok z s2 => if ownable z then .ok (some z) s2 else .stuck
                | .exc _ _ => .stuck
                | .stuck => .stuck
              | some false => .ok none s1
              | none => .stuck
            | .exc _ _ => .stuck
            | .stuck => .stuck) xs s1 with
        | .ok ys s2 => if small xs.length then .ok (.own ys) s2 else .stuck
        | .exc _ _ => .stuck
        | .stuck => .stuck
      | none => .stuck
    | r => r

  | .compt t it c e, ρ, st => match evE cf it ρ st with
    | .ok x s1 => match walkC it ρ x with
      | some ds => ownL (dloop (turnX (evE cf c) (evE cf e) t ρ) ds s1)
      | none => .stuck
    | r => r
  | .comp2 t it u jt c e, ρ, st => match evE cf it ρ st with
    | .ok x s1 => match walkC it ρ x with
      | some ds => ownL (dloop (turnY (fun ρ x => walkC jt ρ x) (evE cf jt) (evE cf c) (evE cf e) t u ρ) ds s1)
      | none => .stuck
    | r => r
  | .eqm es a b, ρ, st => match evE cf a ρ st with
    | .ok x s1 => match evE cf b ρ s1 with
      | .ok y s2 => match insOf x with
        | some p => match es.lookup p.1, tyC y, passC y with
          | some f, some _, some z => match cf f [.imm (.ins p.1 p.2), z] s2 with
            | .ok r s3 => match asBool r with
              | some k => .ok (.imm (.bl k)) s3
              | none => .stuck
            | .exc x s => .exc x s
            | .stuck => .stuck
          | _, _, _ => .stuck
        | none => match binC .eq x y with
          | some z => .ok z s2
          | none => .stuck
      | r => r
    | r => r
  | .index a b, ρ, st => match evE cf a ρ st with
    | .ok x s1 => match datL x with
      | some xs => match evE cf b ρ s1 with
        | .ok y s2 => match indexC xs y with
          | some j => .ok (.imm (.int (j : Nat))) s2
          | none => .stuck
        | r => r
      | none => .stuck
    | r => r
  | .rev a, ρ, st => match evE cf a ρ st with
    | .ok x s1 => match revC x with
      | some z => .ok z s1
      | none => .stuck
    | r => r
  | .kp a, ρ, st => match evE cf a ρ st with
    | .ok c s1 => match keepC c with
      | some d => .ok (.imm d) s1
      | none => .stuck
    | r => r
  | .never, _, _ => .stuck

inductive Out where
  | next (ρ : Ev) (st : Store)
  | ret (c : Cell) (st : Store)
  | brk (ρ : Ev) (st : Store)
  | cont (ρ : Ev) (st : Store)
  | exc (x : Exc) (ρ : Ev) (st : Store)
  | stuck

def wloop (c : Ev → Store → Re Cell) (b : Ev → Store → Out) : Nat → Ev → Store → Out
  | 0, _, _ => .stuck
  | n + 1, ρ, st => match c ρ st with
    | .ok x s1 => match truC x with
      | some true => match b ρ s1 with
        | .next ρ' s2 => wloop c b n ρ' s2
        | .cont ρ' s2 => wloop c b n ρ' s2
        | .brk ρ' s2 => .next ρ' s2
        | r => r
      | some false => .next ρ s1
      | none => .stuck
    | .exc x s1 => .exc x ρ s1
    | .stuck => .stuck
def floop (b : Cell → Ev → Store → Out) : List Cell → Ev → Store → Out
  | [], ρ, st => .next ρ st
  | x :: xs, ρ, st => match b x ρ st with
    | .next ρ' s2 => floop b xs ρ' s2
    | .cont ρ' s2 => floop b xs ρ' s2
    | .brk ρ' s2 => .next ρ' s2
    | r => r

-- is an exception of the one class one of the other: 0 is the base of all
def exSub (i j : Nat) : Bool := decide (i = j) || decide (j = 0)
def oneD : List Cell → Option D
  | [.imm d] => some d
  | _ => none
theorem oneD_eq {xs : List Cell} {d : D} (h : oneD xs = some d) : xs = [.imm d] := by
  unfold oneD at h
  split at h
  · cases h; rfl
  · cases h
def hxs (fs : List D) : List (Option D) → Option (List D)
  | [] => some []
  | some d :: r => (hxs fs r).map (d :: ·)
  | none :: r => match fs with
    | [d] => (hxs fs r).map (d :: ·)
    | _ => none
def HX.ev (fs : List D) : HX → Option D
  | .con d => some d
  | .fld => match fs with
    | [d] => some d
    | _ => none
  | .tup as => (hxs fs as).map .tup
def findH (c : Nat) : List (Nat × HX) → Option HX
  | [] => none
  | (k, h) :: r => if exSub c k then some h else findH c r
-- a name op= a number
def augD (o : Op) (a b : Int) : Option Int :=
  match o with
  | .add => some (a + b)
  | .sub => some (a - b)
  | .mul => if (-(2 ^ 64) < b ∧ b < 2 ^ 64) then some (a * b) else none
  | .fdiv => if 0 < b ∧ b < 1073741824 then some (a / b) else none
  | .mod => if 0 < b then some (a % b) else none
  | _ => none
def evS (cf : CF) (W : Nat) : IS → Ev → Store → Out
  | .skip, ρ, st => .next ρ st
  | .seq a b, ρ, st => match evS cf W a ρ st with
    | .next ρ' s1 => evS cf W b ρ' s1
    | r => r
  | .drop e, ρ, st => match evE cf e ρ st with
    | .ok _ s1 => .next ρ s1
    | .exc x s1 => .exc x ρ s1
    | .stuck => .stuck
  | .asg i e, ρ, st => match evE cf e ρ st with
    | .ok c s1 => if ownable c then .next (ρ.set i c) s1 else .stuck
    | .exc x s1 => .exc x ρ s1
    | .stuck => .stuck
  | .par i j a b, ρ, st => match evE cf a ρ st with
    | .ok x s1 => match evE cf b ρ s1 with
      | .ok y s2 => if ownable x && ownable y then .next ((ρ.set i x).set j y) s2 else .stuck
      | .exc x s1 => .exc x ρ s1
      | .stuck => .stuck
    | .exc x s1 => .exc x ρ s1
    | .stuck => .stuck
  | .unp js e, ρ, st => match evE cf e ρ st with
    | .ok (.imm (.tup ds)) s1 => match setAll js ds ρ with
      | some ρ' => .next ρ' s1
      | none => .stuck
    | .ok _ _ => .stuck
    | .exc x s1 => .exc x ρ s1
    | .stuck => .stuck
  | .aug i o e, ρ, st => match ρ[i]? with
    | some (.imm (.int a)) => match evE cf e ρ st with
      | .ok (.imm (.int b)) s1 => match augD o a b with
        | some z => .next (ρ.set i (.imm (.int z))) s1
        | none => .stuck
      | .ok _ _ => .stuck
      | .exc x s1 => .exc x ρ s1
      | .stuck => .stuck
    | _ => .stuck
  | .app i e, ρ, st => match ρ[i]? with
    | some (.own cs) => match evE cf e ρ st with
      | .ok c s1 => if ownable c && small cs.length then .next (ρ.set i (.own (cs ++ [c]))) s1 else .stuck
      | .exc x s1 => .exc x ρ s1
      | .stuck => .stuck
    | _ => .stuck
  | .apop i j e, ρ, st => match ρ[i]?, ρ[j]? with
    | some (.own cs), some (.own ds) => match evE cf e ρ st with
      | .ok (.imm (.int k)) s1 => match ixOf ds.length k with
        | some m => match ds[m]? with
          | some (.imm d) => if (i != j) && rngOk k && small cs.length then .next ((ρ.set j (.own (ds.eraseIdx m))).set i (.own (cs ++ [.imm d]))) s1 else .stuck
          | _ => .stuck
        | none => .stuck
      | .ok _ _ => .stuck
      | .exc x s1 => .exc x ρ s1
      | .stuck => .stuck
    | _, _ => .stuck
  | .ext i e, ρ, st => match ρ[i]? with
    | some (.own cs) => match evE cf e ρ st with
      | .ok c s1 => match ltItems c with
        | some ds => if small (cs.length + ds.length) then .next (ρ.set i (.own (cs ++ ds.map .imm))) s1 else .stuck
        | none => .stuck
      | .exc x s1 => .exc x ρ s1
      | .stuck => .stuck
    | _ => .stuck
  | .popi i j e, ρ, st => match ρ[j]? with
    | some (.own ds) => match evE cf e ρ st with
      | .ok (.imm (.int k)) s1 => match ixOf ds.length k with
        | some m => match ds[m]? with
          | some (.imm d) => if rngOk k then .next ((ρ.set j (.own (ds.eraseIdx m))).set i (.imm d)) s1 else .stuck
          | _ => .stuck
        | none => .stuck
      | .ok _ _ => .stuck
      | .exc x s1 => .exc x ρ s1
      | .stuck => .stuck
    | _ => .stuck
  | .popl i j, ρ, st => match ρ[j]? with
    | some (.own ds) => match ds[ds.length - 1]? with
      | some (.imm d) => .next ((ρ.set j (.own ds.dropLast)).set i (.imm d)) st
      | _ => .stuck
    | _ => .stuck
  | .popu js j, ρ, st => match ρ[j]? with
    | some (.own ds) => match ds[ds.length - 1]? with
      | some (.imm (.tup es)) => match setAll js es (ρ.set j (.own ds.dropLast)) with
        | some ρ' => .next ρ' st
        | none => .stuck
      | _ => .stuck
    | _ => .stuck
  | .set i a e, ρ, st => match ρ[i]? with
    | some (.own cs) => match evE cf e ρ st with
      | .ok c s1 => match evE cf a ρ s1 with
        | .ok (.imm (.int k)) s2 => match ixOf cs.length k with
          | some j => if ownable c then .next (ρ.set i (.own (cs.set j c))) s2 else .stuck
          | none => .stuck
        | .ok _ _ => .stuck
        | .exc x s1 => .exc x ρ s1
        | .stuck => .stuck
      | .exc x s1 => .exc x ρ s1
      | .stuck => .stuck
    | _ => .stuck
  | .set2 i a b e, ρ, st => match ρ[i]? with
    | some (.own cs) => match evE cf e ρ st with
      | .ok c s1 => match evE cf a ρ s1 with
        | .ok (.imm (.int k)) s2 => match ixOf cs.length k with
          | some j => match cs[j]? with
            | some (.own ds) => match evE cf b ρ s2 with
              | .ok (.imm (.int l)) s3 => match ixOf ds.length l with
                | some m => if ownable c then .next (ρ.set i (.own (cs.set j (.own (ds.set m c))))) s3 else .stuck
                | none => .stuck
              | .ok _ _ => .stuck
              | .exc x s1 => .exc x ρ s1
              | .stuck => .stuck
            | _ => .stuck
          | none => .stuck
        | .ok _ _ => .stuck
        | .exc x s1 => .exc x ρ s1
        | .stuck => .stuck
      | .exc x s1 => .exc x ρ s1
      | .stuck => .stuck
    | _ => .stuck
  | .sset i a e, ρ, st => match ρ[i]? with
    | some (.imm (.sref k)) => match evE cf e ρ st with
      | .ok (.imm d) s1 => match evE cf a ρ s1 with
        | .ok (.imm (.int n)) s2 => match s2[k]? with
          | some ds => match ixOf ds.length n with
            | some j => .next ρ (s2.set k (ds.set j d))
            | none => .stuck
          | none => .stuck
        | .ok _ _ => .stuck
        | .exc x s1 => .exc x ρ s1
        | .stuck => .stuck
      | .ok _ _ => .stuck
      | .exc x s1 => .exc x ρ s1
      | .stuck => .stuck
    | _ => .stuck
  | .setf c k e, ρ, st => match evE cf e ρ st with
    | .ok x s1 => match keepC x, (ρ[0]? : Option Cell) with
      | some d, some (.obj c' fs) => if c' = c ∧ fs.length = k ∧ k < 900 then .next (ρ.set 0 (.obj c (fs ++ [d]))) s1 else .stuck
      | _, _ => .stuck
    | .exc x s1 => .exc x ρ s1
    | .stuck => .stuck
  | .frz i, ρ, st => match ρ[i]? with
    | some c => if isUndef c then .next ρ st else match keepC c with
      | some d => .next (ρ.set i (.imm d)) st
      | none => .stuck
    | none => .stuck
  | .ite c a b, ρ, st => match evE cf c ρ st with
    | .ok x s1 => match truC x with
      | some true => evS cf W a ρ s1
      | some false => evS cf W b ρ s1
      | none => .stuck
    | .exc x s1 => .exc x ρ s1
    | .stuck => .stuck
  | .whl c b, ρ, st => wloop (evE cf c) (evS cf W b) W ρ st
  | .for_ j it b, ρ, st => match evE cf it ρ st with
    | .ok x s1 => match walkC it ρ x with
      | some ds => floop (fun y ρ s => evS cf W b (ρ.set j y) s) (ds.map .imm) ρ s1
      | none => .stuck
    | .exc x s1 => .exc x ρ s1
    | .stuck => .stuck
  | .fort js it b, ρ, st => match evE cf it ρ st with
    | .ok x s1 => match walkC it ρ x with
      | some ds => floop (fun y ρ s => match y with
          | .imm (.tup es) => match setAll js es ρ with
            | some ρ' => evS cf W b ρ' s
            | none => .stuck
          | _ => .stuck) (ds.map .imm) ρ s1
      | none => .stuck
    | .exc x s1 => .exc x ρ s1
    | .stuck => .stuck
  | .ret e, ρ, st => match evE cf e ρ st with
    | .ok c s1 => if ownable c then .ret c s1 else .stuck
    | .exc x s1 => .exc x ρ s1
    | .stuck => .stuck
  | .retv i, ρ, st => match ρ[i]? with
    | some c => if ownable c then .ret c st else .stuck
    | none => .stuck
  | .retn, _, st => .ret (.imm .non) st
  | .brk, ρ, st => .brk ρ st
  | .cont, ρ, st => .cont ρ st
  | .raiseM c, ρ, st => .exc ⟨c, []⟩ ρ st
  | .raise c as, ρ, st => match evE cf as ρ st with
    | .ok (.own xs) s1 => match oneD xs with
      | some d => .exc ⟨c, [d]⟩ ρ s1
      | none => .stuck
    | .ok _ _ => .stuck
    | .exc x s1 => .exc x ρ s1
    | .stuck => .stuck
  | .try1 b c d, ρ, st => match evS cf W b ρ st with
    | .exc x ρ' s1 => if exSub x.c c then .ret (.imm d) s1 else .exc x ρ' s1
    | r => r
  | .tryR b hs, ρ, st => match evS cf W b ρ st with
    | .exc x ρ' s1 => match findH x.c hs with
      | some h => match h.ev x.fs with
        | some d => .ret (.imm d) s1
        | none => .stuck
      | none => .exc x ρ' s1
    | r => r

  | .never, _, _ => .stuck

structure Fn where
  ps : Nat
  nv : Nat
  init : Bool
  ci : Nat
  nf : Nat
  body : IS

def runFn (cf : CF) (W : Nat) (f : Fn) (as : List Cell) (st : Store) : Re Cell :=
  if as.length = f.ps then
    match evS cf W f.body (as ++ List.replicate (f.nv - f.ps) .undef) st with
    | .next ρ s => if f.init then match (ρ[0]? : Option Cell) with
        | some (.obj c fs) => if c = f.ci ∧ fs.length = f.nf then .ok (.imm (.ins c fs)) s else .stuck
        | _ => .stuck
      else .ok (.imm .non) s
    | .ret c s => if f.init then .stuck else .ok c s
    | .exc x _ s => .exc x s
    | _ => .stuck
  else .stuck

def callN (F : List Fn) (W : Nat) : Nat → CF
  | 0 => fun _ _ _ => .stuck
  | k + 1 => fun f as st => match F[f]? with
    | some fn => runFn (callN F W k) W fn as st
    | none => .stuck
end Q

set_option maxRecDepth 100000
namespace Q
open PySem L2

structure Tabs where
  K : PySem.W.Frag
  cls : Nat → Option (Addr × List Str)
  exc : Nat → Option (Addr × List Str)

section
variable (T : Tabs) (S : List Addr)
mutual
inductive DV (H : Hp) : V → D → Prop where
  | non : DV H .non .non
  | bl (b : Bool) : DV H (.bl b) (.bl b)
  | int (i : Int) : DV H (.int i) (.int i)
  | str (s : Str) : DV H (.str s) (.str s)
  | tup {a : Addr} {vs : List V} {ds : List D} (h : H a = some (.tup vs)) (hd : DVs H vs ds) : DV H (.ref a) (.tup ds)
  | lst {a : Addr} {vs : List V} {ds : List D} (h : H a = some (.lst vs)) (hd : DVs H vs ds) : DV H (.ref a) (.lst ds)
  | scr {a : Addr} {vs : List V} {ds : List D} (h : SqL T.K H a vs) (hd : DVs H vs ds) : DV H (.ref a) (.scr ds)
  | ins {a C dx : Addr} {c : Nat} {ns : List Str} {fs : List (Str × V)} {ds : List D} (hc : T.cls c = some (C, ns)) (h : H a = some (.ins C dx fs)) (hn : fs.map (·.1) = ns) (hd : DVs H (fs.map (·.2)) ds) : DV H (.ref a) (.ins c ds)
  | sref {a : Addr} {k : Nat} (h : S[k]? = some a) : DV H (.ref a) (.sref k)
inductive DVs (H : Hp) : List V → List D → Prop where
  | nil : DVs H [] []
  | cons {v : V} {d : D} {vs : List V} {ds : List D} (h : DV H v d) (hs : DVs H vs ds) : DVs H (v :: vs) (d :: ds)
end
end

abbrev Ex (H H' : Hp) : Prop := Same H H'
def SExt (S S' : List Addr) : Prop := ∀ (k : Nat) (a : Addr), S[k]? = some a → S'[k]? = some a
theorem SExt.refl (S : List Addr) : SExt S S := fun _ _ h => h

section
variable {T : Tabs} {S S' : List Addr} {H H' G G' : Hp}
mutual
theorem DV.mono (e : Ex H H') (hS : SExt S S') : ∀ {v : V} {d : D}, DV T S H v d → DV T S' H' v d
  | _, _, .non => .non
  | _, _, .bl b => .bl b
  | _, _, .int b => .int b
  | _, _, .str b => .str b
  | _, _, .tup h hd => .tup (e _ _ h) (DVs.mono e hS hd)
  | _, _, .lst h hd => .lst (e _ _ h) (DVs.mono e hS hd)
  | _, _, .scr h hd => .scr (e.seq h) (DVs.mono e hS hd)
  | _, _, .ins hc h hn hd => .ins hc (e _ _ h) hn (DVs.mono e hS hd)
  | _, _, .sref h => .sref (hS _ _ h)
theorem DVs.mono (e : Ex H H') (hS : SExt S S') : ∀ {vs : List V} {ds : List D}, DVs T S H vs ds → DVs T S' H' vs ds
  | _, _, .nil => .nil
  | _, _, .cons h hs => .cons (DV.mono e hS h) (DVs.mono e hS hs)
end
theorem DVs.length : ∀ {vs : List V} {ds : List D}, DVs T S H vs ds → vs.length = ds.length
  | _, _, .nil => rfl
  | _, _, .cons _ hs => by rw [List.length_cons, List.length_cons, DVs.length hs]
theorem DVs.get : ∀ {vs : List V} {ds : List D} {i : Nat} {d : D}, DVs T S H vs ds → ds[i]? = some d → ∃ v, vs[i]? = some v ∧ DV T S H v d
  | _, _, i, d, .nil, h => by simp at h
  | _, _, 0, d, .cons h hs, e => by
    cases (Option.some.inj e : _ = d)
    exact ⟨_, rfl, h⟩
  | _, _, i + 1, d, .cons h hs, e => DVs.get (i := i) hs e
theorem DVs.getV : ∀ {vs : List V} {ds : List D} {i : Nat} {v : V}, DVs T S H vs ds → vs[i]? = some v → ∃ d, ds[i]? = some d ∧ DV T S H v d
  | _, _, i, d, .nil, h => by simp at h
  | _, _, 0, d, .cons h hs, e => by
    cases (Option.some.inj e : _ = d)
    exact ⟨_, rfl, h⟩
  | _, _, i + 1, d, .cons h hs, e => DVs.getV (i := i) hs e
theorem DVs.append : ∀ {vs ws : List V} {ds es : List D}, DVs T S H vs ds → DVs T S H ws es → DVs T S H (vs ++ ws) (ds ++ es)
  | _, _, _, _, .nil, s => s
  | _, _, _, _, .cons h hs, s => .cons h (DVs.append hs s)
theorem DVs.take : ∀ {vs : List V} {ds : List D} (n : Nat), DVs T S H vs ds → DVs T S H (vs.take n) (ds.take n)
  | _, _, 0, _ => .nil
  | _, _, n + 1, .nil => .nil
  | _, _, n + 1, .cons h hs => .cons h (DVs.take n hs)
theorem DVs.drop : ∀ {vs : List V} {ds : List D} (n : Nat), DVs T S H vs ds → DVs T S H (vs.drop n) (ds.drop n)
  | _, _, 0, h => h
  | _, _, n + 1, .nil => .nil
  | _, _, n + 1, .cons h hs => DVs.drop n hs
theorem DVs.set {v : V} {d : D} (h : DV T S H v d) : ∀ {vs : List V} {ds : List D} (n : Nat), DVs T S H vs ds → DVs T S H (vs.set n v) (ds.set n d)
  | _, _, _, .nil => .nil
  | _, _, 0, .cons _ hs => .cons h hs
  | _, _, n + 1, .cons h' hs => .cons h' (DVs.set h n hs)
end

/-! ### cells: what they own -/
def held : Cell → Bool
  | .imm _ => true
  | .own _ => true
  | .obj _ _ => true
  | _ => false
section
variable (T : Tabs) (S : List Addr) (G H : Hp)
mutual
inductive CR : V → Cell → List Addr → Prop where
  | imm {v : V} {d : D} (h : DV T S G v d) : CR v (.imm d) []
  | own {a : Addr} {vs : List V} {cs : List Cell} {fp : List Addr} (h : H a = some (.lst vs)) (hs : CRs vs cs fp) (ho : cs.all ownable = true) : CR (.ref a) (.own cs) (a :: fp)
  | bor {a : Addr} {vs : List V} {cs : List Cell} {fp : List Addr} (h : H a = some (.lst vs)) (hs : CRs vs cs fp) (hd : ∀ b ∈ a :: fp, b ∉ S) (ho : cs.all ownable = true) : CR (.ref a) (.bor cs) []
  | obj {a C dx : Addr} {c : Nat} {ns : List Str} {fs : List (Str × V)} {ds : List D} (hc : T.cls c = some (C, ns)) (h : H a = some (.ins C dx fs)) (h2 : H dx = some (.own a)) (hn : fs.map (·.1) = ns.take fs.length) (hl : fs.length ≤ ns.length) (hd : DVs T S G (fs.map (·.2)) ds) : CR (.ref a) (.obj c ds) [a, dx]
inductive CRs : List V → List Cell → List Addr → Prop where
  | nil : CRs [] [] []
  | cons {v : V} {c : Cell} {vs : List V} {cs : List Cell} {f fs : List Addr} (h : CR v c f) (hs : CRs vs cs fs) : CRs (v :: vs) (c :: cs) (f ++ fs)
end
end

section
variable {T : Tabs} {S S' : List Addr} {G G' H H' : Hp}
mutual
theorem CR.dom : ∀ {v : V} {c : Cell} {f : List Addr}, CR T S G H v c f → ∀ a ∈ f, ∃ o, H a = some o
  | _, _, _, .imm _, a, ha => nomatch ha
  | _, _, _, .own h hs ho, b, hb => by
    rcases List.mem_cons.mp hb with rfl | hb
    · exact ⟨_, h⟩
    · exact CRs.dom hs b hb
  | _, _, _, .bor _ _ _ _, a, ha => nomatch ha
  | _, _, _, .obj hc h h2 hn hl hd, b, hb => by
    rcases List.mem_cons.mp hb with rfl | hb
    · exact ⟨_, h⟩
    · rcases List.mem_cons.mp hb with rfl | hb
      · exact ⟨_, h2⟩
      · cases hb
theorem CRs.dom : ∀ {vs : List V} {cs : List Cell} {f : List Addr}, CRs T S G H vs cs f → ∀ a ∈ f, ∃ o, H a = some o
  | _, _, _, .nil, a, ha => nomatch ha
  | _, _, _, .cons h hs, a, ha => (List.mem_append.mp ha).elim (fun q => CR.dom h a q) fun q => CRs.dom hs a q
end

-- kept where its own addresses are kept, and the ground grows
mutual
theorem CR.mv (eG : Ex G G') (hS : SExt S S') (hn : ∀ a, a ∈ S' → a ∈ S ∨ H a = none) (eH : ∀ a o, H a = some o → a ∉ S → H' a = some o) :
    ∀ {v : V} {c : Cell} {f : List Addr}, CR T S G H v c f → (∀ a ∈ f, a ∉ S) → CR T S' G' H' v c f
  | _, _, _, .imm h, _ => .imm (h.mono eG hS)
  | _, _, _, .own h hs ho, hd => .own (eH _ _ h (hd _ List.mem_cons_self)) (CRs.mv eG hS hn eH hs fun a ha => hd a (List.mem_cons_of_mem _ ha)) ho
  | _, _, _, .bor h hs hd ho, _ => .bor (eH _ _ h (hd _ List.mem_cons_self)) (CRs.mv eG hS hn eH hs fun a ha => hd a (List.mem_cons_of_mem _ ha)) (ho := ho) (fun b hb hb' => by
      rcases hn b hb' with z | z
      · exact hd b hb z
      · rcases List.mem_cons.mp hb with q | q
        · rw [q, h] at z; cases z
        · obtain ⟨o, e⟩ := hs.dom b q
          rw [e] at z; cases z)
  | _, _, _, .obj hc h h2 hn' hl hd', hd => .obj hc (eH _ _ h (hd _ List.mem_cons_self)) (eH _ _ h2 (hd _ (List.mem_cons_of_mem _ List.mem_cons_self))) hn' hl (hd'.mono eG hS)
theorem CRs.mv (eG : Ex G G') (hS : SExt S S') (hn : ∀ a, a ∈ S' → a ∈ S ∨ H a = none) (eH : ∀ a o, H a = some o → a ∉ S → H' a = some o) :
    ∀ {vs : List V} {cs : List Cell} {f : List Addr}, CRs T S G H vs cs f → (∀ a ∈ f, a ∉ S) → CRs T S' G' H' vs cs f
  | _, _, _, .nil, _ => .nil
  | _, _, _, .cons h hs, hd => .cons (CR.mv eG hS hn eH h fun a ha => hd a (List.mem_append_left _ ha)) (CRs.mv eG hS hn eH hs fun a ha => hd a (List.mem_append_right _ ha))
end
theorem CRs.length : ∀ {vs : List V} {cs : List Cell} {f : List Addr}, CRs T S G H vs cs f → vs.length = cs.length
  | _, _, _, .nil => rfl
  | _, _, _, .cons _ hs => by rw [List.length_cons, List.length_cons, CRs.length hs]
theorem CRs.append : ∀ {vs ws : List V} {cs ds : List Cell} {f g : List Addr}, CRs T S G H vs cs f → CRs T S G H ws ds g → CRs T S G H (vs ++ ws) (cs ++ ds) (f ++ g)
  | _, _, _, _, _, _, .nil, s => s
  | _, _, _, _, _, _, .cons h hs, s => by
    rw [List.append_assoc]
    exact .cons h (CRs.append hs s)
-- plain items
theorem CRs.imms : ∀ {vs : List V} {cs : List Cell} {f : List Addr} {ds : List D}, CRs T S G H vs cs f → Q.imms cs = some ds → DVs T S G vs ds ∧ f = []
  | _, _, _, _, .nil, e => by
    cases e
    exact ⟨.nil, rfl⟩
  | _, _, _, _, .cons (c := c) (cs := cs) h hs, e => by
    cases h with
    | imm hd =>
      simp only [Q.imms] at e
      cases q : Q.imms cs with
      | none => rw [q] at e; cases e
      | some es =>
        rw [q] at e
        cases e
        obtain ⟨h1, h2⟩ := CRs.imms hs q
        subst h2
        exact ⟨.cons hd h1, rfl⟩
    | own _ _ _ => cases e
    | bor _ _ _ _ => cases e
    | obj _ _ _ _ _ _ => cases e
theorem CRs.of_imm : ∀ {vs : List V} {ds : List D}, DVs T S G vs ds → CRs T S G H vs (ds.map .imm) []
  | _, _, .nil => .nil
  | _, _, .cons h hs => .cons (f := []) (fs := []) (.imm h) (CRs.of_imm hs)
-- the data of a cell, over the whole heap
mutual
theorem CR.dv (e : Ex G H) : ∀ {v : V} {c : Cell} {f : List Addr} {d : D}, CR T S G H v c f → c.dat = some d → DV T S H v d
  | _, _, _, _, .imm h, q => by
    cases q
    exact h.mono e fun _ _ z => z
  | _, _, _, _, .own (cs := cs) h hs _, q => by
    simp only [Cell.dat] at q
    cases z : Cell.dats cs with
    | none => rw [z] at q; cases q
    | some ds =>
      rw [z] at q
      cases q
      exact .lst h (CRs.dv e hs z)
  | _, _, _, _, .bor (cs := cs) h hs _ _, q => by
    simp only [Cell.dat] at q
    cases z : Cell.dats cs with
    | none => rw [z] at q; cases q
    | some ds =>
      rw [z] at q
      cases q
      exact .lst h (CRs.dv e hs z)
  | _, _, _, _, .obj _ _ _ _ _ _, q => by cases q
theorem CRs.dv (e : Ex G H) : ∀ {vs : List V} {cs : List Cell} {f : List Addr} {ds : List D}, CRs T S G H vs cs f → Cell.dats cs = some ds → DVs T S H vs ds
  | _, _, _, _, .nil, q => by
    cases q
    exact .nil
  | _, _, _, _, .cons (c := c) (cs := cs) h hs, q => by
    simp only [Cell.dats] at q
    cases z1 : Cell.dat c with
    | none => rw [z1] at q; cases q
    | some d =>
      cases z2 : Cell.dats cs with
      | none => rw [z1, z2] at q; cases q
      | some es =>
        rw [z1, z2] at q
        cases q
        exact .cons (CR.dv e h z1) (CRs.dv e hs z2)
end
-- frozen: the addresses go to the ground
def frozen (G H : Hp) (f : List Addr) : Hp := fun a => if a ∈ f then H a else G a
theorem frozen_in {f : List Addr} {a : Addr} (h : a ∈ f) : frozen G H f a = H a := by
  unfold frozen; rw [if_pos h]
theorem frozen_out {f : List Addr} {a : Addr} (h : a ∉ f) : frozen G H f a = G a := by
  unfold frozen; rw [if_neg h]
theorem frozen_ex {f : List Addr} (h : ∀ a ∈ f, G a = none) : Ex G (frozen G H f) := fun a o e => by
  by_cases q : a ∈ f
  · rw [h a q] at e; cases e
  · rw [frozen_out q]; exact e
theorem frozen_le {f : List Addr} (h : Ex G H) : Ex (frozen G H f) H := fun a o e => by
  by_cases q : a ∈ f
  · rw [frozen_in q] at e; exact e
  · rw [frozen_out q] at e; exact h a o e
mutual
theorem CR.freeze {F : List Addr} (eF : Ex G (frozen G H F)) : ∀ {v : V} {c : Cell} {f : List Addr} {d : D}, CR T S G H v c f → (∀ a ∈ f, a ∈ F) → keepC c = some d → DV T S (frozen G H F) v d
  | _, _, _, _, .imm h, _, q => by
    simp only [keepC] at q
    cases q
    exact h.mono eF fun _ _ z => z
  | _, _, _, _, .own (cs := cs) h hs _, hF, q => by
    simp only [keepC] at q
    cases z : keepAll cs with
    | none => rw [z] at q; cases q
    | some ds =>
      rw [z] at q
      cases q
      exact .lst (by rw [frozen_in (hF _ List.mem_cons_self)]; exact h) (CRs.freeze eF hs (fun a ha => hF a (List.mem_cons_of_mem _ ha)) z)
  | _, _, _, _, .bor _ _ _ _, _, q => by simp only [keepC] at q; cases q
  | _, _, _, _, .obj _ _ _ _ _ _, _, q => by simp only [keepC] at q; cases q
theorem CRs.freeze {F : List Addr} (eF : Ex G (frozen G H F)) : ∀ {vs : List V} {cs : List Cell} {f : List Addr} {ds : List D}, CRs T S G H vs cs f → (∀ a ∈ f, a ∈ F) → keepAll cs = some ds → DVs T S (frozen G H F) vs ds
  | _, _, _, _, .nil, _, q => by
    simp only [keepAll] at q
    cases q
    exact .nil
  | _, _, _, _, .cons (c := c) (cs := cs) h hs, hF, q => by
    simp only [keepAll] at q
    cases z1 : keepC c with
    | none => rw [z1] at q; cases q
    | some d =>
      cases z2 : keepAll cs with
      | none => rw [z1, z2] at q; cases q
      | some es =>
        rw [z1, z2] at q
        cases q
        exact .cons (CR.freeze eF h (fun a ha => hF a (List.mem_append_left _ ha)) z1) (CRs.freeze eF hs (fun a ha => hF a (List.mem_append_right _ ha)) z2)
end

-- a change elsewhere
mutual
theorem CR.upd {p : Addr} {o : HO} : ∀ {v : V} {c : Cell} {f : List Addr}, CR T S G H v c f → held c = true → p ∉ f → CR T S G (upd H p o) v c f
  | _, _, _, .imm h, _, _ => .imm h
  | _, _, _, .own h hs ho, _, hp => .own (by rw [upd_ne fun z => hp (by rw [← z]; exact List.mem_cons_self)]; exact h) (CRs.upd hs ho fun z => hp (List.mem_cons_of_mem _ z)) ho
  | _, _, _, .bor _ _ _ _, q, _ => by cases q
  | _, _, _, .obj hc h h2 hn hl hd, _, hp => .obj hc (by rw [upd_ne fun z => hp (by rw [← z]; exact List.mem_cons_self)]; exact h) (by rw [upd_ne fun z => hp (by rw [← z]; exact List.mem_cons_of_mem _ List.mem_cons_self)]; exact h2) hn hl hd
theorem CRs.upd {p : Addr} {o : HO} : ∀ {vs : List V} {cs : List Cell} {f : List Addr}, CRs T S G H vs cs f → cs.all ownable = true → p ∉ f → CRs T S G (upd H p o) vs cs f
  | _, _, _, .nil, _, _ => .nil
  | _, _, _, .cons (c := c) h hs, q, hp => by
    rw [List.all_cons, Bool.and_eq_true] at q
    exact .cons (CR.upd h (by cases c <;> first | rfl | cases q.1) fun z => hp (List.mem_append_left _ z)) (CRs.upd hs q.2 fun z => hp (List.mem_append_right _ z))
end
theorem own_imms (ds : List D) : (ds.map Cell.imm).all ownable = true := by
  rw [List.all_map]
  exact List.all_eq_true.mpr fun _ _ => rfl

/-! ### the world behind the abstract heap -/
structure Wd where
  G : Hp
  S : List Addr
  st : Store
structure StR (T : Tabs) (H : Hp) (w : Wd) : Prop where
  len : w.S.length = w.st.length
  at_ : ∀ (k : Nat) (a : Addr) (ds : List D), w.S[k]? = some a → w.st[k]? = some ds → ∃ vs, H a = some (.lst vs) ∧ DVs T w.S w.G vs ds
structure Ok (T : Tabs) (H : Hp) (w : Wd) : Prop where
  ex : Ex w.G H
  st : StR T H w
  nd : w.S.Nodup
  gS : ∀ a ∈ w.S, w.G a = none
-- from H, w to H', w'
structure Step (T : Tabs) (H : Hp) (w : Wd) (H' : Hp) (w' : Wd) : Prop where
  ok : Ok T H' w'
  exG : Ex w.G w'.G
  fr : ∀ a o, H a = some o → a ∉ w.S → H' a = some o
  nw : ∀ a, w'.G a = none ∨ w.G a ≠ none ∨ H a = none
  sx : SExt w.S w'.S
  sn : ∀ a, a ∈ w'.S → a ∈ w.S ∨ H a = none
theorem Ok.sdom {H : Hp} {w : Wd} (k : Ok T H w) {a : Addr} (h : a ∈ w.S) : ∃ o, H a = some o := by
  obtain ⟨i, hi, e⟩ := List.mem_iff_getElem.mp h
  have h1 : w.S[i]? = some a := by rw [List.getElem?_eq_getElem hi, e]
  have h2 : i < w.st.length := by rw [← k.st.len]; exact hi
  obtain ⟨vs, hv, _⟩ := k.st.at_ i a (w.st[i]) h1 (List.getElem?_eq_getElem h2)
  exact ⟨_, hv⟩
theorem SExt.mem {S S' : List Addr} (h : SExt S S') {a : Addr} (m : a ∈ S) : a ∈ S' := by
  obtain ⟨i, hi, e⟩ := List.mem_iff_getElem.mp m
  exact List.mem_of_getElem? (h i a (by rw [List.getElem?_eq_getElem hi, e]))
theorem Step.refl {H : Hp} {w : Wd} (k : Ok T H w) : Step T H w H w :=
  ⟨k, Same.refl _, fun _ _ h _ => h, fun a => by
    cases q : w.G a with
    | none => exact .inl rfl
    | some o => exact .inr (.inl (fun z => nomatch z)), SExt.refl _, fun _ h => .inl h⟩
-- what stood stands
theorem Step.dom {H H' : Hp} {w w' : Wd} (s : Step T H w H' w') (k : Ok T H w) {a : Addr} (h : H' a = none) : H a = none := by
  cases q : H a with
  | none => rfl
  | some o =>
    by_cases m : a ∈ w.S
    · obtain ⟨o', e⟩ := s.ok.sdom (s.sx.mem m)
      rw [e] at h; cases h
    · rw [s.fr a o q m] at h; cases h
theorem Step.trans {H H1 H2 : Hp} {w w1 w2 : Wd} (k : Ok T H w) (a : Step T H w H1 w1) (b : Step T H1 w1 H2 w2) : Step T H w H2 w2 where
  ok := b.ok
  exG := a.exG.trans b.exG
  fr := fun x o h m => b.fr x o (a.fr x o h m) fun q => by
    rcases a.sn x q with z | z
    · exact m z
    · rw [h] at z; cases z
  nw := fun x => by
    rcases b.nw x with h | h | h
    · exact .inl h
    · rcases a.nw x with h' | h' | h'
      · exact absurd h' h
      · exact .inr (.inl h')
      · exact .inr (.inr h')
    · exact .inr (.inr (a.dom k h))
  sx := fun i x h => b.sx i x (a.sx i x h)
  sn := fun x h => by
    rcases b.sn x h with z | z
    · exact a.sn x z
    · exact .inr (a.dom k z)
-- a cell lives through a step
theorem CR.step {H H' : Hp} {w w' : Wd} {v : V} {c : Cell} {f : List Addr} (s : Step T H w H' w') (h : CR T w.S w.G H v c f) (hd : ∀ a ∈ f, a ∉ w.S) : CR T w'.S w'.G H' v c f := h.mv s.exG s.sx s.sn s.fr hd
theorem CRs.step {H H' : Hp} {w w' : Wd} {v : List V} {c : List Cell} {f : List Addr} (s : Step T H w H' w') (h : CRs T w.S w.G H v c f) (hd : ∀ a ∈ f, a ∉ w.S) : CRs T w'.S w'.G H' v c f := h.mv s.exG s.sx s.sn s.fr hd
-- new in H: nobody else's
structure Fr (H : Hp) (w' : Wd) (f : List Addr) : Prop where
  nd : f.Nodup
  nw : ∀ a ∈ f, H a = none ∧ w'.G a = none ∧ a ∉ w'.S
theorem Fr.nil {H : Hp} {w : Wd} : Fr H w [] := ⟨List.nodup_nil, fun _ h => nomatch h⟩
theorem Fr.step {H H1 H2 : Hp} {w1 w2 : Wd} {f : List Addr} (h : Fr H w1 f) (s : Step T H1 w1 H2 w2) (hd : ∀ a ∈ f, ∃ o, H1 a = some o) : Fr H w2 f := by
  refine ⟨h.nd, fun a ha => ?_⟩
  obtain ⟨h1, h2, h3⟩ := h.nw a ha
  obtain ⟨o, ho⟩ := hd a ha
  refine ⟨h1, ?_, fun m => ?_⟩
  · rcases s.nw a with z | z | z
    · exact z
    · exact absurd h2 z
    · rw [ho] at z; cases z
  · rcases s.sn a m with z | z
    · exact h3 z
    · rw [ho] at z; cases z
theorem Fr.back {H H1 : Hp} {w : Wd} {f : List Addr} (h : Fr H1 w f) (hd : ∀ a, H1 a = none → H a = none) : Fr H w f := ⟨h.nd, fun a ha => ⟨hd a (h.nw a ha).1, (h.nw a ha).2⟩⟩
-- two results, one behind the other
theorem Fr.app {H H1 : Hp} {w2 : Wd} {f g : List Addr} (h : Fr H w2 f) (h' : Fr H1 w2 g) (hd : ∀ a, H1 a = none → H a = none) (hf : ∀ a ∈ f, ∃ o, H1 a = some o) : Fr H w2 (f ++ g) := by
  refine ⟨List.nodup_append.mpr ⟨h.nd, h'.nd, fun a ha b hb e => ?_⟩, fun a ha => ?_⟩
  · subst e
    obtain ⟨o, ho⟩ := hf a ha
    rw [(h'.nw a hb).1] at ho; cases ho
  · rcases List.mem_append.mp ha with z | z
    · exact h.nw a z
    · exact (h'.back hd).nw a z
-- something new is laid, and goes to the ground or not
theorem Ok.new {H : Hp} {w : Wd} {p : Addr} {o : HO} (k : Ok T H w) (h : H p = none) : Ok T (upd H p o) w where
  ex := fun a u e => by rw [upd_ne (ne_of_none (k.ex a u e) h)]; exact k.ex a u e
  st := ⟨k.st.len, fun i a ds h1 h2 => by
    obtain ⟨vs, h3, h4⟩ := k.st.at_ i a ds h1 h2
    exact ⟨vs, by rw [upd_ne (ne_of_none h3 h)]; exact h3, h4⟩⟩
  nd := k.nd
  gS := k.gS
theorem Step.new {H : Hp} {w : Wd} {p : Addr} {o : HO} (k : Ok T H w) (h : H p = none) : Step T H w (upd H p o) w :=
  ⟨k.new h, Same.refl _, fun a u e _ => by rw [upd_ne (ne_of_none e h)]; exact e, (Step.refl k).nw, SExt.refl _, fun _ m => .inl m⟩
-- own addresses go to the ground
theorem Ok.freeze {H : Hp} {w : Wd} {f : List Addr} (k : Ok T H w) (h : ∀ a ∈ f, w.G a = none ∧ a ∉ w.S) : Ok T H { w with G := frozen w.G H f } where
  ex := frozen_le k.ex
  st := ⟨k.st.len, fun i a ds h1 h2 => by
    obtain ⟨vs, h3, h4⟩ := k.st.at_ i a ds h1 h2
    exact ⟨vs, h3, h4.mono (frozen_ex fun a ha => (h a ha).1) (SExt.refl _)⟩⟩
  nd := k.nd
  gS := fun a ha => by
    show frozen w.G H f a = none
    rw [frozen_out fun z => (h a z).2 ha]
    exact k.gS a ha
-- behind a step, what is new to H0 goes to the ground
theorem Step.freeze {H0 H : Hp} {w0 w : Wd} {f : List Addr} (s : Step T H0 w0 H w) (h : ∀ a ∈ f, H0 a = none ∧ w.G a = none ∧ a ∉ w.S) : Step T H0 w0 H { w with G := frozen w.G H f } where
  ok := s.ok.freeze fun a ha => (h a ha).2
  exG := s.exG.trans (frozen_ex fun a ha => (h a ha).2.1)
  fr := s.fr
  nw := fun a => by
    by_cases m : a ∈ f
    · exact .inr (.inr (h a m).1)
    · show frozen w.G H f a = none ∨ _
      rw [frozen_out m]
      exact s.nw a
  sx := s.sx
  sn := s.sn
end
end Q

set_option maxRecDepth 100000
set_option maxHeartbeats 1000000
namespace Q
open PySem L2

section
variable {T : Tabs} {S : List Addr} {G H : Hp} {w : Wd}
def Got (T : Tabs) (H : Hp) (w : Wd) (st' : Store) (c : Cell) (Q : VK) : Prop :=
  ∀ v H' w' fp, w'.st = st' → Step T H w H' w' → CR T w'.S w'.G H' v c fp → Fr H w' fp → Q v H'
theorem got_here {d : D} {v : V} {Q : VK} (k : Ok T H w) (h : DV T w.S w.G v d) (q : Got T H w w.st (.imm d) Q) : Q v H :=
  q v H w [] rfl (Step.refl k) (.imm h) Fr.nil
theorem got_cell {c : Cell} {v : V} {Q : VK} (k : Ok T H w) (h : CR T w.S w.G H v c []) (q : Got T H w w.st c Q) : Q v H :=
  q v H w [] rfl (Step.refl k) h Fr.nil
theorem got_lst {vs : List V} {cs : List Cell} {p : Addr} {Q : VK} (k : Ok T H w) (hp : H p = none) (h : CRs T w.S w.G H vs cs []) (ho : cs.all ownable = true) (q : Got T H w w.st (.own cs) Q) : Q (.ref p) (upd H p (.lst vs)) := by
  have s : Step T H w (upd H p (.lst vs)) w := Step.new k hp
  have gp : w.G p = none := by
    cases e : w.G p with
    | none => rfl
    | some o => rw [k.ex p o e] at hp; cases hp
  refine q _ _ w [p] rfl s (.own upd_same (h.step s fun _ z => nomatch z) ho) ⟨by simp, fun a ha => ?_⟩
  obtain rfl : a = p := by simpa using ha
  exact ⟨hp, gp, fun m => by
    obtain ⟨o, e⟩ := k.sdom m
    rw [e] at hp; cases hp⟩
theorem got_tup {vs : List V} {ds : List D} {p : Addr} {Q : VK} (k : Ok T H w) (hp : H p = none) (h : DVs T w.S w.G vs ds) (q : Got T H w w.st (.imm (.tup ds)) Q) : Q (.ref p) (upd H p (.tup vs)) := by
  have s : Step T H w (upd H p (.tup vs)) w := Step.new k hp
  have gp : w.G p = none := by
    cases e : w.G p with
    | none => rfl
    | some o => rw [k.ex p o e] at hp; cases hp
  have sp : p ∉ w.S := fun m => by
    obtain ⟨o, e⟩ := k.sdom m
    rw [e] at hp; cases hp
  have s2 := s.freeze (f := [p]) fun a ha => by
    obtain rfl : a = p := by simpa using ha
    exact ⟨hp, gp, sp⟩
  refine q _ _ { w with G := frozen w.G (upd H p (.tup vs)) [p] } [] rfl s2 (.imm (.tup ?_ (h.mono s2.exG s2.sx))) Fr.nil
  show frozen w.G (upd H p (.tup vs)) [p] p = _
  rw [frozen_in (by simp)]
  exact upd_same

/-! ### flat data -/
theorem DV.flat {v : V} {d : D} (h : DV T S H v d) (f : flatD d = true) : v = d.toV ∧ flatV v = true := by
  cases h with
  | non => exact ⟨rfl, rfl⟩
  | bl b => exact ⟨rfl, rfl⟩
  | int b => exact ⟨rfl, rfl⟩
  | str b => exact ⟨rfl, rfl⟩
  | tup _ _ => cases f
  | lst _ _ => cases f
  | scr _ _ => cases f
  | ins _ _ _ _ => cases f
  | sref _ => cases f
theorem DVs.flat : ∀ {vs : List V} {ds : List D}, DVs T S H vs ds → ds.all flatD = true → vs = ds.map D.toV ∧ vs.all flatV = true
  | _, _, .nil, _ => ⟨rfl, rfl⟩
  | _, _, .cons h hs, f => by
    rw [List.all_cons, Bool.and_eq_true] at f
    obtain ⟨h1, h2⟩ := h.flat f.1
    obtain ⟨h3, h4⟩ := DVs.flat hs f.2
    exact ⟨by rw [List.map_cons, ← h1, ← h3], by rw [List.all_cons, h2, h4]; rfl⟩
theorem DV.isNone {v : V} {d : D} (h : DV T S H v d) : decide (v = .non) = Q.isNone d := by
  cases h <;> first | rfl | exact decide_eq_false fun z => nomatch z

/-! ### data of the library -/
mutual
theorem DV.dp : ∀ {v : V} {d : D} {p : PyData}, DV T S H v d → d.py = some p → Dp T.K H v p
  | _, _, _, .non, e => by simp only [D.py] at e; cases e; exact .non
  | _, _, _, .bl b, e => by simp only [D.py] at e; cases e; exact .bl b
  | _, _, _, .int b, e => by simp only [D.py] at e; cases e; exact .int b
  | _, _, _, .str b, e => by simp only [D.py] at e; cases e; exact .str b
  | _, _, _, .tup (ds := ds) h hd, e => by
    simp only [D.py] at e
    cases z : D.pys ds with
    | none => rw [z] at e; cases e
    | some ys =>
      rw [z] at e; cases e
      exact .tup (SqT.of h) (DVs.dp hd z)
  | _, _, _, .lst (ds := ds) h hd, e => by
    simp only [D.py] at e
    cases z : D.pys ds with
    | none => rw [z] at e; cases e
    | some ys =>
      rw [z] at e; cases e
      exact .lst (SqL.of h) (DVs.dp hd z)
  | _, _, _, .scr _ _, e => by simp only [D.py] at e; cases e
  | _, _, _, .ins _ _ _ _, e => by simp only [D.py] at e; cases e
  | _, _, _, .sref _, e => by simp only [D.py] at e; cases e
theorem DVs.dp : ∀ {vs : List V} {ds : List D} {ps : List PyData}, DVs T S H vs ds → D.pys ds = some ps → DpAll T.K H vs ps
  | _, _, _, .nil, e => by simp only [D.pys] at e; cases e; exact .nil
  | _, _, _, .cons (d := d) (ds := ds) h hs, e => by
    simp only [D.pys] at e
    cases z1 : d.py with
    | none => rw [z1] at e; cases e
    | some y =>
      cases z2 : D.pys ds with
      | none => rw [z1, z2] at e; cases e
      | some ys =>
        rw [z1, z2] at e; cases e
        exact .cons (DV.dp h z1) (DVs.dp hs z2)
end

/-! ### sequences -/
theorem CR.lst {v : V} {c : Cell} {f : List Addr} {ds : List D} (e : Ex G H) (h : CR T S G H v c f) (q : lstItems c = some ds) : ∃ a vs, v = .ref a ∧ H a = some (.lst vs) ∧ DVs T S G vs ds := by
  cases h with
  | imm hd =>
    cases hd <;> first | cases q | skip
    rename_i a vs h1 h2
    exact ⟨_, _, rfl, e _ _ h1, h2⟩
  | own h1 h2 _ =>
    obtain ⟨h3, _⟩ := h2.imms q
    exact ⟨_, _, rfl, h1, h3⟩
  | bor h1 h2 _ _ =>
    obtain ⟨h3, _⟩ := h2.imms q
    exact ⟨_, _, rfl, h1, h3⟩
  | obj _ _ _ _ _ _ => cases q
theorem CR.seq {v : V} {c : Cell} {f : List Addr} {ds : List D} (e : Ex G H) (h : CR T S G H v c f) (q : seqItems c = some ds) : ∃ a vs, v = .ref a ∧ (SqL T.K H a vs ∨ SqT T.K H a vs) ∧ DVs T S G vs ds := by
  cases h with
  | imm hd =>
    cases hd <;> first | cases q | skip
    · rename_i a vs h1 h2
      exact ⟨_, _, rfl, .inr (SqT.of (e _ _ h1)), h2⟩
    · rename_i a vs h1 h2
      exact ⟨_, _, rfl, .inl (SqL.of (e _ _ h1)), h2⟩
    · rename_i a vs h1 h2
      exact ⟨_, _, rfl, .inl (e.seq h1), h2⟩
  | own h1 h2 _ =>
    obtain ⟨h3, _⟩ := h2.imms q
    exact ⟨_, _, rfl, .inl (SqL.of h1), h3⟩
  | bor h1 h2 _ _ =>
    obtain ⟨h3, _⟩ := h2.imms q
    exact ⟨_, _, rfl, .inl (SqL.of h1), h3⟩
  | obj _ _ _ _ _ _ => cases q
theorem DVs.rep {vs : List V} {ds : List D} (h : DVs T S H vs ds) : ∀ k : Nat, DVs T S H (List.replicate k vs).flatten (List.replicate k ds).flatten
  | 0 => .nil
  | k + 1 => by
    rw [List.replicate_succ, List.replicate_succ, List.flatten_cons, List.flatten_cons]
    exact h.append (DVs.rep h k)
end
theorem small_le {n : Nat} (h : small n = true) : n ≤ sizeLine := by
  have := of_decide_eq_true h
  rw [sizeLine_eq]; omega

/-! ### operators -/
def rB (T : Tabs) (o : Op) : R2 := fun x y H Q => ∃ w cx cy fx fy c, Ok T H w ∧ CR T w.S w.G H x cx fx ∧ CR T w.S w.G H y cy fy ∧ binC o cx cy = some c ∧ Got T H w w.st c Q
-- the data's answer
theorem via_inv {o : Op} {x y c : Cell} (h : viaD o x y = some c) : ∃ a b d, x.dat = some a ∧ y.dat = some b ∧ bopD o a b = some d ∧ c = .imm d := by
  unfold viaD at h
  cases h1 : x.dat with
  | none => rw [h1] at h; cases h
  | some a =>
    cases h2 : y.dat with
    | none => rw [h1, h2] at h; cases h
    | some b =>
      rw [h1, h2] at h
      cases h3 : bopD o a b with
      | none => simp only [h3, Option.map_none] at h; cases h
      | some d =>
        simp only [h3, Option.map_some] at h
        cases h
        exact ⟨a, b, d, rfl, rfl, h3, rfl⟩
section
variable {X : Cx} {T : Tabs}
-- ints
theorem CR.int {S : List Addr} {G H : Hp} {v : V} {c : Cell} {f : List Addr} {i : Int} (h : CR T S G H v c f) (e : c.dat = some (.int i)) : v = .int i := by
  cases h with
  | imm hd =>
    simp only [Cell.dat] at e
    cases e
    cases hd; rfl
  | own _ _ _ => simp only [Cell.dat] at e; split at e <;> cases e
  | bor _ _ _ _ => simp only [Cell.dat] at e; split at e <;> cases e
  | obj _ _ _ _ _ _ => simp only [Cell.dat] at e; cases e
theorem CR.str {S : List Addr} {G H : Hp} {v : V} {c : Cell} {f : List Addr} {i : Str} (h : CR T S G H v c f) (e : c.dat = some (.str i)) : v = .str i := by
  cases h with
  | imm hd =>
    simp only [Cell.dat] at e
    cases e
    cases hd; rfl
  | own _ _ _ => simp only [Cell.dat] at e; split at e <;> cases e
  | bor _ _ _ _ => simp only [Cell.dat] at e; split at e <;> cases e
  | obj _ _ _ _ _ _ => simp only [Cell.dat] at e; cases e
theorem CR.tup {S : List Addr} {G H : Hp} {v : V} {c : Cell} {f : List Addr} {ds : List D} (h : CR T S G H v c f) (e : c.dat = some (.tup ds)) : ∃ a vs, v = .ref a ∧ G a = some (.tup vs) ∧ DVs T S G vs ds := by
  cases h with
  | imm hd =>
    simp only [Cell.dat] at e
    cases e
    cases hd
    exact ⟨_, _, rfl, by assumption, by assumption⟩
  | own _ _ _ => simp only [Cell.dat] at e; split at e <;> cases e
  | bor _ _ _ _ => simp only [Cell.dat] at e; split at e <;> cases e
  | obj _ _ _ _ _ _ => simp only [Cell.dat] at e; cases e

theorem opr_sub : OpR X (binaryOp .Sub) (rB T .sub) := by
  intro pins s σ H x y u v Q I ru rv h
  obtain ⟨w, cx, cy, fx, fy, c, k, hx, hy, e, q⟩ := h
  obtain ⟨a, b, d, e1, e2, e3, rfl⟩ := via_inv (show viaD .sub cx cy = some c from e)
  cases a <;> cases b <;> first | (cases e3; done) | skip
  cases e3
  cases hx.int e1
  cases hy.int e2
  exact op_sub pins s σ H _ _ _ _ _ I ru rv ⟨_, _, rfl, rfl, got_here k (.int _) q⟩
theorem opr_lt : OpR X (compareOp .Lt) (rB T .lt) := by
  intro pins s σ H x y u v Q I ru rv h
  obtain ⟨w, cx, cy, fx, fy, c, k, hx, hy, e, q⟩ := h
  obtain ⟨a, b, d, e1, e2, e3, rfl⟩ := via_inv (show viaD .lt cx cy = some c from e)
  cases a <;> cases b <;> first | (cases e3; done) | skip
  cases e3
  cases hx.int e1
  cases hy.int e2
  exact op_lt pins s σ H _ _ _ _ _ I ru rv ⟨_, _, rfl, rfl, got_here k (.bl _) q⟩
theorem opr_le : OpR X (compareOp .LtE) (rB T .le) := by
  intro pins s σ H x y u v Q I ru rv h
  obtain ⟨w, cx, cy, fx, fy, c, k, hx, hy, e, q⟩ := h
  obtain ⟨a, b, d, e1, e2, e3, rfl⟩ := via_inv (show viaD .le cx cy = some c from e)
  cases a <;> cases b <;> first | (cases e3; done) | skip
  cases e3
  cases hx.int e1
  cases hy.int e2
  exact op_le pins s σ H _ _ _ _ _ I ru rv ⟨_, _, rfl, rfl, got_here k (.bl _) q⟩
theorem opr_gt : OpR X (compareOp .Gt) (rB T .gt) := by
  intro pins s σ H x y u v Q I ru rv h
  obtain ⟨w, cx, cy, fx, fy, c, k, hx, hy, e, q⟩ := h
  obtain ⟨a, b, d, e1, e2, e3, rfl⟩ := via_inv (show viaD .gt cx cy = some c from e)
  cases a <;> cases b <;> first | (cases e3; done) | skip
  cases e3
  cases hx.int e1
  cases hy.int e2
  exact op_gt pins s σ H _ _ _ _ _ I ru rv ⟨_, _, rfl, rfl, got_here k (.bl _) q⟩
theorem opr_ge : OpR X (compareOp .GtE) (rB T .ge) := by
  intro pins s σ H x y u v Q I ru rv h
  obtain ⟨w, cx, cy, fx, fy, c, k, hx, hy, e, q⟩ := h
  obtain ⟨a, b, d, e1, e2, e3, rfl⟩ := via_inv (show viaD .ge cx cy = some c from e)
  cases a <;> cases b <;> first | (cases e3; done) | skip
  cases e3
  cases hx.int e1
  cases hy.int e2
  exact op_ge pins s σ H _ _ _ _ _ I ru rv ⟨_, _, rfl, rfl, got_here k (.bl _) q⟩
theorem opr_mod : OpR X (binaryOp .Mod) (rB T .mod) := by
  intro pins s σ H x y u v Q I ru rv h
  obtain ⟨w, cx, cy, fx, fy, c, k, hx, hy, e, q⟩ := h
  obtain ⟨a, b, d, e1, e2, e3, rfl⟩ := via_inv (show viaD .mod cx cy = some c from e)
  cases a <;> cases b <;> first | (cases e3; done) | skip
  simp only [bopD] at e3
  split at e3
  · cases e3
    cases hx.int e1
    cases hy.int e2
    exact op_mod pins s σ H _ _ _ _ _ I ru rv ⟨_, _, rfl, rfl, by assumption, got_here k (.int _) q⟩
  · cases e3
theorem opr_fdiv : OpR X (binaryOp .FloorDiv) (rB T .fdiv) := by
  intro pins s σ H x y u v Q I ru rv h
  obtain ⟨w, cx, cy, fx, fy, c, k, hx, hy, e, q⟩ := h
  obtain ⟨a, b, d, e1, e2, e3, rfl⟩ := via_inv (show viaD .fdiv cx cy = some c from e)
  cases a <;> cases b <;> first | (cases e3; done) | skip
  simp only [bopD] at e3
  split at e3
  · rename_i hc
    cases e3
    cases hx.int e1
    cases hy.int e2
    exact op_fdivW pins s σ H _ _ _ _ _ I ru rv ⟨_, _, rfl, rfl, hc, got_here k (.int _) q⟩
  · cases e3
theorem opr_pow : OpR X (binaryOp .Pow) (rB T .pow) := by
  intro pins s σ H x y u v Q I ru rv h
  obtain ⟨w, cx, cy, fx, fy, c, k, hx, hy, e, q⟩ := h
  obtain ⟨a, b, d, e1, e2, e3, rfl⟩ := via_inv (show viaD .pow cx cy = some c from e)
  cases a <;> cases b <;> first | (cases e3; done) | skip
  simp only [bopD] at e3
  split at e3
  · rename_i hc
    cases e3
    cases hx.int e1
    cases hy.int e2
    exact op_pow pins s σ H _ _ _ _ _ I ru rv ⟨_, _, rfl, rfl, hc, got_here k (.int _) q⟩
  · cases e3
theorem bits_mul {i j : Int} (h : bitsOk i j = true) : IntMulOk i j := by
  have h := of_decide_eq_true h
  have b : ∀ x : Int, Builtin.Int.intBits x ≤ x.natAbs.log2 + 1 := fun x => by
    unfold Builtin.Int.intBits
    split <;> omega
  have h1 := b i
  have h2 := b j
  have e : bitsLine = 134217728 := by decide
  unfold IntMulOk
  intro z
  rw [Bool.and_eq_true] at z
  have z2 := z.2
  unfold Builtin.Int.intTooBig at z2
  have z3 := of_decide_eq_true z2
  rw [e] at z3
  omega
theorem op_mulB : OpR X (binaryOp .Mult) (rI (fun i j => bitsOk i j = true) fun i j => .int (i * j)) := opI fun _ _ _ _ _ _ _ hc q => PyProof.Rows.mul_int q (bits_mul hc)
theorem rep_size {α : Type} (c : Array α) : ∀ (m : Nat) (acc : Array α), ((List.replicate m c).foldl (· ++ ·) acc).size = acc.size + m * c.size
  | 0, acc => by simp
  | m + 1, acc => by
    rw [List.replicate_succ, List.foldl_cons, rep_size c m, Array.size_append, Nat.succ_mul]
    omega
theorem op_repS {pins : List (Addr × Obj)} {s : Shared} {σ : L2.St} {H : Hp} {z : Str} {n : Int} {u v : Value} {Q : VK} (I : Inv X pins σ H s) (ru : RelV (.str z) u) (rv : RelV (.int n) v) (h1 : 1 ≤ n) (h2 : n ≤ 1000) (h3 : z.length ≤ 1000)
    (q : Q (.str ⟨(List.replicate n.toNat z.cps).foldl (· ++ ·) #[]⟩) H) : wpAny (model X.prog X.w) X.A (binaryOp .Mult u v) (EP X pins σ Q) X.xe s := by
  obtain ⟨t, rfl⟩ := ru
  obtain ⟨t', rfl⟩ := rv
  have hb : ¬ ((z.length : Int) > (2 ^ 63 - 1) / n) := by
    have : (1000 : Int) ≤ (2 ^ 63 - 1) / n := Int.le_ediv_of_mul_le (by omega) (by omega)
    omega
  refine PySem.P.mul_str (by rw [decide_eq_false (by omega), decide_eq_false (by omega)]; rfl) (fun _ _ => hb) (fun _ _ => ?_) ?_
  · unfold Builtin.Str.tooLong
    rw [sizeLine_eq]
    have : z.length * n.toNat ≤ 1000 * 1000 := Nat.mul_le_mul h3 (by omega)
    exact decide_eq_false (by omega)
  · rw [if_neg (by omega)]
    by_cases h : (n == 1 || z.length == 0) = true
    · rw [if_pos h]
      refine ⟨.str _, H, I, ⟨t, ?_⟩, q⟩
      rw [Bool.or_eq_true, beq_iff_eq, beq_iff_eq] at h
      have e : (⟨(List.replicate n.toNat z.cps).foldl (· ++ ·) #[]⟩ : Str) = z := by
        obtain ⟨cs⟩ := z
        rcases h with h | h
        · subst h
          simp
        · have hc : cs = #[] := Array.eq_empty_of_size_eq_zero h
          subst hc
          congr 1
          induction n.toNat with
          | zero => rfl
          | succ m ih => rw [List.replicate_succ, List.foldl_cons]; exact ih
      rw [e]
    · rw [if_neg h]
      refine ⟨?_, .str _, H, I.tok _, ⟨_, rfl⟩, q⟩
      show Array.size _ ≤ _
      have hc : z.cps.size ≤ 1000 := h3
      rw [rep_size, sizeLine_eq]
      have : n.toNat * z.cps.size ≤ 1000 * 1000 := Nat.mul_le_mul (by omega) hc
      simp only [List.size_toArray, List.length_nil]
      omega
theorem tuple_mul1 (l : Addr) (items : Array Value) (n : Nat) (dd : Option Addr) (sl : Array (Option Value)) (u : Tok) :
    Meets (Builtin.«tuple.__mul__» ⟨[.ref l, .int 1 u], []⟩) (fun _ R s => s.heap.get? l = some { cls := .type "tuple", dict := dd, data := .seq items n, slots := sl } ∧ R (.ok (.ret (Value.ref l))) s) :=
  .of_wp fun prog w A R s h => by
    obtain ⟨hp, g, d, tk, os⟩ := s
    obtain ⟨hl, h⟩ := h
    have f1 := AutoSeq1.idx_int
    wp_walk using wpAny_loadPart' hl
    repeat (first
      | (refine wpAny_ite_false (decide_eq_false (by decide)) ?_; wp_walk using wpAny_loadPart' hl)
      | (refine wpAny_ite_true (decide_eq_true (by simp)) ?_; wp_walk using wpAny_loadPart' hl))
    exact ⟨_, rfl, h⟩
theorem op_repT1 {pins : List (Addr × Obj)} {s : Shared} {σ : L2.St} {H : Hp} {l : Addr} {xs : List V} {u v : Value} {Q : VK} (I : Inv X pins σ H s) (ru : RelV (.ref l) u) (rv : RelV (.int 1) v) (hT : SqT X.K H l xs) (q : Q (.ref l) H) :
    wpAny (model X.prog X.w) X.A (binaryOp .Mult u v) (EP X pins σ Q) X.xe s := by
  cases ru
  obtain ⟨t, rfl⟩ := rv
  obtain ⟨its, r, ⟨⟨cls, dd, data, sl⟩, ho, hc, n, hd⟩, hs⟩ := I.tuple hT
  simp only at hc hd
  subst hc hd
  refine wpAny_binaryOp_repeat_ref (T := "tuple") (U := "int") (by decide) ⟨_, ho, rfl⟩ (fun s' => typeIs_int s' 1 t) noFill_tuple_mul F.fills_int_mul F.slot_int_rmul repeat_tuple F.slot_int_index.lookup
    (call_meets F.slot_int_rmul (typeIs_int s 1 t) F.entry_int_rmul (F.args_int_rmul_2 _ _) (int_rmul_tuple 1 t l its.toArray n dd sl)
      ⟨ho, rfl, ⟨_, ho, rfl⟩, call_meets F.slot_tuple_mul ⟨_, ho, rfl⟩ F.entry_tuple_mul (F.args_tuple_mul_2 _ _) (tuple_mul1 l its.toArray n dd sl t) ⟨ho, ?_⟩⟩)
  exact ⟨.ref l, H, I, rfl, q⟩
theorem opr_mulD {pins : List (Addr × Obj)} {s : Shared} {σ : L2.St} {H : Hp} {x y : V} {u v : Value} {Q : VK} (I : Inv X pins σ H s) (ru : RelV x u) (rv : RelV y v) {w : Wd} {cx cy c : Cell} {fx fy : List Addr} (k : Ok T H w) (hx : CR T w.S w.G H x cx fx) (hy : CR T w.S w.G H y cy fy) (e : viaD .mul cx cy = some c) (q : Got T H w w.st c Q) :
    wpAny (model X.prog X.w) X.A (binaryOp .Mult u v) (EP X pins σ Q) X.xe s := by
  obtain ⟨a, b, d, e1, e2, e3, rfl⟩ := via_inv e
  cases a <;> cases b <;> first | (cases e3; done) | skip
  · simp only [bopD] at e3
    split at e3
    · rename_i hc
      cases e3
      cases hx.int e1
      cases hy.int e2
      exact op_mulB pins s σ H _ _ _ _ _ I ru rv ⟨_, _, rfl, rfl, hc, got_here k (.int _) q⟩
    · cases e3
  · simp only [bopD] at e3
    split at e3
    · rename_i hc
      cases e3
      cases hx.str e1
      cases hy.int e2
      exact op_repS I ru rv hc.1 hc.2.1 hc.2.2 (got_here k (.str _) q)
    · cases e3
  · simp only [bopD] at e3
    split at e3
    · rename_i hc
      cases e3
      cases hy.int e2
      obtain ⟨h1, h2, h3, h4⟩ := hc
      obtain ⟨a, vs, rfl, ha, hv⟩ := hx.tup e1
      have hlen := hv.length
      have hT : SqT X.K H a vs := SqT.of (k.ex _ _ ha)
      rename_i xs kk
      by_cases hk : kk = 1
      · subst hk
        have hr : (List.replicate (1 : Int).toNat xs).flatten = xs := by simp
        rw [hr] at q
        exact op_repT1 I ru rv hT (got_here k (.tup ha hv) q)
      · refine op_repT pins s σ H _ _ _ _ _ I ru rv ⟨a, kk, vs, rfl, rfl, hT, fun z => ?_, by omega, h2, by omega, fun p hp => got_tup k hp (hv.rep _) q⟩
        rw [z] at hlen
        cases xs with
        | nil => cases h4
        | cons _ _ => cases hlen
    · cases e3
theorem opr_mul : OpR X (binaryOp .Mult) (rB T .mul) := by
  intro pins s σ H x y u v Q I ru rv h
  obtain ⟨w, cx, cy, fx, fy, c, k, hx, hy, e, q⟩ := h
  simp only [binC] at e
  split at e
  · rename_i a n ea
    split at e
    · rename_i hc
      cases e
      simp only [Bool.and_eq_true, decide_eq_true_eq] at hc
      obtain ⟨⟨hc1, hc2⟩, hc3⟩ := hc
      obtain ⟨l, vs, rfl, hl, hd⟩ := hx.lst k.ex ea
      cases hy.int rfl
      have hlen := hd.length
      refine op_rep pins s σ H _ _ _ _ _ I ru rv ⟨_, _, _, rfl, rfl, hl, by omega, by omega, by rw [hlen]; exact small_le hc2, fun p hp => ?_⟩
      exact got_lst k hp (CRs.of_imm (hd.rep _)) (own_imms _) q
    · cases e
  · exact opr_mulD I ru rv k hx hy e q
theorem opr_add : OpR X (binaryOp .Add) (rB T .add) := by
  intro pins s σ H x y u v Q I ru rv h
  obtain ⟨w, cx, cy, fx, fy, c, k, hx, hy, e, q⟩ := h
  simp only [binC] at e
  split at e
  · rename_i a b ea eb
    split at e
    · rename_i hc
      cases e
      obtain ⟨l, vs, rfl, hl, hd⟩ := hx.lst k.ex ea
      obtain ⟨m, ws, rfl, hm, hd2⟩ := hy.lst k.ex eb
      have hlen := hd.length
      have hlen2 := hd2.length
      refine op_cat pins s σ H _ _ _ _ _ I ru rv ⟨_, _, _, _, rfl, rfl, hl, hm, by rw [hlen, hlen2]; exact small_le hc, fun p hp => ?_⟩
      exact got_lst k hp (CRs.of_imm (hd.append hd2)) (own_imms _) q
    · cases e
  · obtain ⟨a, b, d, e1, e2, e3, rfl⟩ := via_inv e
    cases a <;> cases b <;> first | (cases e3; done) | skip
    · cases e3
      cases hx.int e1
      cases hy.int e2
      exact op_add pins s σ H _ _ _ _ _ I ru rv ⟨_, _, rfl, rfl, got_here k (.int _) q⟩
    · simp only [bopD] at e3
      split at e3
      · rename_i hc
        cases e3
        cases hx.str e1
        cases hy.str e2
        exact op_add_str pins s σ H _ _ _ _ _ I ru rv ⟨_, _, rfl, rfl, small_le hc, got_here k (.str _) q⟩
      · cases e3
    · simp only [bopD] at e3
      split at e3
      · rename_i hc
        cases e3
        obtain ⟨l, vs, rfl, hl, hd⟩ := hx.tup e1
        obtain ⟨m, ws, rfl, hm, hd2⟩ := hy.tup e2
        have hlen := hd.length
        have hlen2 := hd2.length
        refine op_catA pins s σ H _ _ _ _ _ I ru rv ⟨_, _, _, _, rfl, rfl, SqT.of (k.ex _ _ hl), SqT.of (k.ex _ _ hm), by rw [hlen, hlen2]; exact small_le hc, fun z => ?_, fun _ z => ?_, fun _ _ p hp => ?_⟩
        · subst z
          cases hd
          exact got_here k (.tup hm hd2) q
        · subst z
          cases hd2
          rw [List.append_nil] at q
          exact got_here k (.tup hl hd) q
        · exact got_tup k hp (hd.append hd2) q
      · cases e3
theorem opr_eq (hu : X.A.units + 64 < cLine) (hK : T.K = X.K) : OpR X (compareOp .Eq) (rB T .eq) := by
  intro pins s σ H x y u v Q I ru rv h
  obtain ⟨w, cx, cy, fx, fy, c, k, hx, hy, e, q⟩ := h
  obtain ⟨a, b, d, e1, e2, e3, rfl⟩ := via_inv (show viaD .eq cx cy = some c from e)
  simp only [bopD, eqD] at e3
  split at e3
  · rename_i p1 p2 z1 z2
    split at e3
    · rename_i hs
      rw [Bool.and_eq_true] at hs
      cases e3
      refine op_eqD hu pins s σ H _ _ _ _ _ I ru rv ⟨p1, p2, ?_, ?_, hs.1, hs.2, got_here k (.bl _) q⟩
      · rw [← hK]; exact (hx.dv k.ex e1).dp z1
      · rw [← hK]; exact (hy.dv k.ex e2).dp z2
    · cases e3
  · cases e3
theorem opr_ne (hu : X.A.units + 64 < cLine) (hK : T.K = X.K) : OpR X (compareOp .NotEq) (rB T .ne) := by
  intro pins s σ H x y u v Q I ru rv h
  obtain ⟨w, cx, cy, fx, fy, c, k, hx, hy, e, q⟩ := h
  obtain ⟨a, b, d, e1, e2, e3, rfl⟩ := via_inv (show viaD .ne cx cy = some c from e)
  simp only [bopD, eqD] at e3
  split at e3
  · rename_i p1 p2 z1 z2
    split at e3
    · rename_i hs
      rw [Bool.and_eq_true] at hs
      cases e3
      refine op_neD hu pins s σ H _ _ _ _ _ I ru rv ⟨p1, p2, ?_, ?_, hs.1, hs.2, got_here k (.bl _) q⟩
      · rw [← hK]; exact (hx.dv k.ex e1).dp z1
      · rw [← hK]; exact (hy.dv k.ex e2).dp z2
    · cases e3
  · cases e3
theorem opr_is : OpR X (compareOp .Is) (rB T .is_) := by
  intro pins s σ H x y u v Q I ru rv h
  obtain ⟨w, cx, cy, fx, fy, c, k, hx, hy, e, q⟩ := h
  obtain ⟨a, b, d, e1, e2, e3, rfl⟩ := via_inv (show viaD .is_ cx cy = some c from e)
  cases b <;> first | (cases e3; done) | skip
  all_goals have h2 := hy.dv k.ex e2
  rotate_left
  · cases a <;> first | (cases e3; done) | skip
    cases e3
    have h1 := hx.dv k.ex e1
    cases h1
    cases h2
    refine op_is_bl pins s σ H _ _ _ _ _ I ru rv ⟨_, _, rfl, rfl, ?_⟩
    rename_i b a
    have : (decide (a = b)) = (a == b) := by cases a <;> cases b <;> rfl
    rw [this]
    exact got_here k (.bl _) q
  cases e3
  cases h2
  refine op_isN pins s σ H _ _ _ _ _ I ru rv ⟨rfl, ?_⟩
  rw [(hx.dv k.ex e1).isNone]
  exact got_here k (.bl _) q
theorem opr_isnot : OpR X (compareOp .IsNot) (rB T .isnot) := by
  intro pins s σ H x y u v Q I ru rv h
  obtain ⟨w, cx, cy, fx, fy, c, k, hx, hy, e, q⟩ := h
  obtain ⟨a, b, d, e1, e2, e3, rfl⟩ := via_inv (show viaD .isnot cx cy = some c from e)
  cases b <;> first | (cases e3; done) | skip
  all_goals have h2 := hy.dv k.ex e2
  rotate_left
  · cases a <;> first | (cases e3; done) | skip
    cases e3
    have h1 := hx.dv k.ex e1
    cases h1
    cases h2
    refine op_isnot_bl pins s σ H _ _ _ _ _ I ru rv ⟨_, _, rfl, rfl, ?_⟩
    rename_i b a
    have : (decide (a = b)) = (a == b) := by cases a <;> cases b <;> rfl
    rw [this]
    exact got_here k (.bl _) q
  cases e3
  cases h2
  refine op_notN pins s σ H _ _ _ _ _ I ru rv ⟨rfl, ?_⟩
  rw [(hx.dv k.ex e1).isNone]
  exact got_here k (.bl _) q
theorem inV_memF {x : D} : ∀ ds : List D, inV x.toV (ds.map D.toV) = memF x ds := fun ds => by
  unfold inV memF eqF
  rw [List.any_map]
  rfl
theorem shaped_tup {ds : List PyData} (h : SeqAt.shaped (.list ds) = true) : SeqAt.shaped (.tuple ds) = true := by
  unfold SeqAt.shaped at h ⊢
  simp only [PyData.canLay0, PyData.depth] at h ⊢
  exact h
theorem op_inDT (hu : X.A.units + 65 < cLine) : OpR X (compareOp .In) (fun x y H Q => ∃ d ds, Dp X.K H x d ∧ Dp X.K H y (.tuple ds) ∧ SeqAt.shaped d = true ∧ SeqAt.shaped (.list ds) = true ∧ Q (.bl (ds.any fun z => PyData.eqv z d)) H) := by
  intro pins s σ H x y v u Q I rx ry h
  obtain ⟨d, ds, hd, he, sd, se, q⟩ := h
  obtain ⟨as, r1⟩ := Dp.reads I d x v hd rx
  obtain ⟨bs, r2⟩ := Dp.reads I (.tuple ds) y u he ry
  exact SeqAt.in_tuple_reads r2 r1 (SeqAt.canLay_of_shaped (shaped_tup se)) (SeqAt.canLay_of_shaped sd) (PyProof.Rows.room_in_shaped sd hu) ⟨.bl _, H, I, rfl, q⟩
theorem op_notInDT (hu : X.A.units + 65 < cLine) : OpR X (compareOp .NotIn) (fun x y H Q => ∃ d ds, Dp X.K H x d ∧ Dp X.K H y (.tuple ds) ∧ SeqAt.shaped d = true ∧ SeqAt.shaped (.list ds) = true ∧ Q (.bl (!ds.any fun z => PyData.eqv z d)) H) := by
  intro pins s σ H x y v u Q I rx ry h
  obtain ⟨d, ds, hd, he, sd, se, q⟩ := h
  obtain ⟨as, r1⟩ := Dp.reads I d x v hd rx
  obtain ⟨bs, r2⟩ := Dp.reads I (.tuple ds) y u he ry
  exact SeqAt.notIn_tuple_reads r2 r1 (SeqAt.canLay_of_shaped (shaped_tup se)) (SeqAt.canLay_of_shaped sd) (PyProof.Rows.room_in_shaped sd hu) ⟨.bl _, H, I, rfl, q⟩
theorem opr_in (hu : X.A.units + 65 < cLine) (hK : T.K = X.K) : OpR X (compareOp .In) (rB T .in_) := by
  intro pins s σ H x y u v Q I ru rv h
  obtain ⟨w, cx, cy, fx, fy, c, k, hx, hy, e, q⟩ := h
  obtain ⟨a, b, d, e1, e2, e3, rfl⟩ := via_inv (show viaD .in_ cx cy = some c from e)
  have h1 := hx.dv k.ex e1
  have h2 := hy.dv k.ex e2
  simp only [bopD] at e3
  split at e3
  all_goals first | (cases e3; done) | skip
  all_goals
    split at e3
    · rename_i hc
      rw [Bool.and_eq_true] at hc
      cases e3
      obtain ⟨rfl, fx⟩ := h1.flat hc.1
      cases h2
      rename_i vs ha hd
      obtain ⟨rfl, fy⟩ := hd.flat hc.2
      refine op_in_seq pins s σ H _ _ _ _ _ I ru rv ⟨_, _, rfl, ?_, fx, fy, ?_⟩
      · first | exact .inr (SqT.of ha) | exact .inl (SqL.of ha)
      · rw [if_neg (by decide), inV_memF]
        exact got_here k (.bl _) q
    · first
        | (cases e3; done)
        | (
          rename_i ys _
          rw [Option.map_eq_some_iff] at e3
          obtain ⟨b, e4, rfl⟩ := e3
          unfold memD at e4
          split at e4
          · rename_i p ps z1 z2
            split at e4
            · rename_i hs
              rw [Bool.and_eq_true] at hs
              cases e4
              have d1 := h1.dp z1
              rw [hK] at d1
              have qL : D.py (.lst ys) = some (.list ps) := by simp only [D.py, z2]
              have qT : D.py (.tup ys) = some (.tuple ps) := by simp only [D.py, z2]
              first
                | exact op_inD hu pins s σ H _ _ _ _ _ I ru rv ⟨p, ps, d1, hK ▸ h2.dp qL, hs.1, hs.2, got_here k (.bl _) q⟩
                | exact op_inDT hu pins s σ H _ _ _ _ _ I ru rv ⟨p, ps, d1, hK ▸ h2.dp qT, hs.1, hs.2, got_here k (.bl _) q⟩
            · cases e4
          · cases e4)
theorem opr_notin (hu : X.A.units + 65 < cLine) (hK : T.K = X.K) : OpR X (compareOp .NotIn) (rB T .notin) := by
  intro pins s σ H x y u v Q I ru rv h
  obtain ⟨w, cx, cy, fx, fy, c, k, hx, hy, e, q⟩ := h
  obtain ⟨a, b, d, e1, e2, e3, rfl⟩ := via_inv (show viaD .notin cx cy = some c from e)
  have h1 := hx.dv k.ex e1
  have h2 := hy.dv k.ex e2
  simp only [bopD] at e3
  split at e3
  all_goals first | (cases e3; done) | skip
  all_goals
    split at e3
    · rename_i hc
      rw [Bool.and_eq_true] at hc
      cases e3
      obtain ⟨rfl, fx⟩ := h1.flat hc.1
      cases h2
      rename_i vs ha hd
      obtain ⟨rfl, fy⟩ := hd.flat hc.2
      refine op_notIn_seq pins s σ H _ _ _ _ _ I ru rv ⟨_, _, rfl, ?_, fx, fy, ?_⟩
      · first | exact .inr (SqT.of ha) | exact .inl (SqL.of ha)
      · rw [if_pos rfl, inV_memF]
        exact got_here k (.bl _) q
    · first
        | (cases e3; done)
        | (
          rename_i ys _
          rw [Option.map_eq_some_iff] at e3
          obtain ⟨b, e4, rfl⟩ := e3
          unfold memD at e4
          split at e4
          · rename_i p ps z1 z2
            split at e4
            · rename_i hs
              rw [Bool.and_eq_true] at hs
              cases e4
              have d1 := h1.dp z1
              rw [hK] at d1
              have qL : D.py (.lst ys) = some (.list ps) := by simp only [D.py, z2]
              have qT : D.py (.tup ys) = some (.tuple ps) := by simp only [D.py, z2]
              first
                | exact op_notInD hu pins s σ H _ _ _ _ _ I ru rv ⟨p, ps, d1, hK ▸ h2.dp qL, hs.1, hs.2, got_here k (.bl _) q⟩
                | exact op_notInDT hu pins s σ H _ _ _ _ _ I ru rv ⟨p, ps, d1, hK ▸ h2.dp qT, hs.1, hs.2, got_here k (.bl _) q⟩
            · cases e4
          · cases e4)
end
end Q

set_option maxRecDepth 100000
set_option maxHeartbeats 1000000
namespace Q
open PySem L2

-- H, w: nothing that the slots own is older; H0, w0: what is lent stands there
structure Base where
  H : Hp
  w : Wd
  H0 : Hp
  w0 : Wd
  self : V
def isObj : Cell → Bool
  | .obj _ _ => true
  | _ => false
-- a new instance that is being made is the def's own
def Hd (B : Base) (v : V) (c : Cell) : Prop := held c = true ∧ (isObj c = true → v = B.self)
theorem hd_own {B : Base} {v : V} {c : Cell} (h : ownable c = true) : Hd B v c := by
  cases c <;> first | (cases h; done) | exact ⟨rfl, fun z => by cases z⟩
structure BOk (T : Tabs) (B : Base) : Prop where
  ok : Ok T B.H B.w
  k0 : Ok T B.H0 B.w0
  lb : Step T B.H0 B.w0 B.H B.w
/-! ### the slots -/
inductive ER (T : Tabs) (B : Base) (S : List Addr) (G H : Hp) : L2.St → Ev → List Addr → Prop where
  | nil : ER T B S G H [] [] []
  | undef {o : Option V} {σ : L2.St} {ρ : Ev} {f : List Addr} (hs : ER T B S G H σ ρ f) : ER T B S G H (o :: σ) (.undef :: ρ) f
  | cons {v : V} {c : Cell} {σ : L2.St} {ρ : Ev} {f fs : List Addr} (hh : Hd B v c) (h : CR T S G H v c f) (hs : ER T B S G H σ ρ fs) : ER T B S G H (some v :: σ) (c :: ρ) (f ++ fs)
  | lent {v : V} {cs : List Cell} {σ : L2.St} {ρ : Ev} {fs : List Addr} (h : CR T B.w0.S B.w0.G B.H0 v (.bor cs) []) (hs : ER T B S G H σ ρ fs) : ER T B S G H (some v :: σ) (.bor cs :: ρ) fs
structure Sim (T : Tabs) (B : Base) (σ : L2.St) (H : Hp) (ρ : Ev) (w : Wd) : Prop where
  bk : BOk T B
  st : Step T B.H B.w H w
  f : ∃ fp, ER T B w.S w.G H σ ρ fp ∧ Fr B.H w fp
section
variable {T : Tabs} {B : Base} {S : List Addr} {G H H' : Hp} {σ : L2.St} {ρ : Ev} {w w' : Wd}
theorem ER.step (s : Step T H w H' w') : ∀ {σ : L2.St} {ρ : Ev} {f : List Addr}, ER T B w.S w.G H σ ρ f → (∀ a ∈ f, a ∉ w.S) → ER T B w'.S w'.G H' σ ρ f
  | _, _, _, .nil, _ => .nil
  | _, _, _, .undef hs, hd => .undef (ER.step s hs hd)
  | _, _, _, .cons hh h hs, hd => .cons hh (h.step s fun a ha => hd a (List.mem_append_left _ ha)) (ER.step s hs fun a ha => hd a (List.mem_append_right _ ha))
  | _, _, _, .lent h hs, hd => .lent h (ER.step s hs hd)
theorem ER.dom : ∀ {σ : L2.St} {ρ : Ev} {f : List Addr}, ER T B S G H σ ρ f → ∀ a ∈ f, ∃ o, H a = some o
  | _, _, _, .nil, a, ha => nomatch ha
  | _, _, _, .undef hs, a, ha => ER.dom hs a ha
  | _, _, _, .cons hh h hs, a, ha => (List.mem_append.mp ha).elim (fun q => h.dom a q) fun q => ER.dom hs a q
  | _, _, _, .lent h hs, a, ha => ER.dom hs a ha
theorem ER.length : ∀ {σ : L2.St} {ρ : Ev} {f : List Addr}, ER T B S G H σ ρ f → σ.length = ρ.length
  | _, _, _, .nil => rfl
  | _, _, _, .undef hs => by rw [List.length_cons, List.length_cons, ER.length hs]
  | _, _, _, .cons hh h hs => by rw [List.length_cons, List.length_cons, ER.length hs]
  | _, _, _, .lent h hs => by rw [List.length_cons, List.length_cons, ER.length hs]
-- a slot's cell
theorem ER.get : ∀ {σ : L2.St} {ρ : Ev} {f : List Addr} {i : Nat} {c : Cell}, ER T B S G H σ ρ f → ρ[i]? = some c → c = .undef ∨
    (∃ v g, σ[i]? = some (some v) ∧ Hd B v c ∧ CR T S G H v c g ∧ ∀ a ∈ g, a ∈ f) ∨ ∃ v cs, c = .bor cs ∧ σ[i]? = some (some v) ∧ CR T B.w0.S B.w0.G B.H0 v (.bor cs) []
  | _, _, _, i, c, .nil, e => by simp at e
  | _, _, _, 0, c, .undef hs, e => .inl (Option.some.inj e).symm
  | _, _, _, i + 1, c, .undef hs, e => ER.get (i := i) hs e
  | _, _, _, 0, c, .cons hh h hs, e => by
    cases (Option.some.inj e : _ = c)
    exact .inr (.inl ⟨_, _, rfl, hh, h, fun a ha => List.mem_append_left _ ha⟩)
  | _, _, _, i + 1, c, .cons hh h hs, e => by
    rcases ER.get (i := i) hs e with q | ⟨v, g, q1, q2, q3, q4⟩ | q
    · exact .inl q
    · exact .inr (.inl ⟨v, g, q1, q2, q3, fun a ha => List.mem_append_right _ (q4 a ha)⟩)
    · exact .inr (.inr q)
  | _, _, _, 0, c, .lent h hs, e => .inr (.inr ⟨_, _, (Option.some.inj e).symm, rfl, h⟩)
  | _, _, _, i + 1, c, .lent h hs, e => ER.get (i := i) hs e
theorem Sim.ok (s : Sim T B σ H ρ w) : Ok T H w := s.st.ok
theorem Sim.step (s : Sim T B σ H ρ w) (t : Step T H w H' w') : Sim T B σ H' ρ w' := by
  obtain ⟨fp, h1, h2⟩ := s.f
  exact ⟨s.bk, Step.trans s.bk.ok s.st t, fp, h1.step t fun a ha => (h2.nw a ha).2.2, h2.step t fun a ha => h1.dom a ha⟩
end

/-! ### what an exception is -/
def XR (T : Tabs) (H : Hp) (w : Wd) (x : Exc) (cls : Value) (d : Option Addr) : Prop :=
  ∃ A ns, T.exc x.c = some (A, ns) ∧ cls = .ref A ∧ ((ns = [] ∧ d = none ∧ x.fs = []) ∨ ∃ dd fs, d = some dd ∧ H dd = some (.xd fs) ∧ fs.map (·.1) = ns ∧ DVs T w.S w.G (fs.map (·.2)) x.fs)
def Exd (T : Tabs) (H : Hp) (w : Wd) (x : Exc) (st' : Store) (P : Value → Option Addr → Hp → Prop) : Prop :=
  ∀ cls d H' w', w'.st = st' → Step T H w H' w' → XR T H' w' x cls d → P cls d H'

/-! ### readings -/
def RE (T : Tabs) (cf : CF) (W : WX) (B : Base) (e : IE) : TE := fun σ H Q => ∃ ρ w, Sim T B σ H ρ w ∧ match evE cf e ρ w.st with
  | .ok c st' => Got T H w st' c Q
  | .exc x st' => Exd T H w x st' fun cls d H' => W cls d σ H'
  | .stuck => False
def GotA (T : Tabs) (H : Hp) (w : Wd) (st' : Store) (cs : List Cell) (Q : List V → Hp → Prop) : Prop :=
  ∀ vs H' w' fp, w'.st = st' → Step T H w H' w' → CRs T w'.S w'.G H' vs cs fp → Fr H w' fp → Q vs H'
def RA (T : Tabs) (cf : CF) (W : WX) (B : Base) (e : IE) : TA := fun σ H Q => ∃ ρ w, Sim T B σ H ρ w ∧ match evE cf e ρ w.st with
  | .ok (.own cs) st' => GotA T H w st' cs Q
  | .ok _ _ => False
  | .exc x st' => Exd T H w x st' fun cls d H' => W cls d σ H'
  | .stuck => False
def RT (T : Tabs) (cf : CF) (W : WX) (B : Base) (e : IE) : TT := fun σ H Q => ∃ ρ w, Sim T B σ H ρ w ∧ match evE cf e ρ w.st with
  | .ok c st' => match truC c with
    | some b => ∀ H' w', w'.st = st' → Step T H w H' w' → Q b H'
    | none => False
  | .exc x st' => Exd T H w x st' fun cls d H' => W cls d σ H'
  | .stuck => False

section
variable {X : Cx} {T : Tabs} {cf : CF} {W : WX} {B : Base} {e a b : Expr} {pos : Pos}
theorem PE.imp {t t' : TE} (h : PE X e t) (i : ∀ σ H Q, t' σ H Q → t σ H Q) : PE X e t' := ⟨fun pins s σ H Q I q => h.run pins s σ H Q I (i σ H Q q)⟩
theorem PT.imp {t t' : TT} (h : PT X e t) (i : ∀ σ H Q, t' σ H Q → t σ H Q) : PT X e t' := ⟨fun pins s σ H Q I q => h.run pins s σ H Q I (i σ H Q q)⟩
theorem PW.imp {t t' : TT} (h : PW X e t) (i : ∀ σ H Q, t' σ H Q → t σ H Q) : PW X e t' := ⟨fun wh pins s σ H Q I q => h.run wh pins s σ H Q I (i σ H Q q)⟩
theorem PA.imp {es : List Expr} {t t' : TA} (h : PA X es t) (i : ∀ σ H Q, t' σ H Q → t σ H Q) : PA X es t' := ⟨fun p pins s σ H Q I q => h.run p pins s σ H Q I (i σ H Q q)⟩
theorem PS.imp {st : Stmt} {t t' : TS} (h : PS X st t) (i : ∀ D σ H, t' D σ H → t D σ H) : PS X st t' := ⟨fun pins s σ H D I q => h.run pins s σ H D I (i D σ H q)⟩
theorem PSs.imp {st : List Stmt} {t t' : TS} (h : PSs X st t) (i : ∀ D σ H, t' D σ H → t D σ H) : PSs X st t' := ⟨fun pins s σ H D I q => h.run pins s σ H D I (i D σ H q)⟩

-- an exception's end, from further on
theorem Exd.back {H H1 : Hp} {w w1 : Wd} {x : Exc} {st' : Store} {P : Value → Option Addr → Hp → Prop} (k : Ok T H w) (s : Step T H w H1 w1) (h : Exd T H w x st' P) : Exd T H1 w1 x st' P :=
  fun cls d H' w' e t r => h cls d H' w' e (Step.trans k s t) r

/-! names, constants -/
theorem re_var {i : Nat} {x : Str} (hN : X.N[i]? = some x) (hv : Vis X.env.scope x) (hd : (x == ("__debug__" : Str)) = false) (hcd : (x == ("__classdict__" : Str)) = false) : PE X (.Name x pos) (RE T cf W B (.var i)) := by
  refine PE.imp (pe_var hN hv hd hcd) fun σ H Q h => ?_
  obtain ⟨ρ, w, s, h⟩ := h
  obtain ⟨fp, h1, h2⟩ := s.f
  simp only [evE] at h
  cases e : ρ[i]? with
  | none => rw [e] at h; exact h.elim
  | some c =>
    rw [e] at h
    rcases h1.get e with q | ⟨v, g, q1, q2, q3, q4⟩ | ⟨v, cs, q1, q2, q3⟩
    · subst q; exact h.elim
    · refine ⟨v, q1, ?_⟩
      cases c with
      | undef => exact h.elim
      | imm d =>
        cases q3 with
        | imm hd => exact got_here s.ok hd h
      | own cs =>
        cases q3 with
        | own h3 h4 h5 => exact got_cell s.ok (.bor h3 h4 (fun b hb => (h2.nw b (q4 b hb)).2.2) h5) h
      | bor cs => cases q2.1
      | obj _ _ => exact h.elim
    · subst q1
      exact ⟨v, q2, got_cell s.ok (q3.step (Step.trans s.bk.k0 s.bk.lb s.st) fun _ z => nomatch z) h⟩
theorem re_con {d : D} {v : V} (h : PE X e (tC v)) (hv : ∀ (S : List Addr) (H : Hp), DV T S H v d) : PE X e (RE T cf W B (.con d)) := by
  refine PE.imp h fun σ H Q h => ?_
  obtain ⟨ρ, w, s, h⟩ := h
  exact got_here s.ok (hv _ _) h
theorem re_glob {x : Str} {d : D} {v : V} (h : PE X e (tC v)) (hv : ∀ (S : List Addr) (H : Hp), DV T S H v d) : PE X e (RE T cf W B (.glob x d)) := by
  refine PE.imp h fun σ H Q h => ?_
  obtain ⟨ρ, w, s, h⟩ := h
  exact got_here s.ok (hv _ _) h

/-! two in a row -/
theorem RE.two {f : V → V → Hp → Prop} {ia ib : IE} {σ : L2.St} {H : Hp} {ρ : Ev} {w : Wd} (s : Sim T B σ H ρ w)
    (h : match evE cf ia ρ w.st with
      | .ok x s1 => match evE cf ib ρ s1 with
        | .ok y s2 => ∀ v u H' w' fx fy, w'.st = s2 → Step T H w H' w' → CR T w'.S w'.G H' v x fx → CR T w'.S w'.G H' u y fy → Fr H w' (fx ++ fy) → f v u H'
        | .exc x st' => Exd T H w x st' fun cls d H' => W cls d σ H'
        | .stuck => False
      | .exc x st' => Exd T H w x st' fun cls d H' => W cls d σ H'
      | .stuck => False) : RE T cf W B ia σ H fun v H1 => RE T cf W B ib σ H1 fun u H2 => f v u H2 := by
  refine ⟨ρ, w, s, ?_⟩
  cases e1 : evE cf ia ρ w.st with
  | stuck => rw [e1] at h; exact h
  | exc x st' => rw [e1] at h; exact h
  | ok x s1 =>
    rw [e1] at h
    intro v H1 w1 fx hw1 t1 c1 f1
    refine ⟨ρ, w1, s.step t1, ?_⟩
    rw [hw1]
    simp only at h
    cases e2 : evE cf ib ρ s1 with
    | stuck => rw [e2] at h; exact h
    | exc x st' =>
      rw [e2] at h
      exact h.back s.ok t1
    | ok y s2 =>
      rw [e2] at h
      intro u H2 w2 fy hw2 t2 c2 f2
      exact h v u H2 w2 fx fy hw2 (Step.trans s.ok t1 t2) (c1.step t2 fun a ha => (f1.nw a ha).2.2) c2
        (Fr.app (f1.step t2 fun a ha => c1.dom a ha) f2 (fun a ha => t1.dom s.ok ha) fun a ha => c1.dom a ha)
theorem re_bin {o : Op} {ia ib : IE} {f : Value → Value → Sem Value} (he : ∀ {ta tb : TE}, PE X a ta → PE X b tb → PE X e (tOp (rB T o) ta tb)) (ha : PE X a (RE T cf W B ia)) (hb : PE X b (RE T cf W B ib)) : PE X e (RE T cf W B (.bin o ia ib)) := by
  refine PE.imp (he ha hb) fun σ H Q h => ?_
  obtain ⟨ρ, w, s, h⟩ := h
  refine RE.two (f := fun v u H2 => rB T o v u H2 Q) s ?_
  simp only [evE] at h
  cases e1 : evE cf ia ρ w.st with
  | stuck => rw [e1] at h; exact h
  | exc x st' => rw [e1] at h; exact h
  | ok x s1 =>
    rw [e1] at h
    simp only at h ⊢
    cases e2 : evE cf ib ρ s1 with
    | stuck => rw [e2] at h; exact h
    | exc x st' => rw [e2] at h; exact h
    | ok y s2 =>
      rw [e2] at h
      simp only at h ⊢
      cases e3 : binC o x y with
      | none => rw [e3] at h; exact h.elim
      | some z =>
        rw [e3] at h
        intro v u H' w' fx fy hw t c1 c2 fr
        refine ⟨w', x, y, fx, fy, z, t.ok, c1, c2, e3, ?_⟩
        intro v2 H2 w2 fp hw2 t2 c3 f3
        exact h v2 H2 w2 fp (hw2.trans hw) (Step.trans s.ok t t2) c3 (f3.back fun a ha => t.dom s.ok ha)
end
end Q

set_option maxRecDepth 100000
set_option maxHeartbeats 1000000
namespace Q
open PySem L2
section
variable {X : Cx} {T : Tabs} {cf : CF} {W : WX} {B : Base} {e a b c : Expr} {pos : Pos}

-- from here on, over the results so far
theorem Got.next {H H1 : Hp} {w w1 : Wd} {st' : Store} {c : Cell} {Q : VK} (k : Ok T H w) (t : Step T H w H1 w1) (h : Got T H w st' c Q) : Got T H1 w1 st' c Q :=
  fun v H' w' fp e s hc hf => h v H' w' fp e (Step.trans k t s) hc (hf.back fun _ z => t.dom k z)
theorem GotA.next {H H1 : Hp} {w w1 : Wd} {st' : Store} {c : List Cell} {Q : List V → Hp → Prop} (k : Ok T H w) (t : Step T H w H1 w1) (h : GotA T H w st' c Q) : GotA T H1 w1 st' c Q :=
  fun v H' w' fp e s hc hf => h v H' w' fp e (Step.trans k t s) hc (hf.back fun _ z => t.dom k z)
-- one evaluation, and what follows
theorem RE.one {f : V → Hp → Prop} {ia : IE} {σ : L2.St} {H : Hp} {ρ : Ev} {w : Wd} (s : Sim T B σ H ρ w)
    (h : match evE cf ia ρ w.st with
      | .ok x s1 => ∀ v H' w' fx, w'.st = s1 → Step T H w H' w' → CR T w'.S w'.G H' v x fx → Fr H w' fx → f v H'
      | .exc x st' => Exd T H w x st' fun cls d H' => W cls d σ H'
      | .stuck => False) : RE T cf W B ia σ H f := ⟨ρ, w, s, h⟩

/-! ### items -/
theorem at_get {α : Type} {xs : List α} {i : Int} {x : α} (h : atI xs i = some x) : ∃ j, ixN xs.length i = some j ∧ xs[j]? = some x := by
  unfold atI at h
  cases e : ixN xs.length i with
  | none => rw [e] at h; cases h
  | some j => rw [e] at h; exact ⟨j, rfl, h⟩
theorem at_mk {α : Type} {xs : List α} {i : Int} {x : α} {j : Nat} (h1 : ixN xs.length i = some j) (h2 : xs[j]? = some x) : atI xs i = some x := by
  unfold atI
  rw [h1]; exact h2
theorem CRs.get {S : List Addr} {G H : Hp} : ∀ {vs : List V} {cs : List Cell} {f : List Addr} {i : Nat} {c : Cell}, CRs T S G H vs cs f → cs[i]? = some c → ∃ v g, vs[i]? = some v ∧ CR T S G H v c g ∧ ∀ a ∈ g, a ∈ f
  | _, _, _, i, c, .nil, e => by simp at e
  | _, _, _, 0, c, .cons h hs, e => by
    cases (Option.some.inj e : _ = c)
    exact ⟨_, _, rfl, h, fun a ha => List.mem_append_left _ ha⟩
  | _, _, _, i + 1, c, .cons h hs, e => by
    obtain ⟨v, g, h1, h2, h3⟩ := CRs.get (i := i) hs e
    exact ⟨v, g, h1, h2, fun a ha => List.mem_append_right _ (h3 a ha)⟩
theorem child_ok {S : List Addr} {G H : Hp} {v : V} {x y : Cell} {g : List Addr} (h : CR T S G H v x g) (e : childC x = some y) (hS : ∀ a ∈ g, a ∉ S) : CR T S G H v y [] := by
  cases h with
  | imm hd => cases e; exact .imm hd
  | own h1 h2 ho => cases e; exact .bor h1 h2 hS ho
  | bor h1 h2 h3 ho => cases e; exact .bor h1 h2 h3 ho
  | obj _ _ _ _ _ _ => cases e
def rX (T : Tabs) : R2 := fun x y H Q => ∃ w cx cy fx fy c, Ok T H w ∧ CR T w.S w.G H x cx fx ∧ (∀ a ∈ fx, a ∉ w.S) ∧ CR T w.S w.G H y cy fy ∧ ixC cx cy w.st = some c ∧ Got T H w w.st c Q
theorem rX_ok (hK : T.K = X.K) {x y : V} {H : Hp} {Q : VK} (h : rX T x y H Q) : rIx X.K x y H Q := by
  obtain ⟨w, cx, cy, fx, fy, c, k, hx, hf, hy, e, q⟩ := h
  unfold ixC at e
  split at e
  · rename_i i
    cases hy with
    | imm hdy =>
    cases hdy
    split at e
    · rename_i d
      cases hx with
      | imm hd =>
      cases e2 : ixD d i w.st with
      | none => rw [e2] at e; cases e
      | some z =>
        rw [e2] at e; cases e
        unfold ixD at e2
        cases hd with
        | non => cases e2
        | bl _ => cases e2
        | int _ => cases e2
        | str s =>
          replace e2 : (if small s.length = true then (atI s.cps.toList i).map fun c => D.str ⟨#[c]⟩ else none) = some z := e2
          split at e2
          · rename_i hs
            cases e3 : atI s.cps.toList i with
            | none => rw [e3] at e2; cases e2
            | some cc =>
              rw [e3] at e2; cases e2
              exact .inr (.inr ⟨_, _, _, rfl, rfl, small_le hs, e3, got_here k (.str _) q⟩)
          · cases e2
        | tup ha hds =>
          obtain ⟨j, h1, h2⟩ := at_get e2
          obtain ⟨v, h3, h4⟩ := hds.get h2
          exact .inr (.inl ⟨_, _, _, v, rfl, rfl, SqT.of (k.ex _ _ ha), at_mk (by rw [hds.length]; exact h1) h3, got_here k h4 q⟩)
        | lst ha hds =>
          obtain ⟨j, h1, h2⟩ := at_get e2
          obtain ⟨v, h3, h4⟩ := hds.get h2
          exact .inl ⟨_, _, _, v, rfl, rfl, SqL.of (k.ex _ _ ha), at_mk (by rw [hds.length]; exact h1) h3, got_here k h4 q⟩
        | scr _ _ => cases e2
        | ins _ _ _ _ => cases e2
        | @sref a n ha =>
          replace e2 : ((w.st[n]?).bind fun ds => atI ds i) = some z := e2
          cases e3 : w.st[n]? with
          | none => rw [e3] at e2; cases e2
          | some ds =>
            rw [e3] at e2
            obtain ⟨vs, h1, h2⟩ := k.st.at_ _ _ _ ha e3
            obtain ⟨j, h3, h4⟩ := at_get (show atI ds i = some z from e2)
            obtain ⟨v, h5, h6⟩ := h2.get h4
            exact .inl ⟨_, _, _, v, rfl, rfl, SqL.of h1, at_mk (by rw [h2.length]; exact h3) h5, got_here k h6 q⟩
    · rename_i cs
      cases hx with
      | own h1 h2 _ =>
      cases e3 : atI cs i with
      | none => rw [e3] at e; cases e
      | some x =>
        rw [e3] at e
        obtain ⟨j, h3, h4⟩ := at_get e3
        obtain ⟨v, g, h5, h6, h7⟩ := h2.get h4
        exact .inl ⟨_, _, _, v, rfl, rfl, SqL.of h1, at_mk (by rw [h2.length]; exact h3) h5, got_cell k (child_ok h6 e fun a ha => hf a (List.mem_cons_of_mem _ (h7 a ha))) q⟩
    · rename_i cs
      cases hx with
      | bor h1 h2 hb _ =>
      cases e3 : atI cs i with
      | none => rw [e3] at e; cases e
      | some x =>
        rw [e3] at e
        obtain ⟨j, h3, h4⟩ := at_get e3
        obtain ⟨v, g, h5, h6, h7⟩ := h2.get h4
        exact .inl ⟨_, _, _, v, rfl, rfl, SqL.of h1, at_mk (by rw [h2.length]; exact h3) h5, got_cell k (child_ok h6 e fun a ha => hb a (List.mem_cons_of_mem _ (h7 a ha))) q⟩
    · cases e
  · cases e
theorem re_ix {ia ib : IE} (hK : T.K = X.K) (ha : PE X a (RE T cf W B ia)) (hb : PE X b (RE T cf W B ib)) (hs : PlainIx b) : PE X (.Subscript a b pos) (RE T cf W B (.ix ia ib)) := by
  refine PE.imp (pe_ix ix_seq ha hb hs) fun σ H Q h => ?_
  obtain ⟨ρ, w, s, h⟩ := h
  refine RE.two (f := fun v u H2 => rIx X.K v u H2 Q) s ?_
  simp only [evE] at h
  cases e1 : evE cf ia ρ w.st with
  | stuck => rw [e1] at h; exact h
  | exc x st' => rw [e1] at h; exact h
  | ok x s1 =>
    rw [e1] at h
    simp only at h ⊢
    cases e2 : evE cf ib ρ s1 with
    | stuck => rw [e2] at h; exact h
    | exc x st' => rw [e2] at h; exact h
    | ok y s2 =>
      rw [e2] at h
      simp only at h ⊢
      cases e3 : ixC x y s2 with
      | none => rw [e3] at h; exact h.elim
      | some z =>
        rw [e3] at h
        intro v u H' w' fx fy hw t c1 c2 fr
        exact rX_ok hK ⟨w', x, y, fx, fy, z, t.ok, c1, fun a ha => (fr.nw a (List.mem_append_left _ ha)).2.2, c2, by rw [hw]; exact e3, by rw [hw]; exact h.next s.ok t⟩
/-! ### chains, minus, not -/
theorem isB {o : Op} {x y z : Cell} (ho : o = .eq ∨ o = .ne ∨ o = .lt ∨ o = .le ∨ o = .gt ∨ o = .ge ∨ o = .is_ ∨ o = .isnot ∨ o = .in_ ∨ o = .notin) (h : binC o x y = some z) : ∃ k, z = .imm (.bl k) := by
  have h' : viaD o x y = some z := by rcases ho with rfl | rfl | rfl | rfl | rfl | rfl | rfl | rfl | rfl | rfl <;> exact h
  obtain ⟨a, b, d, _, _, e3, rfl⟩ := via_inv h'
  rcases ho with rfl | rfl | rfl | rfl | rfl | rfl | rfl | rfl | rfl | rfl
  all_goals
    simp only [bopD, Option.map_eq_some_iff] at e3
    first
      | (obtain ⟨k, _, rfl⟩ := e3; exact ⟨_, rfl⟩)
      | (split at e3 <;> first | (cases e3; done) | (cases e3; exact ⟨_, rfl⟩) | (split at e3 <;> first | (cases e3; done) | (cases e3; exact ⟨_, rfl⟩) | (rw [Option.map_eq_some_iff] at e3; obtain ⟨k, _, rfl⟩ := e3; exact ⟨_, rfl⟩)))
theorem got_bl {H : Hp} {w : Wd} {k : Bool} {v : V} {H' : Hp} {S : List Addr} {G : Hp} {fp : List Addr} (h : CR T S G H' v (.imm (.bl k)) fp) : v = .bl k := by
  cases h with
  | imm hd => cases hd; rfl
theorem chn_rd {o1 o2 : Op} {ia ib ic : IE} {σ : L2.St} {H : Hp} {Q : VK} (h : RE T cf W B (.chn o1 o2 ia ib ic) σ H Q) : tChain (rB T o1) (rB T o2) (RE T cf W B ia) (RE T cf W B ib) (RE T cf W B ic) σ H Q := by
  obtain ⟨ρ, w, s, h⟩ := h
  refine RE.two (f := fun v u H2 => rB T o1 v u H2 fun z H3 => ∃ k, z = .bl k ∧ (if k = true then RE T cf W B ic σ H3 fun w' H4 => rB T o2 u w' H4 Q else Q (.bl false) H3)) s ?_
  simp only [evE] at h
  cases e1 : evE cf ia ρ w.st with
  | stuck => rw [e1] at h; exact h
  | exc x st' => rw [e1] at h; exact h
  | ok x s1 =>
    rw [e1] at h
    simp only at h ⊢
    cases e2 : evE cf ib ρ s1 with
    | stuck => rw [e2] at h; exact h
    | exc x st' => rw [e2] at h; exact h
    | ok y s2 =>
      rw [e2] at h
      simp only at h ⊢
      intro v u H' w' fx fy hw t c1 c2 fr
      cases e3 : binC o1 x y with
      | none => rw [e3] at h; exact h.elim
      | some r1 =>
        rw [e3] at h
        simp only [Option.bind_some] at h
        refine ⟨w', x, y, fx, fy, r1, t.ok, c1, c2, e3, fun z H3 w3 f3 hw3 t3 c3 fr3 => ?_⟩
        cases e3' : asBool r1 with
        | none => rw [e3'] at h; exact h.elim
        | some k =>
          rw [e3'] at h
          obtain rfl : r1 = .imm (.bl k) := by
            unfold asBool at e3'
            split at e3'
            · cases e3'; rfl
            · cases e3'
          cases got_bl (H := H3) (w := w3) c3
          refine ⟨k, rfl, ?_⟩
          cases k with
          | true =>
            rw [if_pos rfl]
            refine ⟨ρ, w3, (s.step t).step t3, ?_⟩
            rw [hw3, hw]
            simp only at h
            cases e4 : evE cf ic ρ s2 with
            | stuck => rw [e4] at h; exact h
            | exc x st' =>
              rw [e4] at h
              exact (h.back s.ok t).back t.ok t3
            | ok z2 s3 =>
              rw [e4] at h
              simp only at h ⊢
              intro u3 H4 w4 f4 hw4 t4 c4 fr4
              cases e5 : binC o2 y z2 with
              | none => rw [e5] at h; exact h.elim
              | some r =>
                rw [e5] at h
                have c2' := (c2.step t3 fun a ha => (fr.nw a (List.mem_append_right _ ha)).2.2)
                have fr' := fr.step t3 fun a ha => by
                  rcases List.mem_append.mp ha with ha | ha
                  · exact c1.dom a ha
                  · exact c2.dom a ha
                refine ⟨w4, y, z2, fy, f4, r, t4.ok, c2'.step t4 (fun a ha => (fr'.nw a (List.mem_append_right _ ha)).2.2), c4, e5, ?_⟩
                rw [hw4]
                exact ((h.next s.ok t).next t.ok t3).next t3.ok t4
          | false =>
            rw [if_neg Bool.false_ne_true]
            exact (h.next s.ok t) _ _ w3 f3 (hw3.trans hw) t3 c3 (fr3)
theorem re_chn {o1 o2 : Op} {ia ib ic : IE} (he : ∀ {ta tb tc : TE}, PE X a ta → PE X b tb → PE X c tc → PE X e (tChain (rB T o1) (rB T o2) ta tb tc)) (ha : PE X a (RE T cf W B ia)) (hb : PE X b (RE T cf W B ib)) (hc : PE X c (RE T cf W B ic)) : PE X e (RE T cf W B (.chn o1 o2 ia ib ic)) :=
  PE.imp (he ha hb hc) fun σ H Q h => chn_rd h
theorem re_neg {ia : IE} (ha : PE X a (RE T cf W B ia)) : PE X (.UnaryOp .USub a pos) (RE T cf W B (.neg ia)) := by
  refine PE.imp (pe_un un_neg ha) fun σ H Q h => ?_
  obtain ⟨ρ, w, s, h⟩ := h
  refine RE.one s ?_
  simp only [evE] at h
  cases e1 : evE cf ia ρ w.st with
  | stuck => rw [e1] at h; exact h
  | exc x st' => rw [e1] at h; exact h
  | ok x s1 =>
    rw [e1] at h
    simp only at h ⊢
    intro v H' w' fx hw t c1 fr
    cases e2 : asInt x with
    | none => rw [e2] at h; exact h.elim
    | some i =>
      rw [e2] at h
      obtain rfl : x = .imm (.int i) := by
        unfold asInt at e2
        split at e2
        · cases e2; rfl
        · cases e2
      cases c1 with
      | imm hd =>
      cases hd
      exact ⟨i, rfl, got_here t.ok (.int _) (by rw [hw]; exact h.next s.ok t)⟩
/-! ### truth -/
theorem tru_of (hK : T.K = X.K) {S : List Addr} {G H : Hp} {v : V} {c : Cell} {f : List Addr} {k : Bool} (e : Ex G H) (h : CR T S G H v c f) (q : truC c = some k) : TruV X.K v H k := by
  cases h with
  | imm hd =>
    cases hd with
    | non => cases q; rfl
    | bl b => cases q; rfl
    | int i => cases q; rfl
    | str s =>
      simp only [truC, truD] at q
      split at q
      · rename_i hs
        cases q
        exact ⟨small_le hs, rfl⟩
      · cases q
    | tup ha hds =>
      cases q
      refine .inr (.inl ⟨_, SqT.of (e _ _ ha), ?_⟩)
      cases hds <;> rfl
    | lst ha hds =>
      cases q
      refine .inl ⟨_, SqL.of (e _ _ ha), ?_⟩
      cases hds <;> rfl
    | scr _ _ => cases q
    | ins _ _ _ _ => cases q
    | sref _ => cases q
  | own ha hs _ =>
    cases q
    refine .inl ⟨_, SqL.of ha, ?_⟩
    cases hs <;> rfl
  | bor ha hs _ _ =>
    cases q
    refine .inl ⟨_, SqL.of ha, ?_⟩
    cases hs <;> rfl
  | obj _ _ _ _ _ _ => cases q
theorem re_not {ia : IE} (hK : T.K = X.K) (ha : PE X a (RE T cf W B ia)) : PE X (.UnaryOp .Not a pos) (RE T cf W B (.not ia)) := by
  refine PE.imp (pe_notT ha) fun σ H Q h => ?_
  obtain ⟨ρ, w, s, h⟩ := h
  refine RE.one s ?_
  simp only [evE] at h
  cases e1 : evE cf ia ρ w.st with
  | stuck => rw [e1] at h; exact h
  | exc x st' => rw [e1] at h; exact h
  | ok x s1 =>
    rw [e1] at h
    simp only at h ⊢
    intro v H' w' fx hw t c1 fr
    cases e2 : truC x with
    | none => rw [e2] at h; exact h.elim
    | some k =>
      rw [e2] at h
      exact ⟨k, tru_of hK t.ok.ex c1 e2, got_here t.ok (.bl _) (by rw [hw]; exact h.next s.ok t)⟩
-- what stands behind an evaluation
theorem RE.go {ib : IE} {σ : L2.St} {H H1 : Hp} {ρ : Ev} {w w1 : Wd} {st1 : Store} {Q : VK} (s : Sim T B σ H ρ w) (t : Step T H w H1 w1) (hw : w1.st = st1)
    (h : match evE cf ib ρ st1 with
      | .ok c st' => Got T H w st' c Q
      | .exc x st' => Exd T H w x st' fun cls d H' => W cls d σ H'
      | .stuck => False) : RE T cf W B ib σ H1 Q := by
  refine ⟨ρ, w1, s.step t, ?_⟩
  rw [hw]
  cases e : evE cf ib ρ st1 with
  | stuck => rw [e] at h; exact h
  | exc x st' => rw [e] at h; exact h.back s.ok t
  | ok c st' => rw [e] at h; exact h.next s.ok t
theorem re_and {ia ib : IE} {rest : List Expr} (hK : T.K = X.K) (ha : PE X a (RE T cf W B ia)) (hb : PE X (.BoolOp .And (b :: rest) pos) (RE T cf W B ib)) : PE X (.BoolOp .And (a :: b :: rest) pos) (RE T cf W B (.and ia ib)) := by
  refine PE.imp (pe_andT ha hb) fun σ H Q h => ?_
  obtain ⟨ρ, w, s, h⟩ := h
  refine RE.one s ?_
  simp only [evE] at h
  cases e1 : evE cf ia ρ w.st with
  | stuck => rw [e1] at h; exact h
  | exc x st' => rw [e1] at h; exact h
  | ok x s1 =>
    rw [e1] at h
    simp only at h ⊢
    intro v H' w' fx hw t c1 fr
    cases e2 : truC x with
    | none => rw [e2] at h; exact h.elim
    | some k =>
      rw [e2] at h
      refine ⟨k, tru_of hK t.ok.ex c1 e2, ?_⟩
      cases k with
      | true =>
        rw [if_pos rfl]
        exact RE.go s t hw h
      | false =>
        rw [if_neg Bool.false_ne_true]
        exact h _ _ w' fx hw t c1 fr
theorem re_or {ia ib : IE} {rest : List Expr} (hK : T.K = X.K) (ha : PE X a (RE T cf W B ia)) (hb : PE X (.BoolOp .Or (b :: rest) pos) (RE T cf W B ib)) : PE X (.BoolOp .Or (a :: b :: rest) pos) (RE T cf W B (.or ia ib)) := by
  refine PE.imp (pe_orT ha hb) fun σ H Q h => ?_
  obtain ⟨ρ, w, s, h⟩ := h
  refine RE.one s ?_
  simp only [evE] at h
  cases e1 : evE cf ia ρ w.st with
  | stuck => rw [e1] at h; exact h
  | exc x st' => rw [e1] at h; exact h
  | ok x s1 =>
    rw [e1] at h
    simp only at h ⊢
    intro v H' w' fx hw t c1 fr
    cases e2 : truC x with
    | none => rw [e2] at h; exact h.elim
    | some k =>
      rw [e2] at h
      refine ⟨k, tru_of hK t.ok.ex c1 e2, ?_⟩
      cases k with
      | false =>
        rw [if_neg Bool.false_ne_true]
        exact RE.go s t hw h
      | true =>
        rw [if_pos rfl]
        exact h _ _ w' fx hw t c1 fr
/-! ### tests -/
theorem rt_truth {ia : IE} (hK : T.K = X.K) (ha : PE X a (RE T cf W B ia)) (he : ∀ whole, isTrue a X.env whole = (do let v ← whole; standAt a.pos; holding [v] (truthy v))) : PT X a (RT T cf W B ia) := by
  refine PT.imp (pt_truth ha he) fun σ H Q h => ?_
  obtain ⟨ρ, w, s, h⟩ := h
  refine RE.one s ?_
  cases e1 : evE cf ia ρ w.st with
  | stuck => rw [e1] at h; exact h
  | exc x st' => rw [e1] at h; exact h
  | ok x s1 =>
    rw [e1] at h
    simp only at h ⊢
    intro v H' w' fx hw t c1 fr
    cases e2 : truC x with
    | none => rw [e2] at h; exact h.elim
    | some k =>
      rw [e2] at h
      exact ⟨k, tru_of hK t.ok.ex c1 e2, h H' w' hw t⟩
-- a comparison as a test, from its reading as a value
theorem rt_cmp {ia : IE} {t : TE} (hp : PT X e (tTest t)) (h : ∀ σ H Q, RE T cf W B ia σ H Q → t σ H Q) (hb : ∀ ρ st x s1, evE cf ia ρ st = .ok x s1 → ∃ k, x = .imm (.bl k)) : PT X e (RT T cf W B ia) := by
  refine PT.imp hp fun σ H Q q => h _ _ _ ?_
  obtain ⟨ρ, w, s, q⟩ := q
  refine RE.one s ?_
  cases e1 : evE cf ia ρ w.st with
  | stuck => rw [e1] at q; exact q
  | exc x st' => rw [e1] at q; exact q
  | ok x s1 =>
    rw [e1] at q
    obtain ⟨k, rfl⟩ := hb _ _ _ _ e1
    simp only [truC, truD] at q ⊢
    intro v H' w' fx hw t c1 fr
    cases got_bl (H := H') (w := w') c1
    exact ⟨k, rfl, q H' w' hw t⟩
theorem RT.one {f : Bool → Hp → Prop} {ia : IE} {σ : L2.St} {H : Hp} {ρ : Ev} {w : Wd} (s : Sim T B σ H ρ w)
    (h : match evE cf ia ρ w.st with
      | .ok x s1 => match truC x with
        | some b => ∀ H' w', w'.st = s1 → Step T H w H' w' → f b H'
        | none => False
      | .exc x st' => Exd T H w x st' fun cls d H' => W cls d σ H'
      | .stuck => False) : RT T cf W B ia σ H f := ⟨ρ, w, s, h⟩
theorem RT.go {ib : IE} {σ : L2.St} {H H1 : Hp} {ρ : Ev} {w w1 : Wd} {st1 : Store} {Q : Bool → Hp → Prop} (s : Sim T B σ H ρ w) (t : Step T H w H1 w1) (hw : w1.st = st1)
    (h : match evE cf ib ρ st1 with
      | .ok c st' => match truC c with
        | some b => ∀ H' w', w'.st = st' → Step T H w H' w' → Q b H'
        | none => False
      | .exc x st' => Exd T H w x st' fun cls d H' => W cls d σ H'
      | .stuck => False) : RT T cf W B ib σ H1 Q := by
  refine ⟨ρ, w1, s.step t, ?_⟩
  rw [hw]
  cases e : evE cf ib ρ st1 with
  | stuck => rw [e] at h; exact h
  | exc x st' => rw [e] at h; exact h.back s.ok t
  | ok c st' =>
    rw [e] at h
    simp only at h ⊢
    cases e2 : truC c with
    | none => rw [e2] at h; exact h
    | some k =>
      rw [e2] at h
      exact fun H' w' hw' t' => h H' w' hw' (Step.trans s.ok t t')
theorem rt_and {ia ib : IE} {rest : List Expr} (ha : PT X a (RT T cf W B ia)) (hb : PW X (.BoolOp .And (b :: rest) pos) (RT T cf W B ib)) : PW X (.BoolOp .And (a :: b :: rest) pos) (RT T cf W B (.and ia ib)) := by
  refine PW.imp (pw_and ha hb) fun σ H Q h => ?_
  obtain ⟨ρ, w, s, h⟩ := h
  refine RT.one s ?_
  simp only [evE] at h
  cases e1 : evE cf ia ρ w.st with
  | stuck => rw [e1] at h; exact h
  | exc x st' => rw [e1] at h; exact h
  | ok x s1 =>
    rw [e1] at h
    simp only at h ⊢
    cases e2 : truC x with
    | none => rw [e2] at h; exact h.elim
    | some k =>
      rw [e2] at h
      simp only at h ⊢
      intro H' w' hw t
      cases k with
      | true =>
        rw [if_pos rfl]
        exact RT.go s t hw h
      | false =>
        rw [if_neg Bool.false_ne_true]
        simp only [e2] at h
        exact h H' w' hw t
theorem rt_or {ia ib : IE} {rest : List Expr} (ha : PT X a (RT T cf W B ia)) (hb : PW X (.BoolOp .Or (b :: rest) pos) (RT T cf W B ib)) : PW X (.BoolOp .Or (a :: b :: rest) pos) (RT T cf W B (.or ia ib)) := by
  refine PW.imp (pw_or ha hb) fun σ H Q h => ?_
  obtain ⟨ρ, w, s, h⟩ := h
  refine RT.one s ?_
  simp only [evE] at h
  cases e1 : evE cf ia ρ w.st with
  | stuck => rw [e1] at h; exact h
  | exc x st' => rw [e1] at h; exact h
  | ok x s1 =>
    rw [e1] at h
    simp only at h ⊢
    cases e2 : truC x with
    | none => rw [e2] at h; exact h.elim
    | some k =>
      rw [e2] at h
      simp only at h ⊢
      intro H' w' hw t
      cases k with
      | false =>
        rw [if_neg Bool.false_ne_true]
        exact RT.go s t hw h
      | true =>
        rw [if_pos rfl]
        simp only [e2] at h
        exact h H' w' hw t
theorem rt_not {ia : IE} (ha : PT X a (RT T cf W B ia)) : PT X (.UnaryOp .Not a pos) (RT T cf W B (.not ia)) := by
  refine PT.imp (pt_not ha) fun σ H Q h => ?_
  obtain ⟨ρ, w, s, h⟩ := h
  refine RT.one s ?_
  simp only [evE] at h
  cases e1 : evE cf ia ρ w.st with
  | stuck => rw [e1] at h; exact h
  | exc x st' => rw [e1] at h; exact h
  | ok x s1 =>
    rw [e1] at h
    simp only at h ⊢
    cases e2 : truC x with
    | none => rw [e2] at h; exact h.elim
    | some k =>
      rw [e2] at h
      exact h
theorem re_ite {ic ia ib : IE} (hc : PT X c (RT T cf W B ic)) (ha : PE X a (RE T cf W B ia)) (hb : PE X b (RE T cf W B ib)) : PE X (.IfExp c a b pos) (RE T cf W B (.ite ic ia ib)) := by
  refine PE.imp (pe_ifExp hc ha hb) fun σ H Q h => ?_
  obtain ⟨ρ, w, s, h⟩ := h
  refine RT.one s ?_
  simp only [evE] at h
  cases e1 : evE cf ic ρ w.st with
  | stuck => rw [e1] at h; exact h
  | exc x st' => rw [e1] at h; exact h
  | ok x s1 =>
    rw [e1] at h
    simp only at h ⊢
    cases e2 : truC x with
    | none => rw [e2] at h; exact h.elim
    | some k =>
      rw [e2] at h
      simp only at h ⊢
      intro H' w' hw t
      cases k with
      | true =>
        rw [if_pos rfl]
        exact RE.go s t hw h
      | false =>
        rw [if_neg Bool.false_ne_true]
        exact RE.go s t hw h
end
end Q

set_option maxRecDepth 100000
set_option maxHeartbeats 1000000
namespace Q
open PySem L2
section
variable {X : Cx} {T : Tabs} {cf : CF} {W : WX} {B : Base} {e a b c : Expr} {es : List Expr} {pos : Pos}

/-! ### arguments -/
theorem ra_nil : PA X [] (RA T cf W B .nil) := by
  refine PA.imp pa_nil fun σ H Q h => ?_
  obtain ⟨ρ, w, s, h⟩ := h
  simp only [evE] at h
  exact h [] H w [] rfl (Step.refl s.ok) .nil Fr.nil
theorem RA.go {ib : IE} {σ : L2.St} {H H1 : Hp} {ρ : Ev} {w w1 : Wd} {st1 : Store} {Q : List V → Hp → Prop} (s : Sim T B σ H ρ w) (t : Step T H w H1 w1) (hw : w1.st = st1)
    (h : match evE cf ib ρ st1 with
      | .ok (.own cs) st' => GotA T H1 w1 st' cs Q
      | .ok _ _ => False
      | .exc x st' => Exd T H w x st' fun cls d H' => W cls d σ H'
      | .stuck => False) : RA T cf W B ib σ H1 Q := by
  refine ⟨ρ, w1, s.step t, ?_⟩
  rw [hw]
  cases e : evE cf ib ρ st1 with
  | stuck => rw [e] at h; exact h
  | exc x st' => rw [e] at h; exact h.back s.ok t
  | ok c st' =>
    rw [e] at h
    cases c <;> exact h
theorem ra_cons {ia ib : IE} (ha : PE X e (RE T cf W B ia)) (hr : PA X es (RA T cf W B ib)) (hs : starEach (e :: es) X.env = (false, eval e X.env) :: starEach es X.env) : PA X (e :: es) (RA T cf W B (.cons ia ib)) := by
  refine PA.imp (pa_cons ha hr hs) fun σ H Q h => ?_
  obtain ⟨ρ, w, s, h⟩ := h
  refine RE.one s ?_
  simp only [evE] at h
  cases e1 : evE cf ia ρ w.st with
  | stuck => rw [e1] at h; exact h
  | exc x st' => rw [e1] at h; exact h
  | ok x s1 =>
    rw [e1] at h
    simp only at h ⊢
    intro v H1 w1 f1 hw1 t1 c1 fr1
    refine RA.go s t1 hw1 ?_
    cases e2 : evE cf ib ρ s1 with
    | stuck => rw [e2] at h; exact h
    | exc x st' => rw [e2] at h; exact h
    | ok y s2 =>
      rw [e2] at h
      cases y with
      | own xs =>
        simp only at h ⊢
        intro vs H2 w2 f2 hw2 t2 c2 fr2
        refine h (v :: vs) H2 w2 (f1 ++ f2) hw2 (Step.trans s.ok t1 t2) (.cons (c1.step t2 fun a ha => (fr1.nw a ha).2.2) c2) ?_
        exact Fr.app (fr1.step t2 fun a ha => c1.dom a ha) fr2 (fun a ha => t1.dom s.ok ha) fun a ha => c1.dom a ha
      | undef => exact h.elim
      | imm _ => exact h.elim
      | bor _ => exact h.elim
      | obj _ _ => exact h.elim
-- arguments, and what follows
theorem RA.one {f : List V → Hp → Prop} {ia : IE} {σ : L2.St} {H : Hp} {ρ : Ev} {w : Wd} (s : Sim T B σ H ρ w)
    (h : match evE cf ia ρ w.st with
      | .ok (.own cs) s1 => ∀ vs H' w' fx, w'.st = s1 → Step T H w H' w' → CRs T w'.S w'.G H' vs cs fx → Fr H w' fx → f vs H'
      | .ok _ _ => False
      | .exc x st' => Exd T H w x st' fun cls d H' => W cls d σ H'
      | .stuck => False) : RA T cf W B ia σ H f := ⟨ρ, w, s, h⟩
theorem keep_small {cs : List Cell} {ds : List D} (h : keepAll cs = some ds) : cs.length = ds.length := by
  induction cs generalizing ds with
  | nil => simp only [keepAll] at h; cases h; rfl
  | cons c cs ih =>
    simp only [keepAll] at h
    cases z1 : keepC c with
    | none => rw [z1] at h; cases h
    | some d =>
      cases z2 : keepAll cs with
      | none => rw [z1, z2] at h; cases h
      | some es =>
        rw [z1, z2] at h; cases h
        rw [List.length_cons, List.length_cons, ih z2]
-- frozen behind a step
theorem freeze_step {H H' : Hp} {w w' : Wd} {fp : List Addr} {vs : List V} {cs : List Cell} {ds : List D} (t : Step T H w H' w') (hc : CRs T w'.S w'.G H' vs cs fp) (fr : Fr H w' fp) (hk : keepAll cs = some ds) :
    Step T H w H' { w' with G := frozen w'.G H' fp } ∧ DVs T w'.S (frozen w'.G H' fp) vs ds := by
  refine ⟨t.freeze fun a ha => fr.nw a ha, hc.freeze (frozen_ex fun a ha => (fr.nw a ha).2.1) (fun a ha => ha) hk⟩
theorem re_kp {a : IE} (ha : PE X e (RE T cf W B a)) : PE X e (RE T cf W B (.kp a)) := by
  refine PE.imp ha fun σ H Q h => ?_
  obtain ⟨ρ, w, s, h⟩ := h
  refine ⟨ρ, w, s, ?_⟩
  simp only [evE] at h
  cases e1 : evE cf a ρ w.st with
  | stuck => rw [e1] at h; exact h
  | exc x st' => rw [e1] at h; exact h
  | ok c st' =>
    rw [e1] at h
    simp only at h ⊢
    cases e2 : keepC c with
    | none => rw [e2] at h; exact h.elim
    | some d =>
      rw [e2] at h
      intro v H' w' fp hw t c1 fr
      have hk : keepAll [c] = some [d] := by simp only [keepAll, e2]
      have hc : CRs T w'.S w'.G H' [v] [c] (fp ++ []) := .cons c1 .nil
      rw [List.append_nil] at hc
      obtain ⟨t2, hd⟩ := freeze_step t hc fr hk
      cases hd with
      | cons hd _ => exact h v H' { w' with G := frozen w'.G H' fp } [] hw t2 (.imm hd) Fr.nil
theorem re_tup {ias : IE} {k : Nat} (ha : PA X es (RA T cf W B ias)) : PE X (.Tuple es k pos) (RE T cf W B (.tup ias)) := by
  refine PE.imp (pe_tup ha) fun σ H Q h => ?_
  obtain ⟨ρ, w, s, h⟩ := h
  refine RA.one s ?_
  simp only [evE] at h
  cases e1 : evE cf ias ρ w.st with
  | stuck => rw [e1] at h; exact h
  | exc x st' => rw [e1] at h; exact h
  | ok x s1 =>
    rw [e1] at h
    cases x with
    | own xs =>
      simp only at h ⊢
      intro vs H' w' fx hw t c1 fr
      cases e2 : keepAll xs with
      | none => rw [e2] at h; exact h.elim
      | some ds =>
        rw [e2] at h
        simp only at h
        split at h
        · rename_i c st' e3
          split at e3
          · rename_i hs
            cases e3
            obtain ⟨t2, hd⟩ := freeze_step t c1 fr e2
            refine ⟨by rw [hd.length]; exact small_le hs, fun p hp => ?_⟩
            refine got_tup t2.ok hp hd ?_
            have h' : Got T H w w'.st (.imm (.tup ds)) Q := by rw [hw]; exact h
            exact h'.next s.ok t2
          · cases e3
        · rename_i e3
          split at e3 <;> cases e3
        · exact h.elim
    | undef => exact h.elim
    | imm _ => exact h.elim
    | bor _ => exact h.elim
    | obj _ _ => exact h.elim
theorem new_fr {H H' : Hp} {w w' : Wd} {fp : List Addr} {p : Addr} {o : HO} (k : Ok T H w) (t : Step T H w H' w') (hp : H' p = none) (fr : Fr H w' fp) (hd : ∀ a ∈ fp, ∃ o, H' a = some o) : Step T H w (upd H' p o) w' ∧ Fr H w' (p :: fp) := by
  refine ⟨Step.trans k t (Step.new t.ok hp), List.nodup_cons.mpr ⟨fun z => ?_, fr.nd⟩, fun a ha => ?_⟩
  · obtain ⟨o, e⟩ := hd p z
    rw [hp] at e; cases e
  · rcases List.mem_cons.mp ha with rfl | ha
    · refine ⟨t.dom k hp, ?_, fun m => ?_⟩
      · cases e : w'.G a with
        | none => rfl
        | some o => rw [t.ok.ex a o e] at hp; cases hp
      · obtain ⟨o, e⟩ := t.ok.sdom m
        rw [hp] at e; cases e
    · exact fr.nw a ha
theorem re_lst {ias : IE} (ha : PA X es (RA T cf W B ias)) : PE X (.List es pos) (RE T cf W B (.lst ias)) := by
  refine PE.imp (pe_lst ha) fun σ H Q h => ?_
  obtain ⟨ρ, w, s, h⟩ := h
  refine RA.one s ?_
  simp only [evE] at h
  cases e1 : evE cf ias ρ w.st with
  | stuck => rw [e1] at h; exact h
  | exc x st' => rw [e1] at h; exact h
  | ok x s1 =>
    rw [e1] at h
    cases x with
    | own xs =>
      simp only at h ⊢
      intro vs H' w' fx hw t c1 fr
      split at h
      · rename_i c st' e3
        split at e3
        · rename_i hs
          cases e3
          rw [Bool.and_eq_true] at hs
          refine ⟨by rw [c1.length]; exact small_le hs.2, fun p hp => ?_⟩
          obtain ⟨t2, fr2⟩ := new_fr (o := .lst vs) s.ok t hp fr fun a ha => c1.dom a ha
          exact h _ _ w' (p :: fx) hw t2 (.own upd_same (c1.step (Step.new t.ok hp) fun a ha => (fr.nw a ha).2.2) hs.1) fr2
        · cases e3
      · rename_i e3
        split at e3 <;> cases e3
      · exact h.elim
    | undef => exact h.elim
    | imm _ => exact h.elim
    | bor _ => exact h.elim
    | obj _ _ => exact h.elim
theorem re_nref {ias : IE} (ha : PA X es (RA T cf W B ias)) : PE X (.List es pos) (RE T cf W B (.nref ias)) := by
  refine PE.imp (pe_lst ha) fun σ H Q h => ?_
  obtain ⟨ρ, w, s, h⟩ := h
  refine RA.one s ?_
  simp only [evE] at h
  cases e1 : evE cf ias ρ w.st with
  | stuck => rw [e1] at h; exact h
  | exc x st' => rw [e1] at h; exact h
  | ok x s1 =>
    rw [e1] at h
    cases x with
    | own xs =>
      simp only at h ⊢
      intro vs H' w' fx hw t c1 fr
      cases e2 : imms xs with
      | none => rw [e2] at h; exact h.elim
      | some ds =>
        rw [e2] at h
        simp only at h
        obtain ⟨hd, rfl⟩ := c1.imms e2
        split at h
        · rename_i c st' e3
          split at e3
          · rename_i hs
            cases e3
            refine ⟨by rw [hd.length]; exact small_le hs, fun p hp => ?_⟩
            have gp : w'.G p = none := by
              cases e : w'.G p with
              | none => rfl
              | some o => rw [t.ok.ex p o e] at hp; cases hp
            have sp : p ∉ w'.S := fun m => by
              obtain ⟨o, e⟩ := t.ok.sdom m
              rw [hp] at e; cases e
            have sx : SExt w'.S (w'.S ++ [p]) := fun k a e => by
              rw [List.getElem?_append_left (List.getElem?_eq_some_iff.mp e).1]
              exact e
            have exU : Ex w'.G (upd H' p (.lst vs)) := fun a o e => by
              rw [upd_ne (ne_of_none (t.ok.ex a o e) hp)]
              exact t.ok.ex a o e
            have k2 : Ok T (upd H' p (.lst vs)) ⟨w'.G, w'.S ++ [p], s1 ++ [ds]⟩ := by
              refine ⟨exU, ⟨?_, fun k a es h1 h2 => ?_⟩, ?_, fun a ha => ?_⟩
              · show (w'.S ++ [p]).length = (s1 ++ [ds]).length
                rw [List.length_append, List.length_append, t.ok.st.len, hw]
                rfl
              · replace h1 : (w'.S ++ [p])[k]? = some a := h1
                replace h2 : (s1 ++ [ds])[k]? = some es := h2
                by_cases hk : k < w'.S.length
                · rw [List.getElem?_append_left hk] at h1
                  rw [List.getElem?_append_left (by rw [← hw, ← t.ok.st.len]; exact hk), ← hw] at h2
                  obtain ⟨us, h3, h4⟩ := t.ok.st.at_ k a es h1 h2
                  exact ⟨us, by rw [upd_ne (ne_of_none h3 hp)]; exact h3, h4.mono (Same.refl _) sx⟩
                · have hk2 : k = w'.S.length := by
                    have := (List.getElem?_eq_some_iff.mp h1).1
                    rw [List.length_append, List.length_singleton] at this
                    omega
                  subst hk2
                  rw [List.getElem?_append_right (Nat.le_refl _), Nat.sub_self] at h1
                  rw [t.ok.st.len, hw, List.getElem?_append_right (Nat.le_refl _), Nat.sub_self] at h2
                  cases h1; cases h2
                  exact ⟨vs, upd_same, hd.mono (Same.refl _) sx⟩
              · exact List.nodup_append.mpr ⟨t.ok.nd, by simp, fun a ha b hb e => by
                  have : b = p := by simpa using hb
                  subst this; subst e
                  exact sp ha⟩
              · rcases List.mem_append.mp ha with ha | ha
                · exact t.ok.gS a ha
                · obtain rfl : a = p := by simpa using ha
                  exact gp
            have t2 : Step T H' w' (upd H' p (.lst vs)) ⟨w'.G, w'.S ++ [p], s1 ++ [ds]⟩ :=
              ⟨k2, Same.refl _, fun a o e _ => by rw [upd_ne (ne_of_none e hp)]; exact e, (Step.refl t.ok).nw, sx, fun a ha => by
                rcases List.mem_append.mp ha with ha | ha
                · exact .inl ha
                · obtain rfl : a = p := by simpa using ha
                  exact .inr hp⟩
            refine h _ _ ⟨w'.G, w'.S ++ [p], s1 ++ [ds]⟩ [] rfl (Step.trans s.ok t t2) (.imm (.sref ?_)) Fr.nil
            show (w'.S ++ [p])[s1.length]? = some p
            rw [← hw, ← t.ok.st.len, List.getElem?_append_right (Nat.le_refl _), Nat.sub_self]
            rfl
          · cases e3
        · rename_i e3
          split at e3 <;> cases e3
        · exact h.elim
    | undef => exact h.elim
    | imm _ => exact h.elim
    | bor _ => exact h.elim
    | obj _ _ => exact h.elim
end
end Q

set_option maxRecDepth 100000
set_option maxHeartbeats 1000000
namespace Q
open PySem L2

/-! ### types -/
def Ty.val (T : Tabs) : Ty → Option Value
  | .int => some (.type "int")
  | .str => some (.type "str")
  | .bool => some (.type "bool")
  | .none => some (.type "NoneType")
  | .tuple => some (.type "tuple")
  | .list => some (.type "list")
  | .valueError => some (.type "ValueError")
  | .c k => (T.cls k).map fun p => .ref p.1
  | .x k => (T.exc k).map fun p => .ref p.1
def Ty.dat : Ty → Bool
  | .valueError => false
  | .x _ => false
  | _ => true
structure TF (T : Tabs) : Prop where
  cl : ∀ {c C ns}, T.cls c = some (C, ns) → Cls T.K C
  nd : ∀ {c C ns}, T.cls c = some (C, ns) → ns.Nodup
  na : ∀ {c C ns}, T.cls c = some (C, ns) → ∀ f ∈ ns, NoAttr T.K C f
  t1 : ∀ {c C ns}, T.cls c = some (C, ns) → PySem.W.findIn T.K (.ref C) "__class__" = some (some (.builtin "object.__class__"))
  t2 : PySem.W.specialIn T.K (.builtin "object.__class__") "__get__" = some (some (.builtin "getset_descriptor.__get__"))
  t3 : PySem.W.takesIn T.K (.builtin "object.__class__") = some true
  t4 : ∀ {c C ns}, T.cls c = some (C, ns) → PySem.W.mroIn T.K C (.type "object") = some true
  exm : ∀ {i j A B ns ms}, T.exc i = some (A, ns) → T.exc j = some (B, ms) → PySem.W.exmOne T.K (.ref A) (.ref B) = some (exSub i j)
  kit : ∀ {t u vt vu}, t.val T = some vt → u.val T = some vu → t.dat = true → PySem.W.kitOne T.K vt vu = some (tyLe t u)
section
variable {T : Tabs} {S : List Addr} {G H : Hp}
theorem ty_of (F : TF T) (e : Ex G H) {v : V} {c : Cell} {f : List Addr} {t : Ty} (h : CR T S G H v c f) (q : tyC c = some t) : ∃ vt, t.val T = some vt ∧ t.dat = true ∧ TyX T.K H v vt := by
  cases h with
  | imm hd =>
    cases hd with
    | non => cases q; exact ⟨_, rfl, rfl, .base .non⟩
    | bl b => cases q; exact ⟨_, rfl, rfl, .base (.bl b)⟩
    | int b => cases q; exact ⟨_, rfl, rfl, .base (.int b)⟩
    | str b => cases q; exact ⟨_, rfl, rfl, .base (.str b)⟩
    | tup h _ => cases q; exact ⟨_, rfl, rfl, .base (.tup (e _ _ h))⟩
    | lst h _ => cases q; exact ⟨_, rfl, rfl, .base (.lst (e _ _ h))⟩
    | scr h _ =>
      cases q
      refine ⟨_, rfl, rfl, ?_⟩
      rcases h with (h | ⟨o, h⟩) | ⟨o, its, n, h1, h2, _⟩
      · exact .base (.lst (e _ _ h))
      · exact .base (.frz (e _ _ h))
      · exact .kList h1 h2
    | ins hc h hn hd =>
      cases q
      exact ⟨_, by simp only [Ty.val, hc]; rfl, rfl, .base (.ins (e _ _ h) (F.cl hc) (F.t1 hc) F.t2 F.t3 (F.t4 hc))⟩
    | sref _ => cases q
  | own h _ _ => cases q; exact ⟨_, rfl, rfl, .base (.lst h)⟩
  | bor h _ _ _ => cases q; exact ⟨_, rfl, rfl, .base (.lst h)⟩
  | obj _ _ _ _ _ _ => cases q
theorem kit_any (F : TF T) {t : Ty} {vt : Value} (h1 : t.val T = some vt) (h2 : t.dat = true) : ∀ {us : List Ty} {vs : List Value}, us.mapM (Ty.val T) = some vs → PySem.W.kitAny T.K vt vs = some (us.any (tyLe t)) := by
  intro us
  induction us with
  | nil =>
    intro vs h
    cases h
    rfl
  | cons u us ih =>
    intro vs h
    rw [List.mapM_cons] at h
    cases e1 : u.val T with
    | none => rw [e1] at h; cases h
    | some v =>
      rw [e1] at h
      cases e2 : us.mapM (Ty.val T) with
      | none => rw [e2] at h; cases h
      | some ws =>
        rw [e2] at h
        cases h
        refine kitAny_cons (F.kit h1 e1 h2) (fun hb => ?_) (fun hb => ?_)
        · rw [ih e2, List.any_cons, hb, Bool.false_or]
        · rw [List.any_cons, hb, Bool.true_or]
end

section
variable {X : Cx} {T : Tabs} {cf : CF} {W : WX} {B : Base} {e a b c : Expr} {es : List Expr} {pos p : Pos} {x : Str}
/-! ### built-ins -/
def rBI (T : Tabs) (b : BI) : List V → Hp → VK → Prop := fun xs H Q => ∃ w cs fp c, Ok T H w ∧ CRs T w.S w.G H xs cs fp ∧ biC b cs = some c ∧ Got T H w w.st c Q
def rBL (T : Tabs) (f : List Cell → Option Cell) : List V → Hp → VK → Prop := fun xs H Q => ∃ w cs fp c, Ok T H w ∧ CRs T w.S w.G H xs cs fp ∧ f cs = some c ∧ Got T H w w.st c Q
theorem bools_of {S : List Addr} {H : Hp} : ∀ {vs : List V} {ds : List D} {bs : List Bool}, DVs T S H vs ds → bools ds = some bs → vs = bs.map V.bl
  | _, _, _, .nil, h => by cases h; rfl
  | _, _, _, .cons h hs, e => by
    cases h <;> first | (cases e; done) | skip
    rename_i d ds b
    simp only [bools] at e
    cases z : bools _ with
    | none => rw [z] at e; cases e
    | some cs =>
      rw [z] at e; cases e
      rw [List.map_cons, ← bools_of hs z]
theorem CRs.one {S : List Addr} {G H : Hp} {xs : List V} {c : Cell} {f : List Addr} (h : CRs T S G H xs [c] f) : ∃ v, xs = [v] ∧ CR T S G H v c f := by
  cases h with
  | cons h hs =>
  cases hs
  exact ⟨_, rfl, by rw [List.append_nil]; exact h⟩
theorem CRs.two {S : List Addr} {G H : Hp} {xs : List V} {c d : Cell} {f : List Addr} (h : CRs T S G H xs [c, d] f) : ∃ v u f1 f2, xs = [v, u] ∧ CR T S G H v c f1 ∧ CR T S G H u d f2 := by
  cases h with
  | cons h hs =>
  cases hs with
  | cons h2 hs =>
  cases hs
  exact ⟨_, _, _, _, rfl, h, h2⟩
theorem cr_len (hK : T.K = X.K) : CallR X (.builtin "len") (rBI T .len) := by
  intro pins s σ H xs us Q I r h
  obtain ⟨w, cs, fp, c, k, hc, e, q⟩ := h
  simp only [biC] at e
  unfold bLen at e
  split at e
  all_goals first | (cases e; done) | skip
  rename_i c1
  obtain ⟨v, rfl, h1⟩ := hc.one
  cases e1 : lenC c1 with
  | none => rw [e1] at e; cases e
  | some n =>
    rw [e1] at e
    cases e
    have go : ∀ {p : Addr} {ys : List V}, v = .ref p → (SqL X.K H p ys ∨ SqT X.K H p ys) → ys.length = n → wpAny (model X.prog X.w) X.A (call (.builtin "len") us) (EP X pins σ Q) X.xe s := fun {p ys} e h2 h3 => by
      subst h3
      exact call_len_seq pins s σ H _ us Q I r ⟨p, ys, by rw [e], h2, got_here k (.int _) q⟩
    cases h1 with
    | imm hd =>
      cases hd with
      | str s' =>
        simp only [lenC] at e1
        split at e1
        · rename_i hs
          cases e1
          exact call_len_str pins s σ H _ us Q I r ⟨_, rfl, small_le hs, got_here k (.int _) q⟩
        · cases e1
      | tup ha hds => cases e1; exact go rfl (.inr (SqT.of (k.ex _ _ ha))) hds.length
      | lst ha hds => cases e1; exact go rfl (.inl (SqL.of (k.ex _ _ ha))) hds.length
      | scr ha hds => cases e1; exact go rfl (.inl (by rw [← hK]; exact Same.seq k.ex ha)) hds.length
      | _ => cases e1
    | own ha hs _ => cases e1; exact go rfl (.inl (SqL.of ha)) hs.length
    | bor ha hs _ _ => cases e1; exact go rfl (.inl (SqL.of ha)) hs.length
    | obj _ _ _ _ _ _ => cases e1
theorem cr_int : CallR X (.type "int") (rBI T .int) := by
  intro pins s σ H xs us Q I r h
  obtain ⟨w, cs, fp, c, k, hc, e, q⟩ := h
  simp only [biC] at e
  unfold bInt at e
  split at e
  all_goals first | (cases e; done) | skip
  · cases e
    obtain ⟨v, rfl, h1⟩ := hc.one
    cases h1.int rfl
    exact call_int1 pins s σ H _ us Q I r (.inl ⟨_, rfl, got_here k (.int _) q⟩)
  · rename_i b
    cases e
    obtain ⟨v, rfl, h1⟩ := hc.one
    cases h1 with
    | imm hd =>
    cases hd
    exact call_int1 pins s σ H _ us Q I r (.inr ⟨_, rfl, got_here k (.int _) q⟩)
theorem cr_abs : CallR X (.builtin "abs") (rBI T .abs) := by
  intro pins s σ H xs us Q I r h
  obtain ⟨w, cs, fp, c, k, hc, e, q⟩ := h
  simp only [biC] at e
  unfold bAbs at e
  split at e
  all_goals first | (cases e; done) | skip
  · cases e
    obtain ⟨v, rfl, h1⟩ := hc.one
    cases h1.int rfl
    exact call_abs pins s σ H _ us Q I r ⟨_, rfl, got_here k (.int _) q⟩
theorem cr_min2 (hm : X.calm = true) : CallR X (.builtin "min") (rBI T .min2) := by
  intro pins s σ H xs us Q I r h
  obtain ⟨w, cs, fp, c, k, hc, e, q⟩ := h
  simp only [biC] at e
  unfold bMin2 at e
  split at e
  all_goals first | (cases e; done) | skip
  · cases e
    obtain ⟨v, u, f1, f2, rfl, h1, h2⟩ := hc.two
    cases h1.int rfl
    cases h2.int rfl
    exact call_min2 hm pins s σ H _ us Q I r ⟨_, _, rfl, got_here k (.int _) q⟩
theorem cr_max2 (hm : X.calm = true) : CallR X (.builtin "max") (rBI T .max2) := by
  intro pins s σ H xs us Q I r h
  obtain ⟨w, cs, fp, c, k, hc, e, q⟩ := h
  simp only [biC] at e
  unfold bMax2 at e
  split at e
  all_goals first | (cases e; done) | skip
  · cases e
    obtain ⟨v, u, f1, f2, rfl, h1, h2⟩ := hc.two
    cases h1.int rfl
    cases h2.int rfl
    exact call_max2 hm pins s σ H _ us Q I r ⟨_, _, rfl, got_here k (.int _) q⟩
theorem cr_tuple : CallR X (.type "tuple") (rBI T .tuple) := by
  intro pins s σ H xs us Q I r h
  obtain ⟨w, cs, fp, c, k, hc, e, q⟩ := h
  simp only [biC] at e
  unfold bTuple at e
  split at e
  · cases e
    obtain ⟨v, rfl, h1⟩ := hc.one
    obtain ⟨a, vs, rfl, h2, h3⟩ := h1.tup rfl
    exact call_tuple_of pins s σ H _ us Q I r ⟨a, vs, rfl, .inr ⟨SqT.of (k.ex _ _ h2), got_here k (.tup h2 h3) q⟩⟩
  · rename_i c1 _
    obtain ⟨v, rfl, h1⟩ := hc.one
    cases e1 : lstItems c1 with
    | none => rw [e1] at e; cases e
    | some ds =>
      rw [e1] at e; cases e
      obtain ⟨a, vs, rfl, h2, h3⟩ := h1.lst k.ex e1
      exact call_tuple_of pins s σ H _ us Q I r ⟨a, vs, rfl, .inl ⟨SqL.of h2, fun l hl => got_tup k hl h3 q⟩⟩
  · cases e
theorem cr_list (hK : T.K = X.K) : CallR X (.type "list") (rBI T .list) := by
  intro pins s σ H xs us Q I r h
  obtain ⟨w, cs, fp, c, k, hc, e, q⟩ := h
  simp only [biC] at e
  unfold bList at e
  split at e
  all_goals first | (cases e; done) | skip
  rename_i c1
  obtain ⟨v, rfl, h1⟩ := hc.one
  cases e1 : seqItems c1 with
  | none => rw [e1] at e; cases e
  | some ds =>
    rw [e1] at e; cases e
    obtain ⟨a, vs, rfl, h2, h3⟩ := h1.seq k.ex e1
    exact call_list_of pins s σ H _ us Q I r ⟨a, vs, rfl, by rw [← hK]; exact h2, fun l hl => got_lst k hl (CRs.of_imm h3) (own_imms _) q⟩
theorem crq_all (hm : X.calm = true) (hK : T.K = X.K) : CallR X (.builtin "all") (rBI T .all) := by
  intro pins s σ H xs us Q I r h
  obtain ⟨w, cs, fp, c, k, hc, e, q⟩ := h
  simp only [biC] at e
  unfold bAll at e
  split at e
  all_goals first | (cases e; done) | skip
  rename_i c1
  obtain ⟨v, rfl, h1⟩ := hc.one
  cases e1 : lstItems c1 with
  | none => rw [e1] at e; cases e
  | some ds =>
    cases e2 : bools ds with
    | none => simp only [e1, Option.bind_some, e2] at e; cases e
    | some bs =>
      simp only [e1, Option.bind_some, e2] at e
      cases e
      obtain ⟨a, vs, rfl, h2, h3⟩ := h1.lst k.ex e1
      cases bools_of h3 e2
      exact L2.cr_all hm pins s σ H _ us Q I r ⟨a, bs, rfl, SqL.of h2, got_here k (.bl _) q⟩
theorem crq_any (hm : X.calm = true) (hK : T.K = X.K) : CallR X (.builtin "any") (rBI T .any) := by
  intro pins s σ H xs us Q I r h
  obtain ⟨w, cs, fp, c, k, hc, e, q⟩ := h
  simp only [biC] at e
  unfold bAny at e
  split at e
  all_goals first | (cases e; done) | skip
  rename_i c1
  obtain ⟨v, rfl, h1⟩ := hc.one
  cases e1 : lstItems c1 with
  | none => rw [e1] at e; cases e
  | some ds =>
    cases e2 : bools ds with
    | none => simp only [e1, Option.bind_some, e2] at e; cases e
    | some bs =>
      simp only [e1, Option.bind_some, e2] at e
      cases e
      obtain ⟨a, vs, rfl, h2, h3⟩ := h1.lst k.ex e1
      cases bools_of h3 e2
      exact L2.cr_any hm pins s σ H _ us Q I r ⟨a, bs, rfl, SqL.of h2, got_here k (.bl _) q⟩
-- lists of numbers
theorem ints_of {S : List Addr} {G : Hp} : ∀ {vs : List V} {ds : List D} {ns : List Int}, DVs T S G vs ds → intsD ds = some ns → vs = ns.map V.int ∧ ds = ns.map D.int
  | _, _, ns, .nil, e => by
    cases e
    exact ⟨rfl, rfl⟩
  | _, _, ns, .cons (d := d) h hs, e => by
    cases d with
    | int i =>
      simp only [intsD] at e
      rw [Option.map_eq_some_iff] at e
      obtain ⟨ms, e1, rfl⟩ := e
      obtain ⟨rfl, rfl⟩ := ints_of hs e1
      cases h
      exact ⟨rfl, rfl⟩
    | _ => cases e
theorem dvs_int {S : List Addr} {G : Hp} : ∀ ns : List Int, DVs T S G (ns.map V.int) (ns.map D.int)
  | [] => .nil
  | n :: ns => .cons (.int n) (dvs_int ns)
theorem insZ_perm {α : Type} {f : α → Int} (x : α) : ∀ l : List α, (insZ f x l).Perm (x :: l)
  | [] => .refl _
  | y :: ys => by
    unfold insZ
    split
    · exact .refl _
    · exact ((insZ_perm x ys).cons y).trans (.swap _ _ _)
theorem sortZ_perm {α : Type} {f : α → Int} : ∀ l : List α, (sortZ f l).Perm l
  | [] => .refl _
  | x :: xs => (insZ_perm x _).trans ((sortZ_perm xs).cons x)
theorem insZ_rises {α : Type} {f : α → Int} (x : α) : ∀ l : List α, l.Pairwise (fun a b => f a ≤ f b) → (insZ f x l).Pairwise (fun a b => f a ≤ f b)
  | [], _ => List.pairwise_singleton _ _
  | y :: ys, h => by
    obtain ⟨h1, h2⟩ := List.pairwise_cons.mp h
    unfold insZ
    split
    · rename_i hx
      refine List.pairwise_cons.mpr ⟨fun z hz => ?_, h⟩
      rcases List.mem_cons.mp hz with rfl | hz
      · exact hx
      · exact Int.le_trans hx (h1 z hz)
    · rename_i hx
      refine List.pairwise_cons.mpr ⟨fun z hz => ?_, insZ_rises x ys h2⟩
      rcases List.mem_cons.mp ((insZ_perm x ys).mem_iff.mp hz) with rfl | hz
      · omega
      · exact h1 z hz
theorem sortZ_rises {α : Type} {f : α → Int} : ∀ l : List α, (sortZ f l).Pairwise (fun a b => f a ≤ f b)
  | [] => .nil
  | x :: xs => insZ_rises x _ (sortZ_rises xs)
theorem code_inj {B : Int} : ∀ {l l' : List Int}, l.length = l'.length → TS.Bd B l → TS.Bd B l' → TS.code B l = TS.code B l' → l = l'
  | [], [], _, _, _, _ => rfl
  | [], _ :: _, h, _, _, _ => by cases h
  | _ :: _, [], h, _, _, _ => by cases h
  | x :: l, y :: l', h, h1, h2, e => by
    have hl : l.length = l'.length := Nat.succ.inj h
    rcases Int.lt_trichotomy x y with c | c | c
    · exact absurd e (Int.ne_of_lt (TS.code_lt hl h1.tail h2.tail c))
    · subst c
      have e' : x * B ^ l.length + TS.code B l = x * B ^ l'.length + TS.code B l' := e
      rw [hl] at e'
      rw [code_inj hl h1.tail h2.tail (Int.add_left_cancel e')]
    · exact absurd e.symm (Int.ne_of_lt (TS.code_lt hl.symm h2.tail h1.tail c))
theorem perm_map {α β : Type} {f : α → β} : ∀ {ys : List β} {zs : List α}, ys.Perm (zs.map f) → ∃ us : List α, us.Perm zs ∧ us.map f = ys
  | [], zs, h => by
    have : zs = [] := List.map_eq_nil_iff.mp h.symm.eq_nil
    subst this
    exact ⟨[], .refl _, rfl⟩
  | y :: ys, zs, h => by
    obtain ⟨z, hz, e⟩ := List.mem_map.mp (h.mem_iff.mp List.mem_cons_self)
    obtain ⟨as, bs, rfl⟩ := List.append_of_mem hz
    have h2 : (y :: ys).Perm (y :: (as ++ bs).map f) := by
      refine h.trans ?_
      rw [List.map_append, List.map_cons, e, List.map_append]
      exact List.perm_middle
    obtain ⟨us, h3, h4⟩ := perm_map (h2.cons_inv)
    exact ⟨z :: us, (h3.cons z).trans List.perm_middle.symm, by rw [List.map_cons, e, h4]⟩
theorem tups_of {S : List Addr} {G : Hp} : ∀ {vs : List V} {ds : List D} {ls : List (List Int)}, DVs T S G vs ds → tupsD ds = some ls → ∃ zs : List (V × List Int), zs.map (·.1) = vs ∧ zs.map (·.2) = ls ∧ ds = ls.map (fun l => .tup (l.map .int)) ∧ ∀ p ∈ zs, DV T S G p.1 (.tup (p.2.map .int))
  | _, _, ls, .nil, e => by
    cases e
    exact ⟨[], rfl, rfl, rfl, fun _ h => nomatch h⟩
  | _, _, ls, .cons (v := v) (d := d) h hs, e => by
    cases d with
    | tup es =>
      simp only [tupsD] at e
      cases e1 : intsD es with
      | none => rw [e1] at e; cases e
      | some l =>
        cases e2 : tupsD _ with
        | none => rw [e1, e2] at e; cases e
        | some ls' =>
          rw [e1, e2] at e
          cases e
          obtain ⟨zs, h1, h2, h3, h4⟩ := tups_of hs e2
          have he : es = l.map .int := by
            cases h with
            | tup _ hd => exact (ints_of hd e1).2
          subst he
          refine ⟨(v, l) :: zs, by rw [List.map_cons, h1], by rw [List.map_cons, h2], by rw [List.map_cons, h3], fun p hp => ?_⟩
          rcases List.mem_cons.mp hp with rfl | hp
          · exact h
          · exact h4 p hp
    | _ => cases e
theorem dvs_zip {S : List Addr} {G : Hp} : ∀ {zs : List (V × List Int)}, (∀ p ∈ zs, DV T S G p.1 (.tup (p.2.map .int))) → DVs T S G (zs.map (·.1)) (zs.map fun p => .tup (p.2.map .int))
  | [], _ => .nil
  | p :: zs, h => .cons (h p List.mem_cons_self) (dvs_zip fun q hq => h q (List.mem_cons_of_mem _ hq))
theorem crq_sorted (hK : T.K = X.K) : CallR X (.builtin "sorted") (rBL T bSortedL) := by
  intro pins s σ H xs us Q I r h
  obtain ⟨w, cs, fp, c, k, hc, e, q⟩ := h
  unfold bSortedL at e
  split at e
  all_goals first | (cases e; done) | skip
  rename_i c1
  obtain ⟨v, rfl, h1⟩ := hc.one
  cases e1 : lstItems c1 with
  | none => rw [e1] at e; cases e
  | some ds =>
    rw [e1, Option.bind_some] at e
    obtain ⟨a, vs, rfl, h2, h3⟩ := h1.lst k.ex e1
    cases e2 : intsD ds with
    | some ns =>
      rw [e2] at e
      cases e
      obtain ⟨rfl, rfl⟩ := ints_of h3 e2
      refine L2.cr_sortedI pins s σ H _ us Q I r ⟨a, ns, rfl, SqL.of h2, fun ns' p hp hs hn => ?_⟩
      have hns : ns' = sortZ id ns := List.Perm.eq_of_pairwise (fun _ _ _ _ a b => Int.le_antisymm a b) hs (sortZ_rises (f := id) ns) (hp.trans (sortZ_perm ns).symm)
      subst hns
      exact got_lst k hn (CRs.of_imm (dvs_int _)) (own_imms _) q
    | none =>
      rw [e2] at e
      simp only at e
      cases e3 : tupsD ds with
      | none => rw [e3] at e; cases e
      | some ls =>
        rw [e3] at e
        simp only at e
        split at e
        · rename_i hok
          cases e
          obtain ⟨zs, z1, z2, z3, z4⟩ := tups_of h3 e3
          subst z1
          subst z2
          unfold tupsOk at hok
          rw [Bool.and_eq_true, decide_eq_true_eq] at hok
          obtain ⟨h64, hok⟩ := hok
          cases zs with
          | nil => cases hok
          | cons p0 zs0 =>
            have hok' : (decide (1 ≤ p0.2.length) && ((p0 :: zs0).map (·.2)).all (fun q => decide (q.length = p0.2.length) && q.all fun i => decide (0 ≤ i ∧ i < 1000))) = true := hok
            generalize hz : p0 :: zs0 = zs at *
            rw [Bool.and_eq_true, decide_eq_true_eq, List.all_eq_true] at hok'
            obtain ⟨hd1, hall⟩ := hok'
            have hb : ∀ p ∈ zs, p.2.length = p0.2.length ∧ TS.Bd 1000 p.2 := fun p hp => by
              have := hall p.2 (List.mem_map.mpr ⟨p, hp, rfl⟩)
              rw [Bool.and_eq_true, decide_eq_true_eq, List.all_eq_true] at this
              exact ⟨this.1, fun i hi => of_decide_eq_true (this.2 i hi)⟩
            have ti : ∀ p ∈ zs, TupI X.K H p.1 p.2 := fun p hp => by
              obtain ⟨x, l⟩ := p
              have hp4 : DV T w.S w.G x (.tup (l.map .int)) := z4 _ hp
              cases hp4 with
              | tup ha hv =>
                have hl : ∀ l : List Int, intsD (l.map D.int) = some l := fun l => by
                  induction l with
                  | nil => rfl
                  | cons n ns ih => simp only [List.map_cons, intsD, ih, Option.map_some]
                obtain ⟨rfl, _⟩ := ints_of hv (hl l)
                exact ⟨_, rfl, SqT.of (k.ex _ _ ha)⟩
            refine L2.cr_sortT (d := p0.2.length) (B := 1000) hd1 pins s σ H _ us Q I r ⟨a, zs.map (·.1), rfl, SqL.of h2, by rw [List.length_map] at h64 ⊢; exact h64, fun x hx => ?_, fun ys p hp hs hn => ?_⟩
            · obtain ⟨p, hp, rfl⟩ := List.mem_map.mp hx
              exact ⟨p.2, ti p hp, hb p hp⟩
            · obtain ⟨us', u1, rfl⟩ := perm_map hp
              have hm : ∀ p ∈ us', p ∈ zs := fun p hp => u1.mem_iff.mp hp
              have hpw : us'.Pairwise (fun p q => TS.code 1000 p.2 ≤ TS.code 1000 q.2) := by
                rw [List.pairwise_map] at hs
                exact List.Pairwise.imp_of_mem (fun {p q} hp hq h => h _ _ (ti p (hm p hp)) (ti q (hm q hq))) hs
              have hls : us'.map (·.2) = sortZ (TS.code 1000) (zs.map (·.2)) := by
                refine List.Perm.eq_of_pairwise (le := fun a b => TS.code 1000 a ≤ TS.code 1000 b) (fun x y hx hy h1 h2 => ?_) (List.pairwise_map.mpr hpw) (sortZ_rises _) ((u1.map _).trans (sortZ_perm _).symm)
                obtain ⟨p, hp, rfl⟩ := List.mem_map.mp hx
                obtain ⟨q, hq, rfl⟩ := List.mem_map.mp ((sortZ_perm _).mem_iff.mp hy)
                have b1 := hb p (hm p hp)
                have b2 := hb q hq
                exact code_inj (b1.1.trans b2.1.symm) b1.2 b2.2 (Int.le_antisymm h1 h2)
              have hdv := dvs_zip (T := T) (S := w.S) (G := w.G) fun p hp => z4 p (hm p hp)
              have : (us'.map fun p => D.tup (p.2.map .int)) = (sortZ (TS.code 1000) (zs.map (·.2))).map fun l => .tup (l.map .int) := by
                rw [← hls, List.map_map]
                rfl
              rw [this] at hdv
              exact got_lst k hn (CRs.of_imm hdv) (own_imms _) q
        · cases e
theorem maxZ_ok : ∀ (m : Int) (l : List Int), (maxZ m l = m ∨ maxZ m l ∈ l) ∧ m ≤ maxZ m l ∧ ∀ y ∈ l, y ≤ maxZ m l
  | m, [] => ⟨.inl rfl, Int.le_refl _, fun _ h => nomatch h⟩
  | m, x :: l => by
    obtain ⟨h1, h2, h3⟩ := maxZ_ok (if m < x then x else m) l
    unfold maxZ
    refine ⟨?_, ?_, fun y hy => ?_⟩
    · rcases h1 with h1 | h1
      · rw [h1]
        split
        · exact .inr List.mem_cons_self
        · exact .inl rfl
      · exact .inr (List.mem_cons_of_mem _ h1)
    · split at h2 <;> rename_i hc <;> simp only [hc, if_true, if_false] <;> omega
    · rcases List.mem_cons.mp hy with rfl | hy
      · split at h2 <;> rename_i hc <;> simp only [hc, if_true, if_false] <;> omega
      · exact h3 y hy
theorem minZ_ok : ∀ (m : Int) (l : List Int), (minZ m l = m ∨ minZ m l ∈ l) ∧ minZ m l ≤ m ∧ ∀ y ∈ l, minZ m l ≤ y
  | m, [] => ⟨.inl rfl, Int.le_refl _, fun _ h => nomatch h⟩
  | m, x :: l => by
    obtain ⟨h1, h2, h3⟩ := minZ_ok (if x < m then x else m) l
    unfold minZ
    refine ⟨?_, ?_, fun y hy => ?_⟩
    · rcases h1 with h1 | h1
      · rw [h1]
        split
        · exact .inr List.mem_cons_self
        · exact .inl rfl
      · exact .inr (List.mem_cons_of_mem _ h1)
    · split at h2 <;> rename_i hc <;> simp only [hc, if_true, if_false] <;> omega
    · rcases List.mem_cons.mp hy with rfl | hy
      · split at h2 <;> rename_i hc <;> simp only [hc, if_true, if_false] <;> omega
      · exact h3 y hy
theorem crq_max1 (hm : X.calm = true) : CallR X (.builtin "max") (rBI T .max1) := by
  intro pins s σ H xs us Q I r h
  obtain ⟨w, cs, fp, c, k, hc, e, q⟩ := h
  simp only [biC] at e
  unfold bMax1 at e
  split at e
  all_goals first | (cases e; done) | skip
  rename_i c1
  obtain ⟨v, rfl, h1⟩ := hc.one
  cases e1 : lstItems c1 with
  | none => rw [e1] at e; cases e
  | some ds =>
    rw [e1, Option.bind_some] at e
    obtain ⟨a, vs, rfl, h2, h3⟩ := h1.lst k.ex e1
    cases e2 : intsD ds with
    | none => rw [e2] at e; cases e
    | some ns =>
      rw [e2] at e
      cases ns with
      | nil => cases e
      | cons n ns =>
        cases e
        obtain ⟨rfl, rfl⟩ := ints_of h3 e2
        refine L2.cr_max hm pins s σ H _ us Q I r ⟨a, n :: ns, rfl, SqL.of h2, Nat.succ_pos _, fun m hm hle => ?_⟩
        obtain ⟨g1, g2, g3⟩ := maxZ_ok n ns
        have : m = maxZ n ns := by
          refine Int.le_antisymm ?_ (hle _ ?_)
          · rcases List.mem_cons.mp hm with rfl | hm
            · exact g2
            · exact g3 m hm
          · rcases g1 with g1 | g1
            · rw [g1]; exact List.mem_cons_self
            · exact List.mem_cons_of_mem _ g1
        rw [this]
        exact got_here k (.int _) q
theorem crq_min1 (hm : X.calm = true) : CallR X (.builtin "min") (rBI T .min1) := by
  intro pins s σ H xs us Q I r h
  obtain ⟨w, cs, fp, c, k, hc, e, q⟩ := h
  simp only [biC] at e
  unfold bMin1 at e
  split at e
  all_goals first | (cases e; done) | skip
  rename_i c1
  obtain ⟨v, rfl, h1⟩ := hc.one
  cases e1 : lstItems c1 with
  | none => rw [e1] at e; cases e
  | some ds =>
    rw [e1, Option.bind_some] at e
    obtain ⟨a, vs, rfl, h2, h3⟩ := h1.lst k.ex e1
    cases e2 : intsD ds with
    | none => rw [e2] at e; cases e
    | some ns =>
      rw [e2] at e
      cases ns with
      | nil => cases e
      | cons n ns =>
        cases e
        obtain ⟨rfl, rfl⟩ := ints_of h3 e2
        refine L2.cr_min hm pins s σ H _ us Q I r ⟨a, n :: ns, rfl, SqL.of h2, Nat.succ_pos _, fun m hm hle => ?_⟩
        obtain ⟨g1, g2, g3⟩ := minZ_ok n ns
        have : m = minZ n ns := by
          refine Int.le_antisymm (hle _ ?_) ?_
          · rcases g1 with g1 | g1
            · rw [g1]; exact List.mem_cons_self
            · exact List.mem_cons_of_mem _ g1
          · rcases List.mem_cons.mp hm with rfl | hm
            · exact g2
            · exact g3 m hm
        rw [this]
        exact got_here k (.int _) q
-- a built-in's call
theorem re_bi {b : BI} {ias : IE} {r : List V → Hp → VK → Prop} (hr : r = rBI T b) (hp : ∀ {t : TA}, PA X es t → PE X e (tCB r t)) (ha : PA X es (RA T cf W B ias)) : PE X e (RE T cf W B (.bi b ias)) := by
  subst hr
  refine PE.imp (hp ha) fun σ H Q h => ?_
  obtain ⟨ρ, w, s, h⟩ := h
  refine RA.one s ?_
  simp only [evE] at h
  cases e1 : evE cf ias ρ w.st with
  | stuck => rw [e1] at h; exact h
  | exc x st' => rw [e1] at h; exact h
  | ok x s1 =>
    rw [e1] at h
    cases x with
    | own xs =>
      simp only at h ⊢
      intro vs H' w' fx hw t c1 fr
      cases e2 : biC b xs with
      | none => rw [e2] at h; exact h.elim
      | some z =>
        rw [e2] at h
        exact ⟨w', xs, fx, z, t.ok, c1, e2, by rw [hw]; exact h.next s.ok t⟩
    | undef => exact h.elim
    | imm _ => exact h.elim
    | bor _ => exact h.elim
    | obj _ _ => exact h.elim
/-! ### a new list, a new tuple of a range -/
def rangeV (vs : List V) : Option (Int × Int) :=
  match vs with
  | [.int n] => if rngOk n then some (0, n) else none
  | [.int a, .int b] => if rngOk a && rngOk b then some (a, b) else none
  | _ => none
theorem ranged_dv {S : List Addr} {G : Hp} {lo : Int} : ∀ n : Nat, DVs T S G ((List.range n).map fun (i : Nat) => V.int (lo + (i : Int))) ((List.range n).map fun (i : Nat) => D.int (lo + (i : Int))) := by
  intro n
  induction n with
  | zero => exact .nil
  | succ n ih =>
    rw [List.range_succ, List.map_append, List.map_append]
    exact ih.append (.cons (.int _) .nil)
end
end Q

set_option maxRecDepth 100000
set_option maxHeartbeats 1000000
namespace Q
open PySem L2

/-! ### ranges -/
def evR (cf : CF) (r : IE) (ρ : Ev) (st : Store) : Re (Int × Int) :=
  match r with
  | .range1 a => match evE cf a ρ st with
    | .ok x s1 => match asInt x with
      | some n => if rngOk n then .ok (0, n) s1 else .stuck
      | none => .stuck
    | .exc x s => .exc x s
    | .stuck => .stuck
  | .range2 a b => match evE cf a ρ st with
    | .ok x s1 => match evE cf b ρ s1 with
      | .ok y s2 => match asInt x, asInt y with
        | some m, some n => if rngOk m && rngOk n then .ok (m, n) s2 else .stuck
        | _, _ => .stuck
      | .exc x s => .exc x s
      | .stuck => .stuck
    | .exc x s => .exc x s
    | .stuck => .stuck
  | _ => .stuck
theorem evR_ok {cf : CF} {r : IE} {ρ : Ev} {st st' : Store} {a b : Int} (h : evR cf r ρ st = .ok (a, b) st') : rngOk a = true ∧ rngOk b = true := by
  unfold evR at h
  split at h
  · split at h
    · split at h
      · split at h
        · cases h; exact ⟨rfl, by assumption⟩
        · cases h
      · cases h
    · cases h
    · cases h
  · split at h
    · split at h
      · split at h
        · split at h
          · rename_i hr
            cases h
            rw [Bool.and_eq_true] at hr
            exact hr
          · cases h
        · cases h
      · cases h
      · cases h
    · cases h
    · cases h
  · cases h
def isRange : IE → Bool
  | .range1 _ => true
  | .range2 _ _ => true
  | _ => false
theorem evE_range {cf : CF} {r : IE} {ρ : Ev} {st : Store} (hr : isRange r = true) : evE cf r ρ st = match evR cf r ρ st with
    | .ok p s => .ok (owns (ranged p.1 p.2)) s
    | .exc x s => .exc x s
    | .stuck => .stuck := by
  cases r <;> first | (cases hr; done) | skip
  · rename_i a
    simp only [evE, evR]
    cases evE cf a ρ st with
    | ok x s =>
      simp only
      cases asInt x with
      | none => rfl
      | some n => simp only; split <;> rfl
    | exc x s => rfl
    | stuck => rfl
  · rename_i a b
    simp only [evE, evR]
    cases evE cf a ρ st with
    | ok x s =>
      simp only
      cases evE cf b ρ s with
      | ok y s2 =>
        simp only
        cases asInt x with
        | none => rfl
        | some n =>
          cases asInt y with
          | none => rfl
          | some m => simp only; split <;> rfl
      | exc x s => rfl
      | stuck => rfl
    | exc x s => rfl
    | stuck => rfl
section
variable {X : Cx} {T : Tabs} {cf : CF} {W : WX} {B : Base} {e a b c : Expr} {es : List Expr} {pos p : Pos} {x : Str}
theorem asInt_of {x : Cell} {i : Int} (h : asInt x = some i) : x = .imm (.int i) := by
  unfold asInt at h
  split at h
  · cases h; rfl
  · cases h
theorem rng_of {i : Int} (h : rngOk i = true) : -(2 ^ 62) ≤ i ∧ i < 2 ^ 62 := of_decide_eq_true h
theorem imms_owns (ds : List D) : imms (ds.map .imm) = some ds := by
  induction ds with
  | nil => rfl
  | cons d ds ih => simp only [List.map_cons, imms, ih, Option.map_some]
theorem ranged_rgV {T : Tabs} {S : List Addr} {H : Hp} (a b : Int) : DVs T S H (rgV a b) (ranged a b) := by
  unfold rgV ranged
  have : ∀ n : Nat, DVs T S H ((List.range n).map fun i => V.int (a + (i : Nat))) ((List.range n).map fun (i : Nat) => D.int (a + (i : Int))) := by
    intro n
    induction n with
    | zero => exact .nil
    | succ n ih =>
      rw [List.range_succ, List.map_append, List.map_append]
      exact ih.append (.cons (.int _) .nil)
  exact this _
theorem ranged_length (a b : Int) : (ranged a b).length = (b - a).toNat := by unfold ranged; rw [List.length_map, List.length_range]
def RR (T : Tabs) (cf : CF) (W : WX) (B : Base) (r : IE) : L2.St → Hp → (Int → Int → Hp → Prop) → Prop := fun σ H Q => ∃ ρ w, Sim T B σ H ρ w ∧ match evR cf r ρ w.st with
  | .ok p st' => ∀ H' w', w'.st = st' → Step T H w H' w' → Q p.1 p.2 H'
  | .exc x st' => Exd T H w x st' fun cls d H' => W cls d σ H'
  | .stuck => False
theorem PRg.imp {t t' : L2.St → Hp → (Int → Int → Hp → Prop) → Prop} (h : PRg X e t) (i : ∀ σ H Q, t' σ H Q → t σ H Q) : PRg X e t' := fun pins s σ H Q I q => h pins s σ H Q I (i σ H Q q)
theorem rr_1 {ia : IE} (hg : Gl X "range") (hm : X.mg "range" = none) (ha : PE X a (RE T cf W B ia)) (na : starEach [a] X.env = (false, eval a X.env) :: starEach [] X.env) : PRg X (.Call (.Name "range" p) [a] [] pos) (RR T cf W B (.range1 ia)) := by
  refine PRg.imp (prg_1 hg hm ha na) fun σ H Q h => ?_
  obtain ⟨ρ, w, s, h⟩ := h
  refine RE.one s ?_
  simp only [evR] at h
  cases e1 : evE cf ia ρ w.st with
  | stuck => rw [e1] at h; exact h
  | exc x st' => rw [e1] at h; exact h
  | ok x s1 =>
    rw [e1] at h
    simp only at h ⊢
    cases e2 : asInt x with
    | none => rw [e2] at h; exact h.elim
    | some n =>
      rw [e2] at h
      obtain rfl := asInt_of e2
      simp only at h
      intro v H' w' fx hw t c1 fr
      cases c1 with
      | imm hd =>
      cases hd
      by_cases hr : rngOk n = true
      · rw [if_pos hr] at h
        exact ⟨n, rfl, h H' w' hw t⟩
      · rw [if_neg hr] at h
        exact h.elim
theorem rr_2 {ia ib : IE} (hg : Gl X "range") (hm : X.mg "range" = none) (ha : PE X a (RE T cf W B ia)) (hb : PE X b (RE T cf W B ib)) (na : starEach [a, b] X.env = (false, eval a X.env) :: starEach [b] X.env)
    (nb : starEach [b] X.env = (false, eval b X.env) :: starEach [] X.env) (hp : (backTo pos (starEach [b] X.env)).any (·.1) = false) : PRg X (.Call (.Name "range" p) [a, b] [] pos) (RR T cf W B (.range2 ia ib)) := by
  refine PRg.imp (prg_2 hg hm ha hb na nb hp) fun σ H Q h => ?_
  obtain ⟨ρ, w, s, h⟩ := h
  refine RE.two (f := fun x y H2 => ∃ i j, x = .int i ∧ y = .int j ∧ Q i j H2) s ?_
  simp only [evR] at h
  cases e1 : evE cf ia ρ w.st with
  | stuck => rw [e1] at h; exact h
  | exc x st' => rw [e1] at h; exact h
  | ok x s1 =>
    rw [e1] at h
    simp only at h ⊢
    cases e2 : evE cf ib ρ s1 with
    | stuck => rw [e2] at h; exact h
    | exc x st' => rw [e2] at h; exact h
    | ok y s2 =>
      rw [e2] at h
      simp only at h ⊢
      intro v u H' w' fx fy hw t c1 c2 fr
      cases e3 : asInt x with
      | none => rw [e3] at h; exact h.elim
      | some m =>
        cases e4 : asInt y with
        | none => rw [e3, e4] at h; exact h.elim
        | some n =>
          rw [e3, e4] at h
          obtain rfl := asInt_of e3
          obtain rfl := asInt_of e4
          simp only at h
          cases c1 with
          | imm hd1 =>
          cases c2 with
          | imm hd2 =>
          cases hd1; cases hd2
          by_cases hr : (rngOk m && rngOk n) = true
          · rw [if_pos hr] at h
            exact ⟨m, n, rfl, rfl, h H' w' hw t⟩
          · rw [if_neg hr] at h
            exact h.elim
theorem rg_ok {a b : Int} (h1 : rngOk a = true) (h2 : rngOk b = true) (h3 : small (b - a).toNat = true) : RgOk a b := by
  have q1 := rng_of h1
  have q2 := rng_of h2
  have q3 := of_decide_eq_true h3
  exact ⟨q1.1, q1.2, q2.1, q2.2, by omega⟩
theorem lstItems_owns (ds : List D) : lstItems (owns ds) = some ds := imms_owns ds
-- list(range(..)), tuple(range(..))
theorem re_lrange {r : IE} {k : Bool} {t : (L2.St → Hp → (Int → Int → Hp → Prop) → Prop) → TE} (ht : t = if k then tTupRg else tLstRg) (hr : isRange r = true) (hp : PE X e (t (RR T cf W B r))) : PE X e (RE T cf W B (.lrange k r)) := by
  refine PE.imp hp fun σ H Q h => ?_
  obtain ⟨ρ, w, s, h⟩ := h
  simp only [evE] at h
  rw [evE_range hr] at h
  have key : ∃ p : (Int → Int → Hp → Prop) → Prop, (p = fun Q' => RR T cf W B r σ H Q') := ⟨_, rfl⟩
  cases e1 : evR cf r ρ w.st with
  | stuck => rw [e1] at h; exact h.elim
  | exc x st' =>
    rw [e1] at h
    subst ht
    cases k
    · exact ⟨ρ, w, s, by rw [e1]; exact h⟩
    · exact ⟨ρ, w, s, by rw [e1]; exact h⟩
  | ok p s1 =>
    rw [e1] at h
    simp only [lstItems_owns] at h
    obtain ⟨i, j⟩ := p
    obtain ⟨r1, r2⟩ := evR_ok e1
    by_cases hs : small (ranged i j).length = true
    · rw [if_pos hs] at h
      rw [ranged_length] at hs
      subst ht
      cases k with
      | false =>
        refine ⟨ρ, w, s, ?_⟩
        rw [e1]
        intro H' w' hw t
        refine ⟨rg_ok r1 r2 hs, fun q hq => ?_⟩
        refine got_lst t.ok hq (CRs.of_imm (ranged_rgV i j)) (own_imms _) ?_
        rw [hw]
        exact Got.next s.ok t h
      | true =>
        refine ⟨ρ, w, s, ?_⟩
        rw [e1]
        intro H' w' hw t
        refine ⟨rg_ok r1 r2 hs, fun q hq => ?_⟩
        refine got_tup t.ok hq (ranged_rgV i j) ?_
        rw [hw]
        exact Got.next s.ok t h
    · rw [if_neg hs] at h
      exact h.elim
/-! ### isinstance -/
-- a list of classes, written
theorem pa_k0 : PA X [] (fun _ H Q => Q [] H) := pa_nil
theorem pa_k1 {v : V} {vs : List V} (ha : PE X e (tC v)) (hr : PA X es (fun _ H Q => Q vs H)) (hs : starEach (e :: es) X.env = (false, eval e X.env) :: starEach es X.env) : PA X (e :: es) (fun _ H Q => Q (v :: vs) H) := pa_cons ha hr hs
theorem re_isi1 {ia : IE} {ty : Ty} {cv : V} {u : Value} (F : TF T) (hK : T.K = X.K) (hv : ty.val T = some u) (hc : ClsV cv u) (ha : PE X a (RE T cf W B ia))
    (hp : ∀ {ta : TE}, PE X a ta → PE X e (tCB (rIsi X.K) (tCons ta (fun _ H Q => Q [cv] H)))) : PE X e (RE T cf W B (.isi ia [ty])) := by
  refine PE.imp (hp ha) fun σ H Q h => ?_
  obtain ⟨ρ, w, s, h⟩ := h
  refine RE.one s ?_
  simp only [evE] at h
  cases e1 : evE cf ia ρ w.st with
  | stuck => rw [e1] at h; exact h
  | exc x st' => rw [e1] at h; exact h
  | ok x s1 =>
    rw [e1] at h
    simp only at h ⊢
    intro v H' w' fx hw t c1 fr
    cases e2 : tyC x with
    | none => rw [e2] at h; exact h.elim
    | some t0 =>
      rw [e2] at h
      obtain ⟨vt, h1, h2, h3⟩ := ty_of F t.ok.ex c1 e2
      refine ⟨v, cv, vt, u, tyLe t0 ty, rfl, hc, by rw [← hK]; exact h3, by rw [← hK]; exact F.kit h1 hv h2, ?_⟩
      refine got_here t.ok (.bl _) ?_
      rw [hw]
      have h' := Got.next s.ok t h
      simp only [List.any_cons, List.any_nil, Bool.or_false] at h'
      exact h'
theorem re_isiT {ia : IE} {ts : List Ty} {cvs : List V} {us : List Value} (F : TF T) (hK : T.K = X.K) (hv : ts.mapM (Ty.val T) = some us) (hc : Paired ClsV cvs us) (hz : cvs.length ≤ sizeLine) (ha : PE X a (RE T cf W B ia))
    (hp : ∀ {ta : TE}, PE X a ta → PE X e (tCB (rIsiT X.K) (tCons ta (tCons (tTup fun _ H Q => Q cvs H) tNil)))) : PE X e (RE T cf W B (.isi ia ts)) := by
  refine PE.imp (hp ha) fun σ H Q h => ?_
  obtain ⟨ρ, w, s, h⟩ := h
  refine RE.one s ?_
  simp only [evE] at h
  cases e1 : evE cf ia ρ w.st with
  | stuck => rw [e1] at h; exact h
  | exc x st' => rw [e1] at h; exact h
  | ok x s1 =>
    rw [e1] at h
    simp only at h ⊢
    intro v H' w' fx hw t c1 fr
    cases e2 : tyC x with
    | none => rw [e2] at h; exact h.elim
    | some t0 =>
      rw [e2] at h
      refine ⟨hz, fun q hq => ?_⟩
      have t2 : Step T H' w' (upd H' q (.tup cvs)) w' := Step.new t.ok hq
      have c2 := c1.step t2 fun a ha => (fr.nw a ha).2.2
      obtain ⟨vt, h1, h2, h3⟩ := ty_of F t2.ok.ex c2 e2
      refine ⟨v, q, cvs, vt, us, ts.any (tyLe t0), rfl, upd_same, hc, by rw [← hK]; exact h3, by rw [← hK]; exact kit_any F h1 h2 hv, ?_⟩
      refine got_here t2.ok (.bl _) ?_
      rw [hw]
      exact Got.next t.ok t2 (Got.next s.ok t h)
/-! ### fields -/
theorem lookup_at {fs : List (Str × V)} {k : Nat} {f : Str} {v : V} (nd : (fs.map (·.1)).Nodup) (h1 : (fs.map (·.1))[k]? = some f) (h2 : (fs.map (·.2))[k]? = some v) : fs.lookup f = some v := by
  induction fs generalizing k with
  | nil => simp at h1
  | cons p fs ih =>
    obtain ⟨g, u⟩ := p
    rw [List.map_cons, List.nodup_cons] at nd
    cases k with
    | zero =>
      simp only [List.map_cons, List.getElem?_cons_zero, Option.some.injEq] at h1 h2
      subst h1; subst h2
      rw [List.lookup_cons]
      simp
    | succ k =>
      simp only [List.map_cons, List.getElem?_cons_succ] at h1 h2
      rw [List.lookup_cons]
      have : (f == g) = false := by
        rw [beq_eq_false_iff_ne]
        rintro rfl
        exact nd.1 (List.mem_of_getElem? h1)
      rw [this]
      exact ih nd.2 h1 h2
theorem re_fld {ia : IE} {ci k : Nat} {C : Addr} {ns : List Str} {f : Str} (F : TF T) (hK : T.K = X.K) (hc : T.cls ci = some (C, ns)) (hf : ns[k]? = some f) (ha : PE X a (RE T cf W B ia)) (hb : attributeBase a f X.env (eval a X.env) = eval a X.env) :
    PE X (.Attribute a f pos) (RE T cf W B (.fld ia ci k)) := by
  refine PE.imp (pe_fld ha hb) fun σ H Q h => ?_
  obtain ⟨ρ, w, s, h⟩ := h
  refine RE.one s ?_
  simp only [evE] at h
  cases e1 : evE cf ia ρ w.st with
  | stuck => rw [e1] at h; exact h
  | exc x st' => rw [e1] at h; exact h
  | ok x s1 =>
    rw [e1] at h
    have fm : f ∈ ns := List.mem_of_getElem? hf
    cases x with
    | undef => exact h.elim
    | own _ => exact h.elim
    | bor _ => exact h.elim
    | imm d =>
      cases d with
      | ins c' fs =>
        simp only at h ⊢
        intro v H' w' fx hw t c1 fr
        by_cases hcc : c' = ci
        · rw [if_pos hcc] at h
          subst hcc
          cases e2 : fs[k]? with
          | none => rw [e2] at h; exact h.elim
          | some d =>
            rw [e2] at h
            cases c1 with
            | imm hd =>
            cases hd with
            | @ins a' C' dx _ ns' fs' _ hc' h1 hn hds =>
            rw [hc] at hc'; cases hc'
            obtain ⟨u, h3, h4⟩ := hds.get e2
            refine ⟨_, _, _, _, u, rfl, t.ok.ex _ _ h1, by rw [← hK]; exact F.cl hc, by rw [← hK]; exact F.na hc f fm, lookup_at (by rw [hn]; exact F.nd hc) (by rw [hn]; exact hf) h3, ?_⟩
            refine got_here t.ok h4 ?_
            rw [hw]
            exact Got.next s.ok t h
        · rw [if_neg hcc] at h
          exact h.elim
      | _ => exact h.elim
    | obj c' fs =>
      simp only at h ⊢
      intro v H' w' fx hw t c1 fr
      by_cases hcc : c' = ci
      · rw [if_pos hcc] at h
        subst hcc
        cases e2 : fs[k]? with
        | none => rw [e2] at h; exact h.elim
        | some d =>
          rw [e2] at h
          cases c1 with
          | @obj a' C' dx _ ns' fs' _ hc' h1 h1' hn hl hds =>
          rw [hc] at hc'; cases hc'
          obtain ⟨u, h3, h4⟩ := hds.get e2
          refine ⟨_, _, _, _, u, rfl, h1, by rw [← hK]; exact F.cl hc, by rw [← hK]; exact F.na hc f fm, lookup_at (by rw [hn]; exact (F.nd hc).sublist (List.take_sublist _ _)) ?_ h3, ?_⟩
          · have hk := (List.getElem?_eq_some_iff.mp h3).1
            rw [List.length_map] at hk
            rw [hn, List.getElem?_take_of_lt hk]
            exact hf
          refine got_here t.ok h4 ?_
          rw [hw]
          exact Got.next s.ok t h
      · rw [if_neg hcc] at h
        exact h.elim
/-! ### slices -/
theorem PO.imp {o : Option Expr} {t t' : TO} (h : PO X o t) (i : ∀ σ H Q, t' σ H Q → t σ H Q) : PO X o t' := ⟨fun pins s σ H Q I q => h.run pins s σ H Q I (i σ H Q q)⟩
def RO (T : Tabs) (cf : CF) (W : WX) (B : Base) (e : IE) : TO := fun σ H Q => ∃ ρ w, Sim T B σ H ρ w ∧ match evE cf e ρ w.st with
  | .ok c st' => match partE e c with
    | some o => ∀ H' w', w'.st = st' → Step T H w H' w' → Q o H'
    | none => False
  | .exc x st' => Exd T H w x st' fun cls d H' => W cls d σ H'
  | .stuck => False
theorem ro_none : PO X none (RO T cf W B .nopart) := by
  refine PO.imp po_none fun σ H Q h => ?_
  obtain ⟨ρ, w, s, h⟩ := h
  exact h H w rfl (Step.refl s.ok)
theorem ro_some {ia : IE} (hn : ia ≠ .nopart) (ha : PE X a (RE T cf W B ia)) : PO X (some a) (RO T cf W B ia) := by
  refine PO.imp (po_some ha) fun σ H Q h => ?_
  obtain ⟨ρ, w, s, h⟩ := h
  refine RE.one s ?_
  cases e1 : evE cf ia ρ w.st with
  | stuck => rw [e1] at h; exact h
  | exc x st' => rw [e1] at h; exact h
  | ok x s1 =>
    rw [e1] at h
    simp only at h ⊢
    have hp : partE ia x = (asInt x).map some := by
      unfold partE
      split
      · exact absurd rfl hn
      · rfl
    rw [hp] at h
    intro v H' w' fx hw t c1 fr
    cases e2 : asInt x with
    | none => rw [e2] at h; exact h.elim
    | some i =>
      rw [e2] at h
      obtain rfl := asInt_of e2
      cases c1 with
      | imm hd =>
      cases hd
      exact ⟨i, rfl, h H' w' hw t⟩
theorem cut_dv {S : List Addr} {H : Hp} {vs : List V} {ds : List D} (h : DVs T S H vs ds) (l u : Option Int) : DVs T S H (cutV vs l u) (cutD ds l u) := by
  unfold cutV cutD
  rw [h.length]
  exact (h.drop _).take _
def rSl (K : PySem.W.Frag) : V → Option Int → Option Int → Hp → VK → Prop := fun x lo hi H Q => rSlL K x lo hi H Q ∨ rSlA K x lo hi H Q
theorem re_slc {lo hi : Option Expr} {ia il ih : IE} {p2 : Pos} (hK : T.K = X.K) (ha : PE X a (RE T cf W B ia)) (hl : PO X lo (RO T cf W B il)) (hh : PO X hi (RO T cf W B ih)) : PE X (.Subscript a (.Slice lo hi none p2) pos) (RE T cf W B (.slc ia il ih)) := by
  refine PE.imp (pe_slice (sl_list.or sl_tupA) ha hl hh) fun σ H Q h => ?_
  obtain ⟨ρ, w, s, h⟩ := h
  refine RE.one s ?_
  simp only [evE] at h
  cases e1 : evE cf ia ρ w.st with
  | stuck => rw [e1] at h; exact h
  | exc x st' => rw [e1] at h; exact h
  | ok x s1 =>
    rw [e1] at h
    simp only at h ⊢
    intro v H1 w1 fx hw1 t1 c1 fr1
    refine ⟨ρ, w1, s.step t1, ?_⟩
    rw [hw1]
    cases e2 : evE cf il ρ s1 with
    | stuck => rw [e2] at h; exact h
    | exc x st' => rw [e2] at h; exact h.back s.ok t1
    | ok y s2 =>
      rw [e2] at h
      simp only at h ⊢
      cases e3 : partE il y with
      | none => rw [e3] at h; exact h.elim
      | some l =>
        rw [e3] at h
        simp only at h ⊢
        intro H2 w2 hw2 t2
        refine ⟨ρ, w2, (s.step t1).step t2, ?_⟩
        rw [hw2]
        cases e4 : evE cf ih ρ s2 with
        | stuck => rw [e4] at h; exact h
        | exc x st' => rw [e4] at h; exact (h.back s.ok t1).back t1.ok t2
        | ok z s3 =>
          rw [e4] at h
          simp only at h ⊢
          cases e5 : partE ih z with
          | none => rw [e5] at h; exact h.elim
          | some u =>
            rw [e5] at h
            simp only at h ⊢
            intro H3 w3 hw3 t3
            have t := Step.trans s.ok (Step.trans s.ok t1 t2) t3
            have c3 := (c1.step t2 fun a ha => (fr1.nw a ha).2.2).step t3 fun a ha => ((fr1.step t2 fun a ha => c1.dom a ha).nw a ha).2.2
            cases e6 : slcC x l u with
            | none => rw [e6] at h; exact h.elim
            | some r =>
              rw [e6] at h
              have q := Got.next s.ok t h
              rw [← hw3] at q
              have lst : ∀ {xs : List D}, lstItems x = some xs → r = owns (cutD xs l u) → rSlL X.K v l u H3 Q := fun {xs} e7 e8 => by
                subst e8
                obtain ⟨a', vs, rfl, h2, h3⟩ := c3.lst t.ok.ex e7
                exact ⟨a', vs, rfl, SqL.of h2, fun p' hp' => got_lst t.ok hp' (CRs.of_imm (cut_dv h3 l u)) (own_imms _) q⟩
              unfold slcC at e6
              split at e6
              · cases e6
                obtain ⟨a', vs, rfl, h2, h3⟩ := c3.tup rfl
                refine .inr ⟨a', vs, rfl, SqT.of (t.ok.ex _ _ h2), fun z => ?_, fun _ p' hp' => got_tup t.ok hp' (cut_dv h3 l u) q⟩
                have hcut : ∀ ds : List D, vs.length = ds.length → cutD ds l u = ds := fun ds hl => by
                  unfold cutD
                  rw [← hl, z.1, z.2, Nat.sub_zero, List.drop_zero, hl, List.take_length]
                rw [hcut _ h3.length] at q
                exact got_here t.ok (.tup h2 h3) q
              · cases e6
                cases c3 with
                | imm hd =>
                cases hd with
                | scr ha' hds =>
                exact .inl ⟨_, _, rfl, by rw [← hK]; exact Same.seq t.ok.ex ha', fun p' hp' => got_lst t.ok hp' (CRs.of_imm (cut_dv hds l u)) (own_imms _) q⟩
              · cases e7 : lstItems x with
                | none => rw [e7] at e6; cases e6
                | some xs =>
                  rw [e7] at e6; cases e6
                  exact .inl (lst e7 rfl)
end
end Q

set_option maxRecDepth 100000
set_option maxHeartbeats 1000000
namespace Q
open PySem L2
section
variable {T : Tabs} {B : Base} {S : List Addr} {G H H' : Hp} {σ : L2.St} {ρ : Ev} {w w' : Wd}
/-! ### a slot is set -/
theorem ER.set {v : V} {c : Cell} {g : List Addr} (hh : Hd B v c) (hc : CR T S G H v c g) : ∀ {σ : L2.St} {ρ : Ev} {f : List Addr} {j : Nat}, ER T B S G H σ ρ f → j < σ.length → ∃ f1 fo f2, f = f1 ++ fo ++ f2 ∧ ER T B S G H (σ.set j (some v)) (ρ.set j c) (f1 ++ g ++ f2)
  | _, _, _, j, .nil, h => absurd h (Nat.not_lt_zero _)
  | _, _, _, 0, .undef (f := f) hs, _ => ⟨[], [], f, rfl, .cons hh hc hs⟩
  | _, _, _, 0, .cons (f := f) (fs := fs) _ h hs, _ => ⟨[], f, fs, rfl, .cons hh hc hs⟩
  | _, _, _, 0, .lent (fs := fs) h hs, _ => ⟨[], [], fs, rfl, .cons hh hc hs⟩
  | _, _, _, j + 1, .undef hs, h => by
    obtain ⟨f1, fo, f2, e, k⟩ := ER.set hh hc (j := j) hs (Nat.lt_of_succ_lt_succ h)
    exact ⟨f1, fo, f2, e, .undef k⟩
  | _, _, _, j + 1, .cons (f := f) hh' h' hs, h => by
    obtain ⟨f1, fo, f2, e, k⟩ := ER.set hh hc (j := j) hs (Nat.lt_of_succ_lt_succ h)
    refine ⟨f ++ f1, fo, f2, by rw [e]; simp only [List.append_assoc], ?_⟩
    have k' := ER.cons (B := B) hh' h' k
    simpa only [List.append_assoc, List.set_cons_succ] using k'
  | _, _, _, j + 1, .lent h' hs, h => by
    obtain ⟨f1, fo, f2, e, k⟩ := ER.set hh hc (j := j) hs (Nat.lt_of_succ_lt_succ h)
    exact ⟨f1, fo, f2, e, .lent h' k⟩
theorem Fr.sub3 {H : Hp} {w : Wd} {f1 fo f2 g : List Addr} (h : Fr H w (f1 ++ fo ++ f2)) (hg : Fr H w g) (hd : ∀ a ∈ g, a ∉ f1 ++ fo ++ f2) : Fr H w (f1 ++ g ++ f2) := by
  have hn := h.nd
  rw [List.append_assoc] at hn
  refine ⟨?_, fun a ha => ?_⟩
  · rw [List.append_assoc]
    rw [List.nodup_append] at hn ⊢
    obtain ⟨n1, n2, n3⟩ := hn
    rw [List.nodup_append] at n2
    refine ⟨n1, List.nodup_append.mpr ⟨hg.nd, n2.2.1, fun a ha b hb e => ?_⟩, fun a ha b hb e => ?_⟩
    · subst e
      exact hd a ha (List.mem_append_right _ hb)
    · subst e
      rcases List.mem_append.mp hb with hb | hb
      · exact hd a hb (List.mem_append_left _ (List.mem_append_left _ ha))
      · exact n3 a ha a (List.mem_append_right _ hb) rfl
  · rcases List.mem_append.mp ha with ha | ha
    · rcases List.mem_append.mp ha with ha | ha
      · exact h.nw a (List.mem_append_left _ (List.mem_append_left _ ha))
      · exact hg.nw a ha
    · exact h.nw a (List.mem_append_right _ ha)
-- a result goes into a slot
theorem Sim.set {v : V} {c : Cell} {g : List Addr} {j : Nat} {H0 : Hp} (s : Sim T B σ H ρ w) (hh : Hd B v c) (hc : CR T w.S w.G H v c g) (fr : Fr H0 w g) (hB : ∀ a, H0 a = none → B.H a = none) (hE : ∀ f, ER T B w.S w.G H σ ρ f → ∀ a ∈ g, a ∉ f) (hj : j < σ.length) :
    Sim T B (σ.set j (some v)) H (ρ.set j c) w := by
  obtain ⟨fp, h1, h2⟩ := s.f
  obtain ⟨f1, fo, f2, e, k⟩ := ER.set hh hc h1 hj
  subst e
  exact ⟨s.bk, s.st, _, k, Fr.sub3 h2 (fr.back hB) (hE _ h1)⟩
theorem Sim.set_imm {v : V} {d : D} {j : Nat} (s : Sim T B σ H ρ w) (hc : DV T w.S w.G v d) (hj : j < σ.length) : Sim T B (σ.set j (some v)) H (ρ.set j (.imm d)) w :=
  s.set (H0 := B.H) (hd_own rfl) (.imm hc) Fr.nil (fun _ z => z) (fun _ _ _ z => nomatch z) hj
-- behind a step from the state of the slots: the result's addresses are no slot's
theorem Sim.set_new {v : V} {c : Cell} {g : List Addr} {j : Nat} {H0 : Hp} {w0 : Wd} (s : Sim T B σ H0 ρ w0) (t : Step T H0 w0 H w) (hh : Hd B v c) (hc : CR T w.S w.G H v c g) (fr : Fr H0 w g) (hj : j < σ.length) : Sim T B (σ.set j (some v)) H (ρ.set j c) w := by
  obtain ⟨fp, h1, h2⟩ := s.f
  have h1' := h1.step t fun a ha => (h2.nw a ha).2.2
  have s' := s.step t
  obtain ⟨f1, fo, f2, e, k⟩ := ER.set hh hc h1' hj
  have h2' := h2.step t fun a ha => h1.dom a ha
  refine ⟨s'.bk, s'.st, _, k, ?_⟩
  rw [e] at h2'
  refine Fr.sub3 h2' (fr.back fun a z => s.st.dom s.bk.ok z) fun a ha hf => ?_
  rw [← e] at hf
  obtain ⟨o, ho⟩ := h1.dom a hf
  rw [(fr.nw a ha).1] at ho
  cases ho
theorem ownable_held {c : Cell} (h : ownable c = true) : held c = true := by
  cases c <;> first | rfl | cases h
end

/-! ### what is walked -/
section
variable {X : Cx} {T : Tabs} {cf : CF} {W : WX} {B : Base} {e a b c tg iter : Expr} {es : List Expr} {pos p : Pos} {x : Str}
def iSeq (K : PySem.W.Frag) (tl : TE) : TI := fun σ H R => tl σ H fun x H1 => ∃ a, x = .ref a ∧ (((∃ xs, SqL K H1 a xs) ∧ R (Itl K a) H1) ∨ ((∃ xs, SqT K H1 a xs) ∧ R (Itt K a) H1))
theorem pi_seq {l : Expr} {tl : TE} (hl : PE X l tl) : PI X tg l (iSeq X.K tl) := by
  refine ⟨fun pins s σ H R I h => ?_⟩
  refine thn (hl.run pins s σ H _ I h) fun v s1 ⟨x, H1, I1, r1, q1⟩ => ?_
  obtain ⟨a, e, q1⟩ := q1
  subst e
  cases r1
  rcases q1 with ⟨⟨xs, hq⟩, q⟩ | ⟨⟨xs, hq⟩, q⟩
  · obtain ⟨its, rv, p, hz⟩ := I1.list hq
    refine wpAny_pyIter_list p.isList ?_
    refine ⟨s1.heap.objs.size, [s1.heap.objs.size], _, _, H1, rfl, I1.kept (t' := s1.toks) fun b o e => Heap.get?_push_of_some _ e, turn_list a _, ⟨_, Heap.get?_push_size _ rfl, rfl, rfl⟩, fun b hb => ?_, q⟩
    have e : b = s1.heap.objs.size := by simpa using hb
    subst e
    exact I1.fpOk (Nat.le_refl _) (I1.hok.fresh (Nat.le_refl _))
  · obtain ⟨its, rv, p, hz⟩ := I1.tuple hq
    refine PySem.wpAny_pyIter_tuple (show s1.heap.IsTuple a its.toArray from p) ?_
    refine ⟨s1.heap.objs.size, [s1.heap.objs.size], _, _, H1, rfl, I1.kept (t' := s1.toks) fun b o e => Heap.get?_push_of_some _ e, turn_tuple a _, ⟨_, Heap.get?_push_size _ rfl, rfl, rfl⟩, fun b hb => ?_, q⟩
    have e : b = s1.heap.objs.size := by simpa using hb
    subst e
    exact I1.fpOk (Nat.le_refl _) (I1.hok.fresh (Nat.le_refl _))
-- J goes over vs while I stands
structure Wk (J : It) (vs : List V) (I : Hp → Prop) : Prop where
  go : ∀ i x H, vs[i]? = some x → I H → J.go i H
  stop : ∀ H, I H → J.stop vs.length H
  yld : ∀ i H x H', I H → i < vs.length → J.yld i H x H' → H' = H ∧ vs[i]? = some x
theorem wk_list {K : PySem.W.Frag} {a : Addr} {vs : List V} : Wk (Itl K a) vs (fun H => SqL K H a vs) :=
  ⟨fun i x H h I => ⟨vs, x, I, h⟩, fun H I => ⟨vs, I, Nat.le_refl _⟩, fun i H x H' I hi h => ⟨h.1, h.2 vs I⟩⟩
theorem wk_tup {K : PySem.W.Frag} {a : Addr} {vs : List V} : Wk (Itt K a) vs (fun H => SqT K H a vs) :=
  ⟨fun i x H h I => ⟨vs, x, I, h⟩, fun H I => ⟨vs, I, Nat.le_refl _⟩, fun i H x H' I hi h => ⟨h.1, h.2 vs I⟩⟩
theorem rgV_get {a b : Int} {i : Nat} {x : V} (h : (rgV a b)[i]? = some x) : i < (b - a).toNat ∧ x = .int (a + i) := by
  have hi := (List.getElem?_eq_some_iff.mp h).1
  rw [rgV_length] at hi
  unfold rgV at h
  rw [List.getElem?_map, List.getElem?_range hi] at h
  cases h
  exact ⟨hi, rfl⟩
theorem rgV_at {a b : Int} {i : Nat} (h : i < (b - a).toNat) : (rgV a b)[i]? = some (.int (a + i)) := by
  unfold rgV
  rw [List.getElem?_map, List.getElem?_range h]
  rfl
theorem wk_rng {a b : Int} : Wk (Itr a (b - a).toNat) (rgV a b) (fun _ => True) :=
  ⟨fun i x H h _ => (rgV_get h).1, fun H _ => by rw [rgV_length]; exact Nat.le_refl _, fun i H x H' _ hi h => ⟨h.1, by
    rw [rgV_length] at hi
    rw [rgV_at hi, h.2]⟩⟩
/-- what a for or a comprehension walks: the items as data, standing through every step -/
def RI (T : Tabs) (cf : CF) (W : WX) (B : Base) (it : IE) : TI := fun σ H R => ∃ ρ w, Sim T B σ H ρ w ∧ match evE cf it ρ w.st with
  | .ok x st' => match seqItems x with
    | some ds => ∀ J H1 w1 vs I, w1.st = st' → Step T H w H1 w1 → Wk J vs I → (∀ H2 w2, Step T H1 w1 H2 w2 → I H2) → DVs T w1.S w1.G vs ds → R J H1
    | none => False
  | .exc x st' => Exd T H w x st' fun cls d H' => W cls d σ H'
  | .stuck => False
theorem PI.imp {t t' : TI} (h : PI X tg iter t) (i : ∀ σ H Q, t' σ H Q → t σ H Q) : PI X tg iter t' := ⟨fun pins s σ H Q I q => h.run pins s σ H Q I (i σ H Q q)⟩
theorem ri_seq {it : IE} (hK : T.K = X.K) (ha : PE X iter (RE T cf W B it)) : PI X tg iter (RI T cf W B it) := by
  refine PI.imp (pi_seq ha) fun σ H R h => ?_
  obtain ⟨ρ, w, s, h⟩ := h
  refine RE.one s ?_
  cases e1 : evE cf it ρ w.st with
  | stuck => rw [e1] at h; exact h
  | exc x st' => rw [e1] at h; exact h
  | ok x s1 =>
    rw [e1] at h
    simp only at h ⊢
    cases e2 : seqItems x with
    | none => rw [e2] at h; exact h.elim
    | some ds =>
      rw [e2] at h
      simp only at h
      intro v H1 w1 fx hw t c1 fr
      have hS : ∀ a ∈ fx, a ∉ w1.S := fun a ha => (fr.nw a ha).2.2
      cases c1 with
      | imm hd =>
        cases hd <;> first | (cases e2; done) | skip
        · rename_i a vs _ h1 h2
          cases e2
          refine ⟨a, rfl, .inr ⟨⟨vs, SqT.of (t.ok.ex _ _ h1)⟩, h _ H1 w1 vs (fun H => SqT X.K H a vs) hw t wk_tup (fun H2 w2 t2 => SqT.of (t2.ok.ex _ _ (t2.exG _ _ h1))) h2⟩⟩
        · rename_i a vs _ h1 h2
          cases e2
          refine ⟨a, rfl, .inl ⟨⟨vs, SqL.of (t.ok.ex _ _ h1)⟩, h _ H1 w1 vs (fun H => SqL X.K H a vs) hw t wk_list (fun H2 w2 t2 => SqL.of (t2.ok.ex _ _ (t2.exG _ _ h1))) h2⟩⟩
        · rename_i a vs _ h1 h2
          cases e2
          rw [hK] at h1
          refine ⟨a, rfl, .inl ⟨⟨vs, Same.seq t.ok.ex h1⟩, h _ H1 w1 vs (fun H => SqL X.K H a vs) hw t wk_list (fun H2 w2 t2 => Same.seq t2.ok.ex (Same.seq t2.exG h1)) h2⟩⟩
      | @own a vs cs fp h1 h2 _ =>
        obtain ⟨h3, _⟩ := h2.imms e2
        exact ⟨a, rfl, .inl ⟨⟨vs, SqL.of h1⟩, h _ H1 w1 vs (fun H => SqL X.K H a vs) hw t wk_list (fun H2 w2 t2 => SqL.of (t2.fr _ _ h1 (hS _ List.mem_cons_self))) h3⟩⟩
      | @bor a vs cs fp h1 h2 hb _ =>
        obtain ⟨h3, _⟩ := h2.imms e2
        exact ⟨a, rfl, .inl ⟨⟨vs, SqL.of h1⟩, h _ H1 w1 vs (fun H => SqL X.K H a vs) hw t wk_list (fun H2 w2 t2 => SqL.of (t2.fr _ _ h1 (hb _ List.mem_cons_self))) h3⟩⟩
      | obj _ _ _ _ _ _ => cases e2
theorem ri_rng1 {ia : IE} (hg : Gl X "range") (hm : X.mg "range" = none) (ha : PE X a (RE T cf W B ia)) (hn : starEach [a] X.env = (false, eval a X.env) :: starEach [] X.env) (hs : starEach [a] X.env = [(false, eval a X.env)]) : PI X tg (.Call (.Name "range" p) [a] [] pos) (RI T cf W B (.range1 ia)) := by
  refine PI.imp (pi_range1 hg hm (pa_cons ha pa_nil hn) hs) fun σ H R h => ?_
  obtain ⟨ρ, w, s, h⟩ := h
  rw [evE_range rfl] at h
  refine RE.one s ?_
  simp only [evR] at h
  cases e1 : evE cf ia ρ w.st with
  | stuck => rw [e1] at h; exact h
  | exc x st' => rw [e1] at h; exact h
  | ok x s1 =>
    rw [e1] at h
    simp only at h ⊢
    cases e2 : asInt x with
    | none => rw [e2] at h; exact h.elim
    | some n =>
      rw [e2] at h
      obtain rfl := asInt_of e2
      simp only at h
      intro v H' w' fx hw t c1 fr
      cases c1 with
      | imm hd =>
      cases hd
      by_cases hr : rngOk n = true
      · rw [if_pos hr] at h
        simp only [seqItems, owns, imms_owns] at h
        have r := rng_of hr
        refine ⟨n, rfl, r.1, r.2, ?_⟩
        have k := h (Itr 0 (n - 0).toNat) H' w' (rgV 0 n) (fun _ => True) hw t wk_rng (fun _ _ _ => True.intro) (ranged_rgV 0 n)
        rw [Int.sub_zero] at k
        exact k
      · rw [if_neg hr] at h
        exact h.elim
theorem ri_rng2 {ia ib : IE} (hg : Gl X "range") (hm : X.mg "range" = none) (ha : PE X a (RE T cf W B ia)) (hb : PE X b (RE T cf W B ib)) (na : starEach [a, b] X.env = (false, eval a X.env) :: starEach [b] X.env) (nb : starEach [b] X.env = (false, eval b X.env) :: starEach [] X.env)
    (hs : starEach [a, b] X.env = [(false, eval a X.env), (false, eval b X.env)]) (hs2 : starEach [b] X.env = [(false, eval b X.env)]) : PI X tg (.Call (.Name "range" p) [a, b] [] pos) (RI T cf W B (.range2 ia ib)) := by
  refine PI.imp (pi_range2 hg hm (pa_cons ha (pa_cons hb pa_nil nb) na) hs hs2) fun σ H R h => ?_
  obtain ⟨ρ, w, s, h⟩ := h
  rw [evE_range rfl] at h
  refine RE.two (f := fun x y H2 => ∃ i j : Int, [x, y] = [.int i, .int j] ∧ (-(2 ^ 62) ≤ i ∧ i < 2 ^ 62 ∧ -(2 ^ 62) ≤ j ∧ j < 2 ^ 62) ∧ R (Itr i (j - i).toNat) H2) s ?_
  simp only [evR] at h
  cases e1 : evE cf ia ρ w.st with
  | stuck => rw [e1] at h; exact h
  | exc x st' => rw [e1] at h; exact h
  | ok x s1 =>
    rw [e1] at h
    simp only at h ⊢
    cases e2 : evE cf ib ρ s1 with
    | stuck => rw [e2] at h; exact h
    | exc x st' => rw [e2] at h; exact h
    | ok y s2 =>
      rw [e2] at h
      simp only at h ⊢
      intro v u H' w' fx fy hw t c1 c2 fr
      cases e3 : asInt x with
      | none => rw [e3] at h; exact h.elim
      | some m =>
        cases e4 : asInt y with
        | none => rw [e3, e4] at h; exact h.elim
        | some n =>
          rw [e3, e4] at h
          obtain rfl := asInt_of e3
          obtain rfl := asInt_of e4
          simp only at h
          cases c1 with
          | imm hd1 =>
          cases c2 with
          | imm hd2 =>
          cases hd1; cases hd2
          by_cases hr : (rngOk m && rngOk n) = true
          · rw [if_pos hr] at h
            simp only [seqItems, owns, imms_owns] at h
            rw [Bool.and_eq_true] at hr
            have r1 := rng_of hr.1
            have r2 := rng_of hr.2
            exact ⟨m, n, rfl, ⟨r1.1, r1.2, r2.1, r2.2⟩, h (Itr m (n - m).toNat) H' w' (rgV m n) (fun _ => True) hw t wk_rng (fun _ _ _ => True.intro) (ranged_rgV m n)⟩
          · rw [if_neg hr] at h
            exact h.elim
end
end Q

set_option maxRecDepth 100000
set_option maxHeartbeats 1000000
namespace Q
open PySem L2
abbrev W0 : WX := fun _ _ _ _ => False
section
variable {X : Cx} {T : Tabs} {cf : CF} {W : WX} {B : Base} {e a b c tg iter elt : Expr} {es : List Expr} {pos p : Pos} {x : Str}
theorem PE.impL {t t' : TE} (h : PE X e t) (i : ∀ σ H Q, σ.length = X.N.length → t' σ H Q → t σ H Q) : PE X e t' := ⟨fun pins s σ H Q I q => h.run pins s σ H Q I (i σ H Q I.len q)⟩
theorem PTs.imp {es : List Expr} {t t' : TT} (h : PTs X es t) (i : ∀ σ H Q, t' σ H Q → t σ H Q) : PTs X es t' := ⟨fun pins s σ H Q I q => h.run pins s σ H Q I (i σ H Q q)⟩
theorem rts_nil : PTs X [] (RT T cf W B (.con (.bl true))) := by
  refine PTs.imp pts_nil fun σ H Q h => ?_
  obtain ⟨ρ, w, s, h⟩ := h
  exact h H w rfl (Step.refl s.ok)
theorem rts_one {ic : IE} (h : PT X c (RT T cf W B ic)) : PTs X [c] (RT T cf W B ic) := pts_one h
-- one turn of a comprehension
def cstep (cf : CF) (j : Nat) (ic ie : IE) (ρ : Ev) (y : Cell) (s : Store) : Re (Option Cell) :=
  match evE cf ic (ρ.set j y) s with
  | .ok t s1 => match truC t with
    | some true => match evE cf ie (ρ.set j y) s1 with
      | .ok z s2 => if ownable z then .ok (some z) s2 else .stuck
      | .exc _ _ => .stuck
      | .stuck => .stuck
    | some false => .ok none s1
    | none => .stuck
  | .exc _ _ => .stuck
  | .stuck => .stuck
theorem evE_comp (j : Nat) (it ic ie : IE) (ρ : Ev) (st : Store) : evE cf (.comp j it ic ie) ρ st = match evE cf it ρ st with
    | .ok x s1 => match iterC x with
      | some xs => match cloop (cstep cf j ic ie ρ) xs s1 with
        | .ok ys s2 => if small xs.length then .ok (.own ys) s2 else .stuck
        | .exc _ _ => .stuck
        | .stuck => .stuck
      | none => .stuck
    | r => r := by
  simp only [evE]
  rfl
theorem lc_go {j : Nat} {ic ie : IE} {J : It} {H H1 : Hp} {σ : L2.St} {ρ : Ev} {w w1 : Wd} {ds : List D} {vs : List V} {I : Hp → Prop} {Q : VK} {ys : List Cell} {st' : Store}
    (s : Sim T B σ H ρ w) (t : Step T H w H1 w1) (hW : Wk J vs I) (hI : ∀ H2 w2, Step T H1 w1 H2 w2 → I H2) (hd : DVs T w1.S w1.G vs ds) (hj : j < σ.length) (hz : small ds.length = true)
    (hl : cloop (cstep cf j ic ie ρ) (ds.map .imm) w1.st = .ok ys st') (hq : Got T H w st' (.own ys) Q) :
    ∀ Dl, H1 Dl = none → ∃ Wi : Nat → Nat → Hp → Prop, (∃ m, Wi 0 m (upd H1 Dl (.lst []))) ∧ ∀ i m H, Wi i m H →
      (J.stop i H ∧ Q (.ref Dl) H) ∨ (J.go i H ∧ ∃ Nx : Hp → Prop, (∀ H', Nx H' → ∃ m', m' < m ∧ Wi (i + 1) m' H') ∧ ∀ x H', J.yld i H x H' → gName j x (wipe σ [j]) H' fun σ2 H2 => wipe σ2 [j] = wipe σ [j] ∧ RT T cf W0 B ic σ2 H2 fun b H3 =>
        if b = true then RE T cf W0 B ie σ2 H3 fun y H4 => ∃ acc, H4 Dl = some (.lst acc) ∧ acc.length < sizeLine ∧ Nx (upd H4 Dl (.lst (acc ++ [y]))) else Nx H3) := by
  intro Dl hD
  have hn := hd.length
  -- what holds between two turns
  let P : Nat → Hp → Prop := fun i H' => i ≤ ds.length ∧ ∃ (w' : Wd) (accv : List V) (acc : List Cell) (fp : List Addr) (rest : List Cell), Step T H1 w1 H' w' ∧ H' Dl = some (.lst accv) ∧ CRs T w'.S w'.G H' accv acc fp ∧ Fr H1 w' (Dl :: fp) ∧ (acc.length ≤ i ∧ acc.all ownable = true) ∧
    cloop (cstep cf j ic ie ρ) ((ds.drop i).map .imm) w'.st = .ok rest st' ∧ Got T H w st' (.own (acc ++ rest)) Q
  refine ⟨fun i m H' => m = ds.length - i ∧ P i H', ⟨ds.length, by rw [Nat.sub_zero], Nat.zero_le _, w1, [], [], [], ys, ?_⟩, ?_⟩
  · obtain ⟨t1, f1⟩ := new_fr (o := .lst []) t.ok (Step.refl t.ok) hD Fr.nil fun _ z => nomatch z
    exact ⟨t1, upd_same, .nil, f1, ⟨Nat.le_refl _, rfl⟩, hl, hq⟩
  rintro i m H' ⟨rfl, hi, w', accv, acc, fp, rest, t', hA, hc, fr, ⟨hz', hown⟩, hcl, hg⟩
  by_cases hlt : i < ds.length
  · refine .inr ⟨?_, P (i + 1), fun H2 hP => ⟨ds.length - (i + 1), by omega, rfl, hP⟩, ?_⟩
    · have : i < vs.length := by rw [hn]; exact hlt
      exact hW.go i vs[i] H' (List.getElem?_eq_getElem this) (hI H' w' t')
    · intro x H2 hy
      obtain ⟨rfl, hx⟩ := hW.yld i _ x H2 (hI _ w' t') (by rw [hn]; exact hlt) hy
      obtain ⟨d, hd1, hd2⟩ := hd.getV hx
      have s' : Sim T B (σ.set j (some x)) H2 (ρ.set j (.imm d)) w' := ((s.step t).step t').set_imm (hd2.mono t'.exG t'.sx) hj
      have e1 : (wipe σ [j]).set j (some x) = σ.set j (some x) := by
        show (σ.set j none).set j (some x) = _
        rw [List.set_set]
      show wipe ((wipe σ [j]).set j (some x)) [j] = wipe σ [j] ∧ _
      rw [e1]
      refine ⟨by show (σ.set j (some x)).set j none = σ.set j none; rw [List.set_set], ?_⟩
      have hdrop : ds.drop i = d :: ds.drop (i + 1) := by
        rw [List.drop_eq_getElem_cons hlt]
        rw [List.getElem?_eq_getElem hlt] at hd1
        cases hd1
        rfl
      rw [hdrop, List.map_cons] at hcl
      simp only [cloop] at hcl
      refine ⟨_, w', s', ?_⟩
      cases e2 : evE cf ic (ρ.set j (.imm d)) w'.st with
      | stuck => simp only [cstep, e2] at hcl; cases hcl
      | exc x s1 => simp only [cstep, e2] at hcl; cases hcl
      | ok tc s1 =>
        simp only [cstep, e2] at hcl
        simp only
        cases e3 : truC tc with
        | none => simp only [e3] at hcl; cases hcl
        | some k =>
          simp only [e3] at hcl ⊢
          intro H3 w3 hw3 t3
          cases k with
          | false =>
            simp only at hcl
            rw [if_neg Bool.false_ne_true]
            have hDS : Dl ∉ w'.S := (fr.nw Dl List.mem_cons_self).2.2
            refine ⟨hlt, w3, accv, acc, fp, rest, Step.trans t.ok t' t3, t3.fr _ _ hA hDS, hc.step t3 fun a ha => (fr.nw a (List.mem_cons_of_mem _ ha)).2.2, fr.step t3 fun a ha => ?_, ⟨Nat.le_succ_of_le hz', hown⟩, ?_, hg⟩
            · rcases List.mem_cons.mp ha with rfl | ha
              · exact ⟨_, hA⟩
              · exact hc.dom a ha
            · rw [hw3]
              cases e5 : cloop (cstep cf j ic ie ρ) ((ds.drop (i + 1)).map .imm) s1 with
              | ok ys' s2 => rw [e5] at hcl; exact hcl
              | exc x s2 => rw [e5] at hcl; cases hcl
              | stuck => rw [e5] at hcl; cases hcl
          | true =>
            rw [if_pos rfl]
            refine ⟨_, w3, s'.step t3, ?_⟩
            rw [hw3]
            simp only at hcl
            cases e4 : evE cf ie (ρ.set j (.imm d)) s1 with
            | stuck => simp only [e4] at hcl; cases hcl
            | exc x s1 => simp only [e4] at hcl; cases hcl
            | ok z s2 =>
              simp only [e4] at hcl ⊢
              intro y H4 w4 fy hw4 t4 cy fry
              by_cases ho : ownable z = true
              · rw [if_pos ho] at hcl
                simp only at hcl
                have hDS : Dl ∉ w'.S := (fr.nw Dl List.mem_cons_self).2.2
                have fr3 := fr.step t3 fun a ha => by
                  rcases List.mem_cons.mp ha with rfl | ha
                  · exact ⟨_, hA⟩
                  · exact hc.dom a ha
                have hA3 := t3.fr _ _ hA hDS
                have hc3 := hc.step t3 fun a ha => (fr.nw a (List.mem_cons_of_mem _ ha)).2.2
                have hDS3 : Dl ∉ w3.S := (fr3.nw Dl List.mem_cons_self).2.2
                have fr4 := fr3.step t4 fun a ha => by
                  rcases List.mem_cons.mp ha with rfl | ha
                  · exact ⟨_, hA3⟩
                  · exact hc3.dom a ha
                have hA4 := t4.fr _ _ hA3 hDS3
                have hc4 := hc3.step t4 fun a ha => (fr3.nw a (List.mem_cons_of_mem _ ha)).2.2
                have tt3 := Step.trans t.ok t' t3
                have tt : Step T H1 w1 H4 w4 := Step.trans t.ok tt3 t4
                -- the list grows
                have hDn := fr4.nw Dl List.mem_cons_self
                have nDy : ∀ a ∈ fy, a ≠ Dl := fun a ha z => by
                  subst z
                  rw [(fry.nw a ha).1] at hA3; cases hA3
                have nDf : Dl ∉ fp := (List.nodup_cons.mp fr4.nd).1
                have kU : Ok T (upd H4 Dl (.lst (accv ++ [y]))) w4 := by
                  refine ⟨fun a o ea => ?_, ⟨tt.ok.st.len, fun k a es h1 h2 => ?_⟩, tt.ok.nd, tt.ok.gS⟩
                  · have : a ≠ Dl := fun z => by
                      subst z
                      rw [hDn.2.1] at ea; cases ea
                    rw [upd_ne this]; exact tt.ok.ex a o ea
                  · obtain ⟨us, h3, h4⟩ := tt.ok.st.at_ k a es h1 h2
                    have : a ≠ Dl := fun z => by
                      subst z
                      exact hDn.2.2 (List.mem_of_getElem? h1)
                    exact ⟨us, by rw [upd_ne this]; exact h3, h4⟩
                have tU : Step T H1 w1 (upd H4 Dl (.lst (accv ++ [y]))) w4 :=
                  ⟨kU, tt.exG, fun a o ea m => by
                    have : a ≠ Dl := fun z => by
                      subst z
                      rw [hDn.1] at ea; cases ea
                    rw [upd_ne this]; exact tt.fr a o ea m, tt.nw, tt.sx, tt.sn⟩
                have cyU : CRs T w4.S w4.G (upd H4 Dl (.lst (accv ++ [y]))) [y] [z] fy := by
                  have q := CRs.cons (cy.upd (p := Dl) (o := .lst (accv ++ [y])) (ownable_held ho) fun z => nDy _ z rfl) (CRs.nil)
                  rw [List.append_nil] at q
                  exact q
                have accU := hc4.upd (p := Dl) (o := .lst (accv ++ [y])) hown nDf
                have frU : Fr H1 w4 (Dl :: (fp ++ fy)) := by
                  have q := Fr.app fr4 (fry.back fun _ z => z) (fun a z => tt3.dom t.ok z) fun a ha => by
                    rcases List.mem_cons.mp ha with rfl | ha
                    · exact ⟨_, hA3⟩
                    · exact hc3.dom a ha
                  exact q
                refine ⟨accv, hA4, ?_, hlt, w4, accv ++ [y], acc ++ [z], fp ++ fy, ?_⟩
                · rw [hc4.length]
                  have := of_decide_eq_true hz
                  rw [sizeLine_eq]; omega
                · cases e5 : cloop (cstep cf j ic ie ρ) ((ds.drop (i + 1)).map .imm) s2 with
                  | exc x s2 => rw [e5] at hcl; cases hcl
                  | stuck => rw [e5] at hcl; cases hcl
                  | ok ys' s3 =>
                    rw [e5] at hcl
                    cases hcl
                    refine ⟨ys', tU, upd_same, accU.append cyU, frU, ⟨?_, ?_⟩, by rw [hw4]; exact e5, ?_⟩
                    · rw [List.length_append]
                      exact Nat.add_le_add hz' (Nat.le_refl _)
                    · rw [List.all_append, hown, List.all_cons, ho]
                      rfl
                    · rw [List.append_assoc]
                      exact hg
              · rw [if_neg ho] at hcl
                cases hcl
  · have ei : i = ds.length := by omega
    subst ei
    rw [List.drop_length] at hcl
    simp only [List.map_nil, cloop] at hcl
    cases hcl
    rw [List.append_nil] at hg
    refine .inl ⟨by rw [← hn]; exact hW.stop H' (hI H' w' t'), hg (.ref Dl) H' w' (Dl :: fp) rfl (Step.trans s.ok t t') (.own hA hc hown) (fr.back fun a z => t.dom s.ok z)⟩
-- [elt for x in iter if c]
theorem lc_read {j : Nat} {it ic ie : IE} {σ : L2.St} {H : Hp} {Q : VK} (hj : j < σ.length) (h : RE T cf W B (.comp j it ic ie) σ H Q) : tLc (RI T cf W B it) (gName j) (RT T cf W0 B ic) (RE T cf W0 B ie) [j] σ H Q := by
  obtain ⟨ρ, w, s, h⟩ := h
  rw [evE_comp] at h
  refine ⟨ρ, w, s, ?_⟩
  cases e1 : evE cf it ρ w.st with
  | stuck => rw [e1] at h; exact h
  | exc x st' => rw [e1] at h; exact h
  | ok x s1 =>
    rw [e1] at h
    simp only at h ⊢
    unfold iterC at h
    cases e2 : seqItems x with
    | none => rw [e2] at h; exact h.elim
    | some ds =>
      rw [e2] at h
      simp only [Option.map_some] at h
      simp only
      intro J H1 w1 vs I hw t hW hI hd
      cases e3 : cloop (cstep cf j ic ie ρ) (ds.map .imm) s1 with
      | stuck => rw [e3] at h; exact h.elim
      | exc x s2 => rw [e3] at h; exact h.elim
      | ok ys s2 =>
        rw [e3] at h
        simp only at h
        by_cases hz : small (ds.map Cell.imm).length = true
        · rw [if_pos hz] at h
          rw [List.length_map] at hz
          exact lc_go s t hW hI hd hj hz (by rw [hw]; exact e3) h
        · rw [if_neg hz] at h
          exact h.elim
theorem re_comp {j : Nat} {it ic ie : IE} {ifs : List Expr} {scope : Scope} {tp : Pos} (hc : X.calm = true) (hN : X.N.Nodup) (hx : X.N[j]? = some x) (hi : PI X (.Name x tp) iter (RI T cf W B it)) (ok : BlkOk X.N X.env.scope scope [(x, j)])
    (hg : ∀ (s : Shared) (H : Hp) (C : Addr) (cl : List (Str × Addr)) (fp : List Addr), PG (X.blk s H scope (compEnvC scope cl C X.env) fp) (.Name x tp) (gName j))
    (ht : ∀ (s : Shared) (H : Hp) (C : Addr) (cl : List (Str × Addr)) (fp : List Addr), PTs (X.blk s H scope (compEnvC scope cl C X.env) fp) ifs (RT T cf W0 B ic))
    (he : ∀ (s : Shared) (H : Hp) (C : Addr) (cl : List (Str × Addr)) (fp : List Addr), PE (X.blk s H scope (compEnvC scope cl C X.env) fp) elt (RE T cf W0 B ie)) (hs : ∀ x, foldedSetIterable iter X.env x = pure x) :
    PE X (.ListComp elt [⟨.Name x tp, iter, ifs, 0⟩] scope pos) (RE T cf W B (.comp j it ic ie)) := by
  refine PE.impL (pe_lc hc hN hi ok hg ht he hs) fun σ H Q hl h => ?_
  exact lc_read (by rw [hl]; exact (List.getElem?_eq_some_iff.mp hx).1) h
end
end Q

set_option maxRecDepth 100000
set_option maxHeartbeats 1000000
namespace Q
open PySem L2

/-! ### promises -/
def argC : Cell → Bool
  | .imm _ => true
  | .bor _ => true
  | _ => false
def spF (T : Tabs) (cf : CF) (f n : Nat) : Sp := fun vs H Q E => vs.length = n ∧ ∃ w cs, Ok T H w ∧ CRs T w.S w.G H vs cs [] ∧ cs.all argC = true ∧ match cf f cs w.st with
  | .ok c st' => Got T H w st' c Q
  | .exc x st' => Exd T H w x st' E
  | .stuck => False
-- of a class's __init__: the new instance stands at x, its dict at dx
def spI (T : Tabs) (cf : CF) (c f n : Nat) : Sp := fun vs H Q E => vs.length = n ∧ ∃ (x dx C : Addr) (ns : List Str) (us : List V) (H0 : Hp) (w : Wd) (cs : List Cell), vs = .ref x :: us ∧ H0 x = none ∧ H0 dx = none ∧ dx ≠ x ∧ H = L2.upd (L2.upd H0 dx (.own x)) x (.ins C dx []) ∧
  T.cls c = some (C, ns) ∧ Ok T H0 w ∧ CRs T w.S w.G H0 us cs [] ∧ cs.all argC = true ∧ match cf f (.obj c [] :: cs) w.st with
  | .ok (.imm (.ins c' fs)) st' => ∀ H' w', w'.st = st' → Step T H0 w H' w' → DV T w'.S w'.G (.ref x) (.ins c' fs) → Q .non H'
  | .ok _ _ => False
  | .exc e st' => Exd T H0 w e st' E
  | .stuck => False
section
variable {T : Tabs} {S : List Addr} {G G' H H' : Hp} {w w' : Wd}
mutual
theorem CR.ground (e : Ex G G') : ∀ {v : V} {c : Cell} {f : List Addr}, CR T S G H v c f → CR T S G' H v c f
  | _, _, _, .imm h => .imm (h.mono e (SExt.refl _))
  | _, _, _, .own h1 h2 h3 => .own h1 (CRs.ground e h2) h3
  | _, _, _, .bor h1 h2 h3 h4 => .bor h1 (CRs.ground e h2) h3 h4
  | _, _, _, .obj a b c d e' f => .obj a b c d e' (f.mono e (SExt.refl _))
theorem CRs.ground (e : Ex G G') : ∀ {v : List V} {c : List Cell} {f : List Addr}, CRs T S G H v c f → CRs T S G' H v c f
  | _, _, _, .nil => .nil
  | _, _, _, .cons h hs => .cons (CR.ground e h) (CRs.ground e hs)
end
theorem pass_ok {F : List Addr} (eF : Ex G (frozen G H F)) : ∀ {vs : List V} {cs ys : List Cell} {f : List Addr}, CRs T S G H vs cs f → (∀ a ∈ f, a ∈ F) → passAll cs = some ys → CRs T S (frozen G H F) H vs ys [] ∧ ys.all argC = true
  | _, _, _, _, .nil, _, q => by
    simp only [passAll] at q
    cases q
    exact ⟨.nil, rfl⟩
  | _, _, _, _, .cons (v := v) (c := c) (cs := cs) h hs, hF, q => by
    simp only [passAll] at q
    cases z1 : passC c with
    | none => rw [z1] at q; cases q
    | some y =>
      cases z2 : passAll cs with
      | none => rw [z1, z2] at q; cases q
      | some ys =>
        rw [z1, z2] at q
        cases q
        obtain ⟨k1, k2⟩ := pass_ok eF hs (fun a ha => hF a (List.mem_append_right _ ha)) z2
        have hy : CR T S (frozen G H F) H v y [] ∧ argC y = true := by
          have viaKeep : ∀ d, keepC c = some d → y = .imm d → CR T S (frozen G H F) H v y [] ∧ argC y = true := fun d hk hy => by
            subst hy
            exact ⟨.imm (h.freeze eF (fun a ha => hF a (List.mem_append_left _ ha)) hk), rfl⟩
          cases h with
          | bor h1 h2 h3 h4 =>
            simp only [passC] at z1
            cases z1
            exact ⟨.bor h1 (CRs.ground eF h2) h3 h4, rfl⟩
          | imm h1 =>
            simp only [passC, keepC] at z1
            cases z1
            exact viaKeep _ (by simp only [keepC]) rfl
          | own h1 h2 h3 =>
            simp only [passC] at z1
            split at z1
            · rename_i d hk
              cases z1
              exact viaKeep d hk rfl
            · cases z1
          | obj _ _ _ _ _ _ =>
            simp only [passC, keepC] at z1
            cases z1
        have q := CRs.cons hy.1 k1
        exact ⟨q, by rw [List.all_cons, hy.2, k2]; rfl⟩
theorem pass_length : ∀ {cs ys : List Cell}, passAll cs = some ys → ys.length = cs.length
  | [], _, q => by simp only [passAll] at q; cases q; rfl
  | c :: cs, _, q => by
    simp only [passAll] at q
    cases z1 : passC c with
    | none => rw [z1] at q; cases q
    | some y =>
      cases z2 : passAll cs with
      | none => rw [z1, z2] at q; cases q
      | some ys =>
        rw [z1, z2] at q
        cases q
        rw [List.length_cons, List.length_cons, pass_length z2]
theorem pass_step {vs : List V} {cs ys : List Cell} {fp : List Addr} (t : Step T H w H' w') (hc : CRs T w'.S w'.G H' vs cs fp) (fr : Fr H w' fp) (hk : passAll cs = some ys) :
    Step T H w H' { w' with G := frozen w'.G H' fp } ∧ CRs T w'.S (frozen w'.G H' fp) H' vs ys [] ∧ ys.all argC = true := by
  obtain ⟨k1, k2⟩ := pass_ok (frozen_ex fun a ha => (fr.nw a ha).2.1) hc (fun a ha => ha) hk
  exact ⟨t.freeze fun a ha => fr.nw a ha, k1, k2⟩
end

section
variable {X : Cx} {T : Tabs} {cf : CF} {W : WX} {B : Base} {e a b c o : Expr} {es : List Expr} {pos p apos : Pos} {x m : Str} {k : Nat} {fa C : Addr} {fd : FuncData} {ps : List Str} {f n : Nat}
/-! ### calls of defs -/
theorem pe_callS0 {sp : Sp} {E : L2.St → XK} (F : FnOk X.prog X.w X.K X.mg X.base (L2.CX X.prog X.w) k fa fd ps sp) (hr : Room k X.A) (hg : Gl X x) (hm : X.mg x = some (.ref fa)) (hk : PySem.W.keepIn X.K (.ref fa) = true) (hb : Binds X.K fd ps []) (hx : ∀ σ, PassesAt (L2.CX X.prog X.w) X σ (E σ))
    (hdb : (x == ("__debug__" : Str)) = false) : PE X (.Call (.Name x p) [] [] pos) (tCallS sp E tNil) := by
  refine ⟨fun pins s σ H Q I h => ?_⟩
  refine PySem.wpAny_Call_Name_kw (ld_glob I hg hm ?_ hdb)
  exact PySem.W.callWith_K0 I.kIn hk (run_fnS (us := []) F hr hb (hx σ) I .nil h)
theorem re_call {ias : IE} (hcl : ∀ cs st, cs.length ≠ n → cf f cs st = .stuck) (hp : PE X e (tCallS (spF T cf f n) (WE W) (RA T cf W B ias))) : PE X e (RE T cf W B (.call f ias)) := by
  refine PE.imp hp fun σ H Q h => ?_
  obtain ⟨ρ, w, s, h⟩ := h
  refine RA.one s ?_
  simp only [evE] at h
  cases e1 : evE cf ias ρ w.st with
  | stuck => rw [e1] at h; exact h
  | exc x st' => rw [e1] at h; exact h
  | ok x s1 =>
    rw [e1] at h
    cases x with
    | own xs =>
      simp only at h ⊢
      intro vs H' w' fx hw t c1 fr
      cases e2 : passAll xs with
      | none => rw [e2] at h; exact h.elim
      | some ys =>
        rw [e2] at h
        simp only at h
        obtain ⟨t2, c2, ha⟩ := pass_step t c1 fr e2
        by_cases hn : ys.length = n
        · refine ⟨by rw [c2.length, hn], { w' with G := frozen w'.G H' fx }, ys, t2.ok, c2, ha, ?_⟩
          subst hw
          cases e3 : cf f ys w'.st with
          | stuck => rw [e3] at h; exact h
          | exc x st' => rw [e3] at h; exact h.back s.ok t2
          | ok z s2 => rw [e3] at h; exact Got.next s.ok t2 h
        · rw [hcl _ _ hn] at h
          exact h.elim
    | undef => exact h.elim
    | imm _ => exact h.elim
    | bor _ => exact h.elim
    | obj _ _ => exact h.elim
/-! ### methods -/
def tMethS (C : Addr) (m : Str) (sp : Sp) (E : L2.St → XK) (ta : TE) (t : TA) : TE := fun σ H Q => ta σ H fun x H1 => ∃ a dx fs, x = .ref a ∧ H1 a = some (.ins C dx fs) ∧ fs.lookup m = none ∧ t σ H1 fun vs H2 => sp (x :: vs) H2 Q (E σ)
theorem pe_methS {sp : Sp} {E : L2.St → XK} {ta : TE} {t : TA} {pl : Sem Bool} (he : PE X o ta) (c : Cls X.K C) (hm : Meth X.K C m fa) (F : FnOk X.prog X.w X.K X.mg X.base (L2.CX X.prog X.w) k fa fd ps sp) (hr : Room k X.A) (hb : Binds X.K fd ps []) (hx : ∀ σ, PassesAt (L2.CX X.prog X.w) X σ (E σ)) (ha : PA X (e :: es) t)
    (hst : starEach (e :: es) X.env = (false, eval e X.env) :: starEach es X.env) (hpl : (backTo pos (starEach es X.env)).any (·.1) = false)
    (ht : eval (.Call (.Attribute o m apos) (e :: es) [] pos) X.env = (do
      let ov ← eval o X.env
      standAt apos.atName
      let (f, first) ← holding [ov] (getMethod ov m pl)
      callWith pos f first (backTo pos (starEach (e :: es) X.env)) (backToKw pos (keywordEach [] X.env)))) :
    PE X (.Call (.Attribute o m apos) (e :: es) [] pos) (tMethS C m sp E ta t) := by
  refine ⟨fun pins s σ H Q I h => ?_⟩
  refine PySem.W.methodCall_KW (pl := pl) (thn (he.run pins s σ H _ I h) fun u s1 ⟨x, H1, I1, rx, a, dx, fs, ex, ea, l, q⟩ => ?_) ht
  subst ex
  obtain rfl : u = Value.ref a := rx
  refine getmeth_ok I1 ea c hm l ?_
  refine PySem.W.callWith_K (first := [.ref a]) (h₀ := X.base) I.ok.mod.kin hm.kp (thn (ha.run pos pins s1 σ H1 _ I1 q) fun us s2 ⟨vs, H2, I2, r, q2⟩ => ⟨I2.kIn, ?_⟩) hst hpl
  exact run_fnS (us := .ref a :: us) (vs := .ref a :: vs) F hr hb (hx σ) I2 (.cons rfl r) q2
theorem pe_methS0 {sp : Sp} {E : L2.St → XK} {ta : TE} {pl : Sem Bool} (he : PE X o ta) (c : Cls X.K C) (hm : Meth X.K C m fa) (F : FnOk X.prog X.w X.K X.mg X.base (L2.CX X.prog X.w) k fa fd ps sp) (hr : Room k X.A) (hb : Binds X.K fd ps []) (hx : ∀ σ, PassesAt (L2.CX X.prog X.w) X σ (E σ))
    (ht : eval (.Call (.Attribute o m apos) [] [] pos) X.env = (do
      let ov ← eval o X.env
      standAt apos.atName
      let (f, first) ← holding [ov] (getMethod ov m pl)
      callWith pos f first (backTo pos (starEach [] X.env)) (backToKw pos (keywordEach [] X.env)))) :
    PE X (.Call (.Attribute o m apos) [] [] pos) (tMethS C m sp E ta tNil) := by
  refine ⟨fun pins s σ H Q I h => ?_⟩
  refine PySem.W.methodCall_KW (pl := pl) (thn (he.run pins s σ H _ I h) fun u s1 ⟨x, H1, I1, rx, a, dx, fs, ex, ea, l, q⟩ => ?_) ht
  subst ex
  obtain rfl : u = Value.ref a := rx
  refine getmeth_ok I1 ea c hm l ?_
  exact PySem.W.callWith_K0 (first := [.ref a]) I1.kIn hm.kp (run_fnS (us := [.ref a]) (vs := [.ref a]) F hr hb (hx σ) I1 (.cons rfl .nil) q)
theorem lookup_none {fs : List (Str × V)} {m : Str} (h : m ∉ fs.map (·.1)) : fs.lookup m = none := by
  induction fs with
  | nil => rfl
  | cons p fs ih =>
    rw [List.map_cons, List.mem_cons, not_or] at h
    rw [List.lookup_cons]
    have : (m == p.1) = false := beq_eq_false_iff_ne.mpr h.1
    rw [this]
    exact ih h.2
theorem re_meth {ia ias : IE} {ci : Nat} {ns : List Str} (hc : T.cls ci = some (C, ns)) (hmn : m ∉ ns) (hcl : ∀ cs st, cs.length ≠ n → cf f cs st = .stuck) (hp : PE X e (tMethS C m (spF T cf f n) (WE W) (RE T cf W B ia) (RA T cf W B ias))) :
    PE X e (RE T cf W B (.meth ci f ia ias)) := by
  refine PE.imp hp fun σ H Q h => ?_
  obtain ⟨ρ, w, s, h⟩ := h
  refine RE.one s ?_
  simp only [evE] at h
  cases e0 : evE cf ia ρ w.st with
  | stuck => rw [e0] at h; exact h
  | exc x st' => rw [e0] at h; exact h
  | ok x0 s0 =>
    rw [e0] at h
    cases x0 with
    | imm d =>
      cases d with
      | ins c' fs =>
        simp only at h ⊢
        intro v H0 w0 f0 hw0 t0 c0 fr0
        by_cases hcc : c' = ci
        · rw [if_pos hcc] at h
          subst hcc
          have hd : DV T w0.S w0.G v (.ins c' fs) := by
            cases c0 with
            | imm hd => exact hd
          cases hd with
          | @ins a' C' dx _ ns' fs' _ hc' h1 hn hds =>
          rw [hc] at hc'
          cases hc'
          refine ⟨_, _, _, rfl, t0.ok.ex _ _ h1, lookup_none (by rw [hn]; exact hmn), ?_⟩
          refine ⟨ρ, w0, s.step t0, ?_⟩
          rw [hw0]
          cases e1 : evE cf ias ρ s0 with
          | stuck => rw [e1] at h; exact h
          | exc x st' => rw [e1] at h; exact h.back s.ok t0
          | ok x s1 =>
            rw [e1] at h
            cases x with
            | own xs =>
              simp only at h ⊢
              intro vs H' w' fx hw t c1 fr
              cases e2 : passAll xs with
              | none => rw [e2] at h; exact h.elim
              | some ys =>
                rw [e2] at h
                simp only at h
                obtain ⟨t2, c2, ha⟩ := pass_step t c1 fr e2
                have hd2 : DV T w'.S (frozen w'.G H' fx) (.ref a') (.ins c' fs) := (DV.ins hc h1 hn hds).mono t2.exG t2.sx
                have c3 := CRs.cons (CR.imm (H := H') hd2) c2
                by_cases hn' : (Cell.imm (.ins c' fs) :: ys).length = n
                · refine ⟨by rw [c3.length, hn'], { w' with G := frozen w'.G H' fx }, _, t2.ok, c3, by rw [List.all_cons, ha]; rfl, ?_⟩
                  subst hw
                  cases e3 : cf f (.imm (.ins c' fs) :: ys) w'.st with
                  | stuck => rw [e3] at h; exact h
                  | exc x st' => rw [e3] at h; exact (h.back s.ok t0).back t0.ok t2
                  | ok z s2 => rw [e3] at h; exact Got.next t0.ok t2 (Got.next s.ok t0 h)
                · rw [hcl _ _ hn'] at h
                  exact h.elim
            | undef => exact h.elim
            | imm _ => exact h.elim
            | bor _ => exact h.elim
            | obj _ _ => exact h.elim
        · rw [if_neg hcc] at h
          exact h.elim
      | _ => exact h.elim
    | undef => exact h.elim
    | own _ => exact h.elim
    | bor _ => exact h.elim
    | obj _ _ => exact h.elim
/-! ### new instances -/
def tMakeS (C : Addr) (sp : Sp) (E : L2.St → XK) (t : TA) : TE := fun σ H Q => t σ H fun vs H1 => ∀ x dx, H1 x = none → H1 dx = none → dx ≠ x →
  sp (.ref x :: vs) (L2.upd (L2.upd H1 dx (.own x)) x (.ins C dx [])) (fun v H2 => v = .non ∧ Q (.ref x) H2) (E σ)
theorem run_makeS {pins : List (Addr × Obj)} {σ : L2.St} {H : Hp} {s : Shared} {Q : VK} {us : List Value} {vs : List V} {sp : Sp} {E : XK} (M : Mk X.K C fa) (F : FnOk X.prog X.w X.K X.mg X.base (L2.CX X.prog X.w) k fa fd ps sp) (hr : Room (k + 1) X.A) (hb : Binds X.K fd ps [])
    (hx : PassesAt (L2.CX X.prog X.w) X σ E) (I : Inv X pins σ H s) (r : Vals vs us)
    (h : ∀ x dx, H x = none → H dx = none → dx ≠ x → sp (.ref x :: vs) (L2.upd (L2.upd H dx (.own x)) x (.ins C dx [])) (fun v H2 => v = .non ∧ Q (.ref x) H2) E) :
    wpAny (model X.prog X.w) X.A (call (.ref C) us) (EP X pins σ Q) X.xe s := by
  have hq := h (s.heap.objs.size + 1) s.heap.objs.size (I.hok.fresh (Nat.le_succ _)) (I.hok.fresh (Nat.le_refl _)) (Nat.ne_of_lt (Nat.lt_succ_self _))
  have I2 := Inv.made (C := C) I
  have r2 : Vals (V.ref (s.heap.objs.size + 1) :: vs) (Value.ref (s.heap.objs.size + 1) :: us) := .cons rfl r
  have hl : (Value.ref (s.heap.objs.size + 1) :: us).length = ps.length := by
    have e := r2.length
    rw [F.len _ _ _ _ hq] at e
    exact e.symm
  have b := hb _ (Value.ref (s.heap.objs.size + 1) :: us) I2.kIn (by rw [List.append_nil]; exact hl)
  rw [List.append_nil] at b
  refine wpAny_call (make_map (f := fa) I.kIn M.makes M.init (beq_iff_eq.mp M.fn) (codeAny_mono (F.run _ X.stack _ _ ⟨Value.ref (s.heap.objs.size + 1) :: us, []⟩ (Value.ref (s.heap.objs.size + 1) :: us) _ _ E (hr.make C us [])
    (I2.env0.make C us []) b r2 hq) fun r s' hq' => ?_))
  cases r with
  | error e => exact hx pins _ _ e s' I2 hq'
  | ok fl =>
    cases fl with
    | ret u =>
      obtain ⟨v, H', I3, rv, ev, q3⟩ := I2.after hq'
      subst ev
      exact ⟨rv, ⟨V.ref (s.heap.objs.size + 1), H', I3, rfl, q3⟩⟩
    | next => exact False.elim hq'
    | brk => exact False.elim hq'
    | cont => exact False.elim hq'
theorem pe_makeS {sp : Sp} {E : L2.St → XK} {t : TA} (M : Mk X.K C fa) (F : FnOk X.prog X.w X.K X.mg X.base (L2.CX X.prog X.w) k fa fd ps sp) (hr : Room (k + 1) X.A) (hg : Gl X x) (hm : X.mg x = some (.ref C)) (hb : Binds X.K fd ps []) (hx : ∀ σ, PassesAt (L2.CX X.prog X.w) X σ (E σ))
    (ha : PA X (e :: es) t) (hdb : (x == ("__debug__" : Str)) = false) (he : starEach (e :: es) X.env = (false, eval e X.env) :: starEach es X.env) (hpl : (backTo pos (starEach es X.env)).any (·.1) = false) :
    PE X (.Call (.Name x p) (e :: es) [] pos) (tMakeS C sp E t) := by
  refine ⟨fun pins s σ H Q I h => ?_⟩
  refine PySem.wpAny_Call_Name_kw (ld_glob I hg hm ?_ hdb)
  refine PySem.W.callWith_K (h₀ := X.base) I.ok.mod.kin M.kp (thn (ha.run pos pins s σ H _ I h) fun us s1 ⟨vs, H1, I1, r, q⟩ => ⟨I1.kIn, ?_⟩) he hpl
  exact run_makeS M F hr hb (hx σ) I1 r q
theorem re_new {ias : IE} {ci : Nat} {ns : List Str} (hc : T.cls ci = some (C, ns)) (hcl : ∀ cs st, cs.length ≠ n → cf f cs st = .stuck) (hp : PE X e (tMakeS C (spI T cf ci f n) (WE W) (RA T cf W B ias))) : PE X e (RE T cf W B (.new ci f ias)) := by
  refine PE.imp hp fun σ H Q h => ?_
  obtain ⟨ρ, w, s, h⟩ := h
  refine RA.one s ?_
  simp only [evE] at h
  cases e1 : evE cf ias ρ w.st with
  | stuck => rw [e1] at h; exact h
  | exc x st' => rw [e1] at h; exact h
  | ok x s1 =>
    rw [e1] at h
    cases x with
    | own xs =>
      simp only at h ⊢
      intro vs H' w' fx hw t c1 fr xa dx nx nd ne
      cases e2 : passAll xs with
      | none => rw [e2] at h; exact h.elim
      | some ys =>
        rw [e2] at h
        simp only at h
        obtain ⟨t2, c2, ha⟩ := pass_step t c1 fr e2
        by_cases hn : (Cell.obj ci [] :: ys).length = n
        · refine ⟨by rw [List.length_cons, c2.length]; exact hn, xa, dx, C, ns, vs, H', { w' with G := frozen w'.G H' fx }, ys, rfl, nx, nd, ne, rfl, hc, t2.ok, c2, ha, ?_⟩
          subst hw
          cases e3 : cf f (.obj ci [] :: ys) w'.st with
          | stuck => rw [e3] at h; exact h
          | exc x st' => rw [e3] at h; exact h.back s.ok t2
          | ok z s2 =>
            rw [e3] at h
            cases z with
            | imm d =>
              cases d with
              | ins c' fs =>
                simp only at h ⊢
                by_cases hcc : c' = ci
                · rw [if_pos hcc] at h
                  intro H3 w3 hw3 t3 hd
                  exact ⟨True.intro, h _ _ w3 [] hw3 (Step.trans s.ok t2 t3) (.imm hd) Fr.nil⟩
                · rw [if_neg hcc] at h
                  exact h.elim
              | _ => exact h.elim
            | _ => exact h.elim
        · rw [hcl _ _ hn] at h
          exact h.elim
    | undef => exact h.elim
    | imm _ => exact h.elim
    | bor _ => exact h.elim
    | obj _ _ => exact h.elim
end
end Q

set_option maxRecDepth 100000
set_option maxHeartbeats 1000000
namespace Q
open PySem L2
section
variable {T : Tabs} {B : Base} {S : List Addr} {G H H' : Hp} {σ : L2.St} {ρ : Ev} {w w' : Wd}
/-! ### a slot's own list changes -/
theorem ER.upd {p : Addr} {o : HO} : ∀ {σ : L2.St} {ρ : Ev} {f : List Addr}, ER T B S G H σ ρ f → p ∉ f → ER T B S G (L2.upd H p o) σ ρ f
  | _, _, _, .nil, _ => .nil
  | _, _, _, .undef hs, hp => .undef (ER.upd hs hp)
  | _, _, _, .cons hh h hs, hp => .cons hh (h.upd hh.1 fun z => hp (List.mem_append_left _ z)) (ER.upd hs fun z => hp (List.mem_append_right _ z))
  | _, _, _, .lent h hs, hp => .lent h (ER.upd hs hp)
theorem ER.ground {G' : Hp} (e : Ex G G') : ∀ {σ : L2.St} {ρ : Ev} {f : List Addr}, ER T B S G H σ ρ f → ER T B S G' H σ ρ f
  | _, _, _, .nil => .nil
  | _, _, _, .undef hs => .undef (ER.ground e hs)
  | _, _, _, .cons hh h hs => .cons hh (h.ground e) (ER.ground e hs)
  | _, _, _, .lent h hs => .lent h (ER.ground e hs)
theorem ER.mut {c : Cell} : ∀ {σ : L2.St} {ρ : Ev} {f : List Addr} {i : Nat}, ER T B S G H σ ρ f → ρ[i]? = some c → c ≠ .undef → (∀ cs, c ≠ .bor cs) → f.Nodup → ∃ f1 fo f2 v, f = f1 ++ fo ++ f2 ∧ σ[i]? = some (some v) ∧ CR T S G H v c fo ∧
    (∀ p o c' g', p ∈ fo → Hd B v c' → CR T S G (L2.upd H p o) v c' g' → ER T B S G (L2.upd H p o) σ (ρ.set i c') (f1 ++ g' ++ f2)) ∧ (∀ G' c' g', Ex G G' → Hd B v c' → CR T S G' H v c' g' → ER T B S G' H σ (ρ.set i c') (f1 ++ g' ++ f2))
  | _, _, _, i, .nil, e, _, _, _ => by simp at e
  | _, _, _, 0, .undef hs, e, hu, _, _ => absurd (Option.some.inj e).symm hu
  | _, _, _, i + 1, .undef hs, e, hu, hb, hn => by
    obtain ⟨f1, fo, f2, v, h1, h2, h3, h4, h5⟩ := ER.mut (i := i) hs e hu hb hn
    exact ⟨f1, fo, f2, v, h1, h2, h3, fun p o c' g' m hh k => .undef (h4 p o c' g' m hh k), fun G' c' g' eG hh k => .undef (h5 G' c' g' eG hh k)⟩
  | _, _, _, 0, .cons (v := v) (f := f) (fs := fs) hh h hs, e, hu, hb, hn => by
    cases (Option.some.inj e : _ = c)
    refine ⟨[], f, fs, v, rfl, rfl, h, fun p o c' g' m hh k => ?_, fun G' c' g' eG hh k => .cons hh k (hs.ground eG)⟩
    have hp : p ∉ fs := fun z => (List.nodup_append.mp hn).2.2 p m p z rfl
    exact .cons hh k (hs.upd hp)
  | _, _, _, i + 1, .cons (v := v') (f := f) (fs := fs) hh h hs, e, hu, hb, hn => by
    obtain ⟨n1, n2, n3⟩ := List.nodup_append.mp hn
    obtain ⟨f1, fo, f2, v, h1, h2, h3, h4, h5⟩ := ER.mut (i := i) hs e hu hb n2
    refine ⟨f ++ f1, fo, f2, v, by rw [h1]; simp only [List.append_assoc], h2, h3, fun p o c' g' m hh' k => ?_, fun G' c' g' eG hh' k => ?_⟩
    · have hp : p ∉ f := fun z => n3 p z p (by rw [h1]; exact List.mem_append_left _ (List.mem_append_right _ m)) rfl
      have q := ER.cons (B := B) hh (h.upd (p := p) (o := o) hh.1 hp) (h4 p o c' g' m hh' k)
      simpa only [List.append_assoc, List.set_cons_succ] using q
    · have q := ER.cons (B := B) hh (h.ground eG) (h5 G' c' g' eG hh' k)
      simpa only [List.append_assoc, List.set_cons_succ] using q
  | _, _, _, 0, .lent h hs, e, hu, hb, hn => absurd (Option.some.inj e).symm (hb _)
  | _, _, _, i + 1, .lent h hs, e, hu, hb, hn => by
    obtain ⟨f1, fo, f2, v, h1, h2, h3, h4, h5⟩ := ER.mut (i := i) hs e hu hb hn
    exact ⟨f1, fo, f2, v, h1, h2, h3, fun p o c' g' m hh k => .lent h (h4 p o c' g' m hh k), fun G' c' g' eG hh k => .lent h (h5 G' c' g' eG hh k)⟩
theorem Step.updOwn {H0 : Hp} {w0 : Wd} {p : Addr} {o : HO} (s : Step T H0 w0 H w) (h0 : H0 p = none) (hG : w.G p = none) (hS : p ∉ w.S) : Step T H0 w0 (L2.upd H p o) w where
  ok := ⟨fun a u e => by rw [upd_ne fun z => by rw [z, hG] at e; cases e]; exact s.ok.ex a u e, ⟨s.ok.st.len, fun k a ds h1 h2 => by
    obtain ⟨vs, h3, h4⟩ := s.ok.st.at_ k a ds h1 h2
    exact ⟨vs, by rw [upd_ne fun z => hS (by rw [← z]; exact List.mem_of_getElem? h1)]; exact h3, h4⟩⟩, s.ok.nd, s.ok.gS⟩
  exG := s.exG
  fr := fun a u e m => by rw [upd_ne fun z => by rw [z, h0] at e; cases e]; exact s.fr a u e m
  nw := s.nw
  sx := s.sx
  sn := s.sn
-- what a slot owns
theorem Sim.slot {i : Nat} {c : Cell} (s : Sim T B σ H ρ w) (e : ρ[i]? = some c) (hu : c ≠ .undef) (hb : ∀ cs, c ≠ .bor cs) : ∃ v fo, σ[i]? = some (some v) ∧ CR T w.S w.G H v c fo ∧ Fr B.H w fo ∧
    (∀ p o c' g', p ∈ fo → Hd B v c' → CR T w.S w.G (L2.upd H p o) v c' g' → Fr B.H w g' → (∀ a ∈ g', a ∈ fo ∨ ∀ f, ER T B w.S w.G H σ ρ f → a ∉ f) → Sim T B σ (L2.upd H p o) (ρ.set i c') w) ∧
    (∀ c' g', Hd B v c' → CR T w.S w.G H v c' g' → Fr B.H w g' → (∀ a ∈ g', a ∈ fo) → Sim T B σ H (ρ.set i c') w) := by
  obtain ⟨fp, h1, h2⟩ := s.f
  obtain ⟨f1, fo, f2, v, e1, e2, e3, e4, e5⟩ := h1.mut e hu hb h2.nd
  have hf : Fr B.H w fo := by
    refine ⟨?_, fun a ha => h2.nw a (by rw [e1]; exact List.mem_append_left _ (List.mem_append_right _ ha))⟩
    have := h2.nd
    rw [e1, List.append_assoc] at this
    exact (List.nodup_append.mp (List.nodup_append.mp this).2.1).1
  have nd' := h2.nd
  rw [e1] at nd'
  have key : ∀ g', Fr B.H w g' → (∀ a ∈ g', a ∈ fo ∨ a ∉ fp) → Fr B.H w (f1 ++ g' ++ f2) := fun g' hg hd => by
    refine ⟨?_, fun a ha => ?_⟩
    · rw [List.append_assoc] at nd' ⊢
      obtain ⟨n1, n2, n3⟩ := List.nodup_append.mp nd'
      obtain ⟨m1, m2, m3⟩ := List.nodup_append.mp n2
      refine List.nodup_append.mpr ⟨n1, List.nodup_append.mpr ⟨hg.nd, m2, fun a ha b hb z => ?_⟩, fun a ha b hb z => ?_⟩
      · subst z
        rcases hd a ha with q | q
        · exact m3 a q a hb rfl
        · exact q (by rw [e1]; exact List.mem_append_right _ hb)
      · subst z
        rcases List.mem_append.mp hb with hb | hb
        · rcases hd a hb with q | q
          · exact n3 a ha a (List.mem_append_left _ q) rfl
          · exact q (by rw [e1]; exact List.mem_append_left _ (List.mem_append_left _ ha))
        · exact n3 a ha a (List.mem_append_right _ hb) rfl
    · rcases List.mem_append.mp ha with ha | ha
      · rcases List.mem_append.mp ha with ha | ha
        · exact h2.nw a (by rw [e1]; exact List.mem_append_left _ (List.mem_append_left _ ha))
        · exact hg.nw a ha
      · exact h2.nw a (by rw [e1]; exact List.mem_append_right _ ha)
  refine ⟨v, fo, e2, e3, hf, fun p o c' g' m hh k hg hd => ?_, fun c' g' hh k hg hd => ?_⟩
  · have hp := hf.nw p m
    exact ⟨s.bk, s.st.updOwn hp.1 hp.2.1 hp.2.2, _, e4 p o c' g' m hh k, key g' hg fun a ha => (hd a ha).imp id fun z => z fp h1⟩
  · exact ⟨s.bk, s.st, _, e5 _ c' g' (Same.refl _) hh k, key g' hg fun a ha => .inl (hd a ha)⟩
end

/-! ### statements: their readings -/
def RS (T : Tabs) (cf : CF) (n : Nat) (W : WX) (B : Base) (st : IS) : TS := fun D σ H => ∃ ρ w, Sim T B σ H ρ w ∧ match evS cf n st ρ w.st with
  | .next ρ' st' => ∀ σ' H' w', w'.st = st' → Sim T B σ' H' ρ' w' → D.nx σ' H'
  | .brk ρ' st' => ∀ σ' H' w', w'.st = st' → Sim T B σ' H' ρ' w' → D.bk σ' H'
  | .cont ρ' st' => ∀ σ' H' w', w'.st = st' → Sim T B σ' H' ρ' w' → D.ct σ' H'
  | .ret c st' => ∀ v H' w' fp, w'.st = st' → Step T B.H B.w H' w' → CR T w'.S w'.G H' v c fp → Fr B.H w' fp → D.rt v H'
  | .exc x ρ' st' => ∀ σ' H' w' cls d, w'.st = st' → Sim T B σ' H' ρ' w' → XR T H' w' x cls d → W cls d σ' H'
  | .stuck => False
section
variable {X : Cx} {T : Tabs} {cf : CF} {fu : Nat} {W : WX} {B : Base} {e a b c o : Expr} {es : List Expr} {st : Stmt} {sts body : List Stmt} {pos p apos : Pos} {x y m : Str}
theorem PS.impL {t t' : TS} (h : PS X st t) (i : ∀ D σ H, σ.length = X.N.length → t' D σ H → t D σ H) : PS X st t' := ⟨fun pins s σ H D I q => h.run pins s σ H D I (i D σ H I.len q)⟩
-- an expression that raises, within a statement
theorem exc_back {σ : L2.St} {H : Hp} {ρ : Ev} {w : Wd} {x : Exc} {st' : Store} (s : Sim T B σ H ρ w) (h : ∀ σ' H' w' cls d, w'.st = st' → Sim T B σ' H' ρ w' → XR T H' w' x cls d → W cls d σ' H') : Exd T H w x st' fun cls d H' => W cls d σ H' :=
  fun cls d H' w' hw t r => h σ H' w' cls d hw (s.step t) r
theorem rs_skip : PSs X [] (RS T cf fu W B .skip) := by
  refine PSs.imp pss_nil fun D σ H h => ?_
  obtain ⟨ρ, w, s, h⟩ := h
  exact h σ H w rfl s
theorem rs_pass : PS X (.Pass pos) (RS T cf fu W B .skip) := by
  refine PS.imp ps_pass fun D σ H h => ?_
  obtain ⟨ρ, w, s, h⟩ := h
  exact h σ H w rfl s
theorem rs_doc {j : Nat} {pos' : Pos} : PS X (.Expr (.Constant (.str x) j pos) pos') (RS T cf fu W B .skip) := by
  refine PS.imp ps_doc fun D σ H h => ?_
  obtain ⟨ρ, w, s, h⟩ := h
  exact h σ H w rfl s
theorem RS.seq {i1 i2 : IS} {D : Ends} {σ : L2.St} {H : Hp} (h : RS T cf fu W B (.seq i1 i2) D σ H) : RS T cf fu W B i1 { D with nx := RS T cf fu W B i2 D } σ H := by
  obtain ⟨ρ, w, s, h⟩ := h
  refine ⟨ρ, w, s, ?_⟩
  simp only [evS] at h
  cases e1 : evS cf fu i1 ρ w.st with
  | next ρ' st' =>
    rw [e1] at h
    simp only at h ⊢
    intro σ' H' w' hw s'
    refine ⟨ρ', w', s', ?_⟩
    rw [hw]
    exact h
  | brk ρ' st' => rw [e1] at h; exact h
  | cont ρ' st' => rw [e1] at h; exact h
  | ret c st' => rw [e1] at h; exact h
  | exc x ρ' st' => rw [e1] at h; exact h
  | stuck => rw [e1] at h; exact h
theorem rs_seq {i1 i2 : IS} (h1 : PS X st (RS T cf fu W B i1)) (h2 : PSs X sts (RS T cf fu W B i2)) : PSs X (st :: sts) (RS T cf fu W B (.seq i1 i2)) :=
  PSs.imp (pss_cons h1 h2) fun D σ H h => RS.seq h
-- something without a statement of its own ahead
theorem rs_ghost {i1 i2 : IS} (hg : ∀ σ H D, RS T cf fu W B i1 D σ H → D.nx σ H) (h2 : PSs X sts (RS T cf fu W B i2)) : PSs X sts (RS T cf fu W B (.seq i1 i2)) :=
  PSs.imp h2 fun D σ H h => hg σ H _ (RS.seq h)
theorem keep_fp {S : List Addr} {G H : Hp} {v : V} {c : Cell} {f : List Addr} {d : D} (h : CR T S G H v c f) (k : keepC c = some d) : held c = true ∧ ∀ b, c ≠ .bor b := by
  cases c with
  | undef => simp only [keepC] at k; cases k
  | imm _ => exact ⟨rfl, fun _ z => nomatch z⟩
  | own _ => exact ⟨rfl, fun _ z => nomatch z⟩
  | bor _ => simp only [keepC] at k; cases k
  | obj _ _ => simp only [keepC] at k; cases k
theorem frz_ok {i : Nat} {D : Ends} {σ : L2.St} {H : Hp} (h : RS T cf fu W B (.frz i) D σ H) : D.nx σ H := by
  obtain ⟨ρ, w, s, h⟩ := h
  simp only [evS] at h
  cases e : ρ[i]? with
  | none => rw [e] at h; exact h.elim
  | some c =>
    rw [e] at h
    simp only at h
    by_cases hu0 : isUndef c = true
    · rw [if_pos hu0] at h
      exact h σ H w rfl s
    rw [if_neg hu0] at h
    cases e2 : keepC c with
    | none => rw [e2] at h; exact h.elim
    | some d =>
      rw [e2] at h
      have hu : c ≠ .undef := fun z => by subst z; simp only [keepC] at e2; cases e2
      have hb : ∀ cs, c ≠ .bor cs := fun cs z => by subst z; simp only [keepC] at e2; cases e2
      obtain ⟨fp, h1, h2⟩ := s.f
      obtain ⟨f1, fo, f2, v, q1, q2, q3, q4, q5⟩ := h1.mut e hu hb h2.nd
      -- the ground takes the slot's addresses
      have hfo : ∀ a ∈ fo, a ∈ fp := fun a ha => by rw [q1]; exact List.mem_append_left _ (List.mem_append_right _ ha)
      have t : Step T B.H B.w H { w with G := frozen w.G H fo } := s.st.freeze fun a ha => h2.nw a (hfo a ha)
      have eF : Ex w.G (frozen w.G H fo) := frozen_ex fun a ha => (h2.nw a (hfo a ha)).2.1
      have hd := q3.freeze eF (fun a ha => ha) e2
      have nd' := h2.nd
      rw [q1] at nd'
      refine h σ H { w with G := frozen w.G H fo } rfl ⟨s.bk, t, _, q5 _ (.imm d) [] eF (hd_own rfl) (.imm hd), ?_, fun a ha => ?_⟩
      · rw [List.append_nil]
        rw [List.append_assoc] at nd'
        obtain ⟨n1, n2, n3⟩ := List.nodup_append.mp nd'
        obtain ⟨m1, m2, m3⟩ := List.nodup_append.mp n2
        exact List.nodup_append.mpr ⟨n1, m2, fun a ha b hb => n3 a ha b (List.mem_append_right _ hb)⟩
      · rw [List.append_nil] at ha
        have hfp : a ∈ fp := by
          rw [q1]
          rcases List.mem_append.mp ha with ha | ha
          · exact List.mem_append_left _ (List.mem_append_left _ ha)
          · exact List.mem_append_right _ ha
        have hno : a ∉ fo := by
          rw [List.append_assoc] at nd'
          obtain ⟨n1, n2, n3⟩ := List.nodup_append.mp nd'
          obtain ⟨m1, m2, m3⟩ := List.nodup_append.mp n2
          intro z
          rcases List.mem_append.mp ha with ha | ha
          · exact n3 a ha a (List.mem_append_left _ z) rfl
          · exact m3 a z a ha rfl
        refine ⟨(h2.nw a hfp).1, ?_, (h2.nw a hfp).2.2⟩
        show frozen w.G H fo a = none
        rw [frozen_out hno]
        exact (h2.nw a hfp).2.1
end
end Q

set_option maxRecDepth 100000
set_option maxHeartbeats 1000000
namespace Q
open PySem L2
section
variable {T : Tabs} {B : Base} {S : List Addr} {G H H' : Hp} {σ : L2.St} {ρ : Ev} {w w' : Wd}
theorem Sim.set_two {v u : V} {c d : Cell} {g1 g2 : List Addr} {i j : Nat} {H0 : Hp} {w0 : Wd} (s : Sim T B σ H0 ρ w0) (t : Step T H0 w0 H w) (hc : Hd B v c) (hd : Hd B u d) (k1 : CR T w.S w.G H v c g1) (k2 : CR T w.S w.G H u d g2) (fr : Fr H0 w (g1 ++ g2)) (hi : i < σ.length) (hj : j < σ.length) :
    Sim T B ((σ.set i (some v)).set j (some u)) H ((ρ.set i c).set j d) w := by
  obtain ⟨fp, h1, h2⟩ := s.f
  have h1' := h1.step t fun a ha => (h2.nw a ha).2.2
  have s' := s.step t
  have h2' := h2.step t fun a ha => h1.dom a ha
  have out : ∀ a ∈ g1 ++ g2, a ∉ fp := fun a ha hf => by
    obtain ⟨o, ho⟩ := h1.dom a hf
    rw [(fr.nw a ha).1] at ho
    cases ho
  have fr' := fr.back (H := B.H) fun a z => s.st.dom s.bk.ok z
  have fg1 : Fr B.H w g1 := ⟨(List.nodup_append.mp fr'.nd).1, fun a ha => fr'.nw a (List.mem_append_left _ ha)⟩
  have fg2 : Fr B.H w g2 := ⟨(List.nodup_append.mp fr'.nd).2.1, fun a ha => fr'.nw a (List.mem_append_right _ ha)⟩
  obtain ⟨f1, fo, f2, e, k⟩ := ER.set hc k1 h1' hi
  rw [e] at h2'
  have q1 := Fr.sub3 h2' fg1 fun a ha hf => out a (List.mem_append_left _ ha) (by rw [e]; exact hf)
  obtain ⟨f3, fo', f4, e', k'⟩ := ER.set hd k2 k (by rw [List.length_set]; exact hj)
  rw [e'] at q1
  refine ⟨s'.bk, s'.st, _, k', Fr.sub3 q1 fg2 fun a ha hf => ?_⟩
  rw [← e'] at hf
  rcases List.mem_append.mp hf with hf | hf
  · rcases List.mem_append.mp hf with hf | hf
    · exact out a (List.mem_append_right _ ha) (by rw [e]; exact List.mem_append_left _ (List.mem_append_left _ hf))
    · exact (List.nodup_append.mp fr'.nd).2.2 a hf a ha rfl
  · exact out a (List.mem_append_right _ ha) (by rw [e]; exact List.mem_append_right _ hf)
-- many plain data, into as many slots
theorem Sim.set_all : ∀ {js : List Nat} {vs : List V} {ds : List D} {σ : L2.St} {ρ ρ' : Ev}, Sim T B σ H ρ w → DVs T w.S w.G vs ds → setAll js ds ρ = some ρ' → (∀ j ∈ js, j < σ.length) → ∃ σ', js.length = vs.length ∧ σ' = (js.zip vs).foldl (fun σ p => σ.set p.1 (some p.2)) σ ∧ Sim T B σ' H ρ' w
  | [], _, _, σ, ρ, ρ', s, .nil, e, _ => by
    simp only [setAll] at e
    cases e
    exact ⟨σ, rfl, rfl, s⟩
  | [], _, _, σ, ρ, ρ', s, .cons _ _, e, _ => by simp only [setAll] at e; cases e
  | j :: js, _, _, σ, ρ, ρ', s, .nil, e, _ => by simp only [setAll] at e; cases e
  | j :: js, _, _, σ, ρ, ρ', s, .cons h hs, e, hj => by
    simp only [setAll] at e
    obtain ⟨σ', h1, h2, h3⟩ := Sim.set_all (s.set_imm h (hj j List.mem_cons_self)) hs e fun i hi => by
      rw [List.length_set]
      exact hj i (List.mem_cons_of_mem _ hi)
    exact ⟨σ', by rw [List.length_cons, List.length_cons, h1], h2, h3⟩
end
section
variable {X : Cx} {T : Tabs} {cf : CF} {fu : Nat} {W : WX} {B : Base} {e a b c o : Expr} {es : List Expr} {st : Stmt} {sts body : List Stmt} {pos p apos : Pos} {x y m : Str}
/-! ### small statements -/
theorem rs_drop {ie : IE} (hp : ∀ {te : TE}, PE X e te → PS X st (tDrop te)) (he : PE X e (RE T cf W B ie)) : PS X st (RS T cf fu W B (.drop ie)) := by
  refine PS.imp (hp he) fun D σ H h => ?_
  obtain ⟨ρ, w, s, h⟩ := h
  refine RE.one s ?_
  simp only [evS] at h
  cases e1 : evE cf ie ρ w.st with
  | stuck => rw [e1] at h; exact h
  | exc x st' => rw [e1] at h; exact exc_back s h
  | ok x s1 =>
    rw [e1] at h
    simp only at h ⊢
    intro v H' w' fx hw t c1 fr
    exact h σ H' w' hw (s.step t)
-- name = e, from the reading of e
theorem rs_asg {i : Nat} {ie : IE} {te : TE} (hi : X.N[i]? = some x) (hp : PS X st (tAsg te (gName i))) (ht : ∀ σ H Q, σ.length = X.N.length → RE T cf W B ie σ H Q → te σ H Q) : PS X st (RS T cf fu W B (.asg i ie)) := by
  refine PS.impL hp fun D σ H hl h => ht _ _ _ hl ?_
  obtain ⟨ρ, w, s, h⟩ := h
  refine RE.one s ?_
  simp only [evS] at h
  cases e1 : evE cf ie ρ w.st with
  | stuck => rw [e1] at h; exact h
  | exc x st' => rw [e1] at h; exact exc_back s h
  | ok z s1 =>
    rw [e1] at h
    simp only at h ⊢
    intro v H' w' fx hw t c1 fr
    by_cases ho : ownable z = true
    · rw [if_pos ho] at h
      exact h _ H' w' hw (s.set_new t (hd_own ho) c1 fr (by rw [hl]; exact (List.getElem?_eq_some_iff.mp hi).1))
    · rw [if_neg ho] at h
      exact h.elim
theorem rs_par {i j : Nat} {ia ib : IE} (hi : X.N[i]? = some x) (hj : X.N[j]? = some y) (hij : i ≠ j) (hp : PS X st (tPar i j (tCons (RE T cf W B ia) (tCons (RE T cf W B ib) tNil)))) : PS X st (RS T cf fu W B (.par i j ia ib)) := by
  refine PS.impL hp fun D σ H hl h => ?_
  obtain ⟨ρ, w, s, h⟩ := h
  refine RE.two (f := fun v u H2 => ∃ v' u', [v, u] = [v', u'] ∧ D.nx ((σ.set i (some v')).set j (some u')) H2) s ?_
  simp only [evS] at h
  cases e1 : evE cf ia ρ w.st with
  | stuck => rw [e1] at h; exact h
  | exc x st' => rw [e1] at h; exact exc_back s h
  | ok z s1 =>
    rw [e1] at h
    simp only at h ⊢
    cases e2 : evE cf ib ρ s1 with
    | stuck => rw [e2] at h; exact h
    | exc x st' => rw [e2] at h; exact exc_back s h
    | ok z2 s2 =>
      rw [e2] at h
      simp only at h ⊢
      intro v u H' w' fx fy hw t c1 c2 fr
      refine ⟨v, u, rfl, ?_⟩
      by_cases ho : (ownable z && ownable z2) = true
      · rw [if_pos ho] at h
        rw [Bool.and_eq_true] at ho
        exact h _ H' w' hw (s.set_two t (hd_own ho.1) (hd_own ho.2) c1 c2 fr (by rw [hl]; exact (List.getElem?_eq_some_iff.mp hi).1) (by rw [hl]; exact (List.getElem?_eq_some_iff.mp hj).1))
      · rw [if_neg ho] at h
        exact h.elim
-- a, b = a tuple
def gNames : List Nat → TGs
  | [] => gNil
  | j :: js => gCons (gName j) (gNames js)
theorem gNames_ok : ∀ {js : List Nat} {vs : List V} {σ : L2.St} {H : Hp} {Q : L2.St → Hp → Prop}, js.length = vs.length → Q ((js.zip vs).foldl (fun σ p => σ.set p.1 (some p.2)) σ) H → gNames js vs σ H Q
  | [], [], _, _, _, _, h => ⟨rfl, h⟩
  | [], _ :: _, _, _, _, e, _ => by cases e
  | _ :: _, [], _, _, _, e, _ => by cases e
  | j :: js, v :: vs, σ, H, Q, e, h => ⟨v, vs, rfl, gNames_ok (js := js) (vs := vs) (Nat.succ.inj e) h⟩
theorem rs_unp {js : List Nat} {ie : IE} (hj : ∀ j ∈ js, j < X.N.length) (hp : ∀ {te : TE}, PE X e te → PS X st (tAsg te (gTup X.K js.length (gNames js)))) (he : PE X e (RE T cf W B ie)) : PS X st (RS T cf fu W B (.unp js ie)) := by
  refine PS.impL (hp he) fun D σ H hl h => ?_
  obtain ⟨ρ, w, s, h⟩ := h
  refine RE.one s ?_
  simp only [evS] at h
  cases e1 : evE cf ie ρ w.st with
  | stuck => rw [e1] at h; exact h
  | exc x st' => rw [e1] at h; exact exc_back s h
  | ok z s1 =>
    rw [e1] at h
    cases z with
    | imm d =>
      cases d with
      | tup ds =>
        simp only at h ⊢
        intro v H' w' fx hw t c1 fr
        cases e2 : setAll js ds ρ with
        | none => rw [e2] at h; exact h.elim
        | some ρ' =>
          rw [e2] at h
          obtain ⟨a, vs, rfl, h2, h3⟩ := c1.tup rfl
          obtain ⟨σ', q1, q2, q3⟩ := (s.step t).set_all h3 e2 fun j hjm => by rw [hl]; exact hj j hjm
          refine ⟨a, vs, rfl, SqT.of (t.ok.ex _ _ h2), q1.symm, gNames_ok q1 ?_⟩
          rw [← q2]
          exact h σ' H' w' hw q3
      | _ => exact h.elim
    | _ => exact h.elim
/-! ### name op= e -/
theorem ip_op {op : Operator} {r : R2} (h : OpR X (inplaceOp op) r) : PIp X op r := h
theorem rs_aug {i : Nat} {o : Op} {ie : IE} {r : R2} (hi : X.N[i]? = some x) (hp : ∀ {te : TE}, PE X e te → PS X st (tAug i te r)) (hr : ∀ a b z H Q, augD o a b = some z → Q (.int z) H → r (.int a) (.int b) H Q) (he : PE X e (RE T cf W B ie)) : PS X st (RS T cf fu W B (.aug i o ie)) := by
  refine PS.impL (hp he) fun D σ H hl h => ?_
  obtain ⟨ρ, w, s, h⟩ := h
  simp only [evS] at h
  cases e0 : ρ[i]? with
  | none => rw [e0] at h; exact h.elim
  | some ci =>
    rw [e0] at h
    cases ci with
    | imm di =>
      cases di with
      | int a =>
        simp only at h
        obtain ⟨v0, fo, q1, q2, _⟩ := s.slot e0 (fun z => nomatch z) (fun _ z => nomatch z)
        cases q2 with
        | imm hdi =>
        cases hdi
        refine ⟨.int a, q1, ?_⟩
        refine RE.one s ?_
        cases e1 : evE cf ie ρ w.st with
        | stuck => rw [e1] at h; exact h
        | exc x st' => rw [e1] at h; exact exc_back s h
        | ok z s1 =>
          rw [e1] at h
          cases z with
          | imm d =>
            cases d with
            | int b =>
              simp only at h ⊢
              intro v H' w' fx hw t c1 fr
              cases e2 : augD o a b with
              | none => rw [e2] at h; exact h.elim
              | some d =>
                rw [e2] at h
                cases c1 with
                | imm hdb =>
                cases hdb
                exact hr a b d H' _ e2 (h _ H' w' hw ((s.step t).set_imm (.int _) (by rw [hl]; exact (List.getElem?_eq_some_iff.mp hi).1)))
            | _ => exact h.elim
          | _ => exact h.elim
      | _ => exact h.elim
    | _ => exact h.elim
/-! ### lists that change -/
theorem own_fp {S : List Addr} {G H : Hp} {v : V} {cs : List Cell} {f : List Addr} (h : CR T S G H v (.own cs) f) : ∃ p vs fs, v = .ref p ∧ H p = some (.lst vs) ∧ CRs T S G H vs cs fs ∧ f = p :: fs ∧ cs.all ownable = true := by
  cases h with
  | own h1 h2 h3 => exact ⟨_, _, _, rfl, h1, h2, rfl, h3⟩
theorem CRs.setAt {S : List Addr} {G H : Hp} {v : V} {c : Cell} {g : List Addr} (hc : CR T S G H v c g) : ∀ {vs : List V} {cs : List Cell} {f : List Addr} {j : Nat}, CRs T S G H vs cs f → j < cs.length → ∃ f1 fo f2, f = f1 ++ fo ++ f2 ∧ CRs T S G H (vs.set j v) (cs.set j c) (f1 ++ g ++ f2)
  | _, _, _, j, .nil, h => absurd h (Nat.not_lt_zero _)
  | _, _, _, 0, .cons (f := f) (fs := fs) h hs, _ => ⟨[], f, fs, rfl, .cons hc hs⟩
  | _, _, _, j + 1, .cons (f := f) h hs, hj => by
    obtain ⟨f1, fo, f2, e, k⟩ := CRs.setAt hc (j := j) hs (Nat.lt_of_succ_lt_succ hj)
    refine ⟨f ++ f1, fo, f2, by rw [e]; simp only [List.append_assoc], ?_⟩
    have q := CRs.cons h k
    simpa only [List.append_assoc, List.set_cons_succ] using q
end
end Q

set_option maxRecDepth 100000
set_option maxHeartbeats 1000000
namespace Q
open PySem L2
section
variable {T : Tabs} {B : Base} {S : List Addr} {G H H' : Hp} {σ : L2.St} {ρ : Ev} {w w' : Wd}
-- a slot's own thing, behind a step
theorem Sim.slot2 {i : Nat} {c : Cell} {H0 : Hp} {w0 : Wd} (s : Sim T B σ H0 ρ w0) (t : Step T H0 w0 H w) (e : ρ[i]? = some c) (hu : c ≠ .undef) (hb : ∀ cs, c ≠ .bor cs) : ∃ v fo, σ[i]? = some (some v) ∧ CR T w.S w.G H v c fo ∧ Fr B.H w fo ∧ (∀ a ∈ fo, H0 a ≠ none) ∧
    (∀ p o c' g', p ∈ fo → Hd B v c' → CR T w.S w.G (L2.upd H p o) v c' g' → Fr B.H w g' → (∀ a ∈ g', a ∈ fo ∨ H0 a = none) → Sim T B σ (L2.upd H p o) (ρ.set i c') w) := by
  obtain ⟨fp, h0, h2⟩ := s.f
  have h1 := h0.step t fun a ha => (h2.nw a ha).2.2
  have hdom : ∀ a ∈ fp, H0 a ≠ none := fun a ha z => by
    obtain ⟨o, q⟩ := h0.dom a ha
    rw [q] at z; cases z
  have h2 := h2.step t fun a ha => h0.dom a ha
  have st := (s.step t).st
  obtain ⟨f1, fo, f2, v, e1, e2, e3, e4, e5⟩ := h1.mut e hu hb h2.nd
  have hfo : ∀ a ∈ fo, a ∈ fp := fun a ha => by rw [e1]; exact List.mem_append_left _ (List.mem_append_right _ ha)
  have nd' := h2.nd
  rw [e1] at nd'
  have hf : Fr B.H w fo := by
    refine ⟨?_, fun a ha => h2.nw a (hfo a ha)⟩
    rw [List.append_assoc] at nd'
    exact (List.nodup_append.mp (List.nodup_append.mp nd').2.1).1
  refine ⟨v, fo, e2, e3, hf, fun a ha => hdom a (hfo a ha), fun p o c' g' m hh k hg hd => ?_⟩
  have hp := hf.nw p m
  have hd' : ∀ a ∈ g', a ∈ fo ∨ a ∉ fp := fun a ha => (hd a ha).imp id fun z q => hdom a q z
  refine ⟨s.bk, st.updOwn hp.1 hp.2.1 hp.2.2, _, e4 p o c' g' m hh k, ?_, fun a ha => ?_⟩
  · rw [List.append_assoc] at nd' ⊢
    obtain ⟨n1, n2, n3⟩ := List.nodup_append.mp nd'
    obtain ⟨m1, m2, m3⟩ := List.nodup_append.mp n2
    refine List.nodup_append.mpr ⟨n1, List.nodup_append.mpr ⟨hg.nd, m2, fun a ha b hb z => ?_⟩, fun a ha b hb z => ?_⟩
    · subst z
      rcases hd' a ha with q | q
      · exact m3 a q a hb rfl
      · exact q (by rw [e1]; exact List.mem_append_right _ hb)
    · subst z
      rcases List.mem_append.mp hb with hb | hb
      · rcases hd' a hb with q | q
        · exact n3 a ha a (List.mem_append_left _ q) rfl
        · exact q (by rw [e1]; exact List.mem_append_left _ (List.mem_append_left _ ha))
      · exact n3 a ha a (List.mem_append_right _ hb) rfl
  · rcases List.mem_append.mp ha with ha | ha
    · rcases List.mem_append.mp ha with ha | ha
      · exact h2.nw a (by rw [e1]; exact List.mem_append_left _ (List.mem_append_left _ ha))
      · exact hg.nw a ha
    · exact h2.nw a (by rw [e1]; exact List.mem_append_right _ ha)
end
section
variable {X : Cx} {T : Tabs} {cf : CF} {fu : Nat} {W : WX} {B : Base} {e a b c o : Expr} {es : List Expr} {st : Stmt} {sts body : List Stmt} {pos p apos : Pos} {x y m : Str}
/-! ### ways on and out -/
theorem rs_ite {ic : IE} {i1 i2 : IS} {l1 l2 : List Stmt} (hc : PT X c (RT T cf W B ic)) (h1 : PSs X l1 (RS T cf fu W B i1)) (h2 : PSs X l2 (RS T cf fu W B i2)) : PS X (.If c l1 l2 pos) (RS T cf fu W B (.ite ic i1 i2)) := by
  refine PS.imp (ps_if hc h1 h2) fun D σ H h => ?_
  obtain ⟨ρ, w, s, h⟩ := h
  refine ⟨ρ, w, s, ?_⟩
  simp only [evS] at h
  cases e1 : evE cf ic ρ w.st with
  | stuck => rw [e1] at h; exact h
  | exc x st' => rw [e1] at h; exact exc_back s h
  | ok z s1 =>
    rw [e1] at h
    simp only at h ⊢
    cases e2 : truC z with
    | none => rw [e2] at h; exact h.elim
    | some k =>
      rw [e2] at h
      simp only
      intro H' w' hw t
      cases k with
      | true =>
        rw [if_pos rfl]
        refine ⟨ρ, w', s.step t, ?_⟩
        rw [hw]
        exact h
      | false =>
        rw [if_neg Bool.false_ne_true]
        refine ⟨ρ, w', s.step t, ?_⟩
        rw [hw]
        exact h
theorem rs_ret {ie : IE} (he : PE X e (RE T cf W B ie)) : PS X (.Return (some e) pos) (RS T cf fu W B (.ret ie)) := by
  refine PS.imp (ps_ret he) fun D σ H h => ?_
  obtain ⟨ρ, w, s, h⟩ := h
  refine RE.one s ?_
  simp only [evS] at h
  cases e1 : evE cf ie ρ w.st with
  | stuck => rw [e1] at h; exact h
  | exc x st' => rw [e1] at h; exact exc_back s h
  | ok z s1 =>
    rw [e1] at h
    simp only at h ⊢
    intro v H' w' fx hw t c1 fr
    by_cases ho : ownable z = true
    · rw [if_pos ho] at h
      exact h v H' w' fx hw (Step.trans s.bk.ok s.st t) c1 (fr.back fun a z => s.st.dom s.bk.ok z)
    · rw [if_neg ho] at h
      exact h.elim
theorem rs_retv {i : Nat} (he : PE X e (tVar i)) : PS X (.Return (some e) pos) (RS T cf fu W B (.retv i)) := by
  refine PS.imp (ps_ret he) fun D σ H h => ?_
  obtain ⟨ρ, w, s, h⟩ := h
  simp only [evS] at h
  cases e0 : ρ[i]? with
  | none => rw [e0] at h; exact h.elim
  | some c =>
    rw [e0] at h
    simp only at h
    by_cases ho : ownable c = true
    · rw [if_pos ho] at h
      obtain ⟨v, fo, q1, q2, q3, _⟩ := s.slot e0 (fun z => by subst z; cases ho) (fun _ z => by subst z; cases ho)
      exact ⟨v, q1, h v H w fo rfl s.st q2 q3⟩
    · rw [if_neg ho] at h
      exact h.elim
theorem rs_retn : PS X (.Return none pos) (RS T cf fu W B .retn) := by
  refine PS.imp ps_retN fun D σ H h => ?_
  obtain ⟨ρ, w, s, h⟩ := h
  exact h .non H w [] rfl s.st (.imm .non) Fr.nil
theorem rs_retnone (he : PE X e (tC .non)) : PS X (.Return (some e) pos) (RS T cf fu W B .retn) := by
  refine PS.imp (ps_ret he) fun D σ H h => ?_
  obtain ⟨ρ, w, s, h⟩ := h
  exact h .non H w [] rfl s.st (.imm .non) Fr.nil
theorem rs_brk : PS X (.Break pos) (RS T cf fu W B .brk) := by
  refine PS.imp ps_break fun D σ H h => ?_
  obtain ⟨ρ, w, s, h⟩ := h
  exact h σ H w rfl s
theorem rs_cont : PS X (.Continue pos) (RS T cf fu W B .cont) := by
  refine PS.imp ps_continue fun D σ H h => ?_
  obtain ⟨ρ, w, s, h⟩ := h
  exact h σ H w rfl s
theorem rs_never : PS X st (RS T cf fu W B .never) := ⟨fun pins s σ H D I h => by
  obtain ⟨ρ, w, s, h⟩ := h
  exact h.elim⟩
theorem rss_never : PSs X sts (RS T cf fu W B .never) := ⟨fun pins s σ H D I h => by
  obtain ⟨ρ, w, s, h⟩ := h
  exact h.elim⟩
theorem re_never : PE X e (RE T cf W B .never) := ⟨fun pins s σ H Q I h => by
  obtain ⟨ρ, w, s, h⟩ := h
  exact h.elim⟩
theorem ra_never : PA X es (RA T cf W B .never) := ⟨fun p pins s σ H Q I h => by
  obtain ⟨ρ, w, s, h⟩ := h
  exact h.elim⟩
theorem rt_never : PT X e (RT T cf W B .never) := ⟨fun pins s σ H Q I h => by
  obtain ⟨ρ, w, s, h⟩ := h
  exact h.elim⟩
theorem rs_raiseM {C : Addr} {k : Nat} {m : Expr} (hT : T.exc k = some (C, [])) (hp : PS X st (fun _ σ H => W (.ref C) none σ H)) : PS X st (RS T cf fu W B (.raiseM k)) := by
  refine PS.imp hp fun D σ H h => ?_
  obtain ⟨ρ, w, s, h⟩ := h
  exact h σ H w _ none rfl s ⟨C, [], hT, rfl, .inl ⟨rfl, rfl, rfl⟩⟩
/-! ### lists that change -/
theorem rs_app {i : Nat} {ie : IE} (hp : ∀ {te : TE}, PE X e te → PS X st (tDrop (tBM X.K "list" rAppend (tVar i) (tCons te tNil)))) (he : PE X e (RE T cf W B ie)) : PS X st (RS T cf fu W B (.app i ie)) := by
  refine PS.imp (hp he) fun D σ H h => ?_
  obtain ⟨ρ, w, s, h⟩ := h
  simp only [evS] at h
  cases e0 : ρ[i]? with
  | none => rw [e0] at h; exact h.elim
  | some ci =>
    rw [e0] at h
    cases ci with
    | own cs =>
      simp only at h
      obtain ⟨v0, fo0, q1, q2, _, _⟩ := s.slot e0 (fun z => nomatch z) (fun _ z => nomatch z)
      obtain ⟨p0, vs0, fs0, rfl, h0, _, _, _⟩ := own_fp q2
      refine ⟨_, q1, .inl ⟨rfl, vs0, SqL.of h0⟩, ?_⟩
      refine RE.one s ?_
      cases e1 : evE cf ie ρ w.st with
      | stuck => rw [e1] at h; exact h
      | exc x st' => rw [e1] at h; exact exc_back s h
      | ok z s1 =>
        rw [e1] at h
        simp only at h ⊢
        intro v H' w' fx hw t c1 fr
        by_cases ho : (ownable z && small cs.length) = true
        · rw [if_pos ho] at h
          rw [Bool.and_eq_true] at ho
          obtain ⟨v', fo, k1, k2, k3, k4, k5⟩ := s.slot2 t e0 (fun z => nomatch z) (fun _ z => nomatch z)
          rw [q1] at k1
          cases k1
          obtain ⟨p, vs, fs, hpv, h1, h2, rfl, h4⟩ := own_fp k2
          cases hpv
          have nfx : ∀ a ∈ p0 :: fs, a ∉ fx := fun a ha hb => k4 a ha (fr.nw a hb).1
          have hnd := List.nodup_cons.mp k3.nd
          have hl : vs.length < sizeLine := by
            rw [h2.length]
            have := of_decide_eq_true ho.2
            rw [sizeLine_eq]; omega
          refine ⟨p0, vs, v, rfl, rfl, h1, hl, ?_⟩
          have fr' := fr.back (H := B.H) fun a z => s.st.dom s.bk.ok z
          refine h σ _ w' hw (k5 p0 _ (.own (cs ++ [z])) (p0 :: (fs ++ fx)) List.mem_cons_self (hd_own rfl) ?_ ?_ ?_)
          · refine .own upd_same ((h2.upd h4 hnd.1).append ?_) (by rw [List.all_append, h4, List.all_cons, ho.1]; rfl)
            have q := CRs.cons (c1.upd (p := p0) (o := .lst (vs ++ [v])) (ownable_held ho.1) (nfx p0 List.mem_cons_self)) CRs.nil
            rw [List.append_nil] at q
            exact q
          · refine ⟨?_, fun a ha => ?_⟩
            · rw [← List.cons_append]
              exact List.nodup_append.mpr ⟨k3.nd, fr'.nd, fun a ha b hb z => nfx a ha (by rw [z]; exact hb)⟩
            · rw [← List.cons_append] at ha
              rcases List.mem_append.mp ha with ha | ha
              · exact k3.nw a ha
              · exact fr'.nw a ha
          · intro a ha
            rw [← List.cons_append] at ha
            rcases List.mem_append.mp ha with ha | ha
            · exact .inl ha
            · exact .inr (fr.nw a ha).1
        · rw [if_neg ho] at h
          exact h.elim
    | undef => exact h.elim
    | imm _ => exact h.elim
    | bor _ => exact h.elim
    | obj _ _ => exact h.elim
-- a list with one item set, within the heap with that list set
theorem own_set {S : List Addr} {G H : Hp} {p : Addr} {vs : List V} {cs : List Cell} {fs fx : List Addr} {v : V} {c : Cell} {j : Nat} (h1 : H p = some (.lst vs)) (h2 : CRs T S G H vs cs fs) (h4 : cs.all ownable = true) (hnd : (p :: fs).Nodup) (c1 : CR T S G H v c fx) (hc : ownable c = true) (hp : p ∉ fx) (hd : ∀ a ∈ fs, a ∉ fx) (hfx : fx.Nodup) (hj : j < cs.length) :
    ∃ g, CR T S G (upd H p (.lst (vs.set j v))) (.ref p) (.own (cs.set j c)) (p :: g) ∧ (p :: g).Nodup ∧ ∀ a ∈ g, a ∈ fs ∨ a ∈ fx := by
  have hn := List.nodup_cons.mp hnd
  obtain ⟨f1, fo, f2, e, k⟩ := CRs.setAt (c1.upd (p := p) (o := .lst (vs.set j v)) (ownable_held hc) hp) (h2.upd (p := p) (o := .lst (vs.set j v)) h4 hn.1) hj
  subst e
  refine ⟨_, .own upd_same k ?_, ?_, fun a ha => ?_⟩
  · rw [List.all_eq_true] at h4 ⊢
    intro q hq
    rcases List.mem_or_eq_of_mem_set hq with z | z
    · exact h4 q z
    · rw [z]; exact hc
  · have n2 := hn.2
    rw [List.append_assoc] at n2
    obtain ⟨n1, n2, n3⟩ := List.nodup_append.mp n2
    obtain ⟨m1, m2, m3⟩ := List.nodup_append.mp n2
    refine List.nodup_cons.mpr ⟨fun z => ?_, ?_⟩
    · rcases List.mem_append.mp z with z | z
      · rcases List.mem_append.mp z with z | z
        · exact hn.1 (List.mem_append_left _ (List.mem_append_left _ z))
        · exact hp z
      · exact hn.1 (List.mem_append_right _ z)
    · rw [List.append_assoc]
      refine List.nodup_append.mpr ⟨n1, List.nodup_append.mpr ⟨hfx, m2, fun a ha b hb z => hd b (List.mem_append_right _ hb) (by rw [← z]; exact ha)⟩, fun a ha b hb z => ?_⟩
      subst z
      rcases List.mem_append.mp hb with hb | hb
      · exact hd a (List.mem_append_left _ (List.mem_append_left _ ha)) hb
      · exact n3 a ha a (List.mem_append_right _ hb) rfl
  · rcases List.mem_append.mp ha with z | z
    · rcases List.mem_append.mp z with z | z
      · exact .inl (List.mem_append_left _ (List.mem_append_left _ z))
      · exact .inr z
    · exact .inl (List.mem_append_right _ z)
-- two expressions, then what stands in a slot of its own
theorem rs_set {i : Nat} {ia ie : IE} (hp : PS X st (tAsg (RE T cf W B ie) (gSub (tVar i) (RE T cf W B ia) rSetL))) : PS X st (RS T cf fu W B (.set i ia ie)) := by
  refine PS.imp hp fun D σ H h => ?_
  obtain ⟨ρ, w, s, h⟩ := h
  refine RE.one s ?_
  simp only [evS] at h
  cases e0 : ρ[i]? with
  | none => rw [e0] at h; exact h.elim
  | some ci =>
    rw [e0] at h
    cases ci with
    | own cs =>
      simp only at h
      obtain ⟨v0, fo0, q1, _, _, _⟩ := s.slot e0 (fun z => nomatch z) (fun _ z => nomatch z)
      cases e1 : evE cf ie ρ w.st with
      | stuck => rw [e1] at h; exact h
      | exc x st' => rw [e1] at h; exact exc_back s h
      | ok z s1 =>
        rw [e1] at h
        simp only at h ⊢
        intro v H1 w1 fx hw1 t1 c1 fr1
        refine ⟨v0, q1, ?_⟩
        have s1' := s.step t1
        refine RE.one s1' ?_
        rw [hw1]
        cases e2 : evE cf ia ρ s1 with
        | stuck => rw [e2] at h; exact h
        | exc x st' => rw [e2] at h; exact exc_back s1' h
        | ok k s2 =>
          rw [e2] at h
          cases k with
          | imm d =>
            cases d with
            | int k =>
              simp only at h ⊢
              intro u H2 w2 fy hw2 t2 c2 fr2
              cases e3 : ixOf cs.length k with
              | none => rw [e3] at h; exact h.elim
              | some j =>
                rw [e3] at h
                simp only at h
                by_cases ho : ownable z = true
                · rw [if_pos ho] at h
                  obtain ⟨v', fo, k1, k2, k3, k4, k5⟩ := s.slot2 (Step.trans s.ok t1 t2) e0 (fun z => nomatch z) (fun _ z => nomatch z)
                  rw [q1] at k1
                  cases k1
                  obtain ⟨p, vs, fs, rfl, h1, h2, rfl, h4⟩ := own_fp k2
                  have c1' := c1.step t2 fun a ha => (fr1.nw a ha).2.2
                  have fr1' := fr1.step t2 fun a ha => c1.dom a ha
                  have nfx : ∀ a ∈ p :: fs, a ∉ fx := fun a ha hb => k4 a ha (fr1.nw a hb).1
                  have hj : ixN vs.length k = some j := by rw [h2.length]; exact e3
                  obtain ⟨g, g1, g2, g3⟩ := own_set (v := v) (c := z) (j := j) h1 h2 h4 k3.nd c1' ho (nfx p List.mem_cons_self) (fun a ha => nfx a (List.mem_cons_of_mem _ ha)) fr1'.nd (by
                    have := (ixN_seq e3).2.1
                    exact this)
                  cases c2 with
                  | imm hd =>
                  cases hd
                  refine ⟨p, vs, k, j, rfl, rfl, h1, hj, ?_⟩
                  have fr' := fr1'.back (H := B.H) fun a z => s.st.dom s.bk.ok z
                  refine h σ _ w2 hw2 (k5 p _ _ _ List.mem_cons_self (hd_own rfl) g1 ⟨g2, fun a ha => ?_⟩ fun a ha => ?_)
                  · rcases List.mem_cons.mp ha with rfl | ha
                    · exact k3.nw _ List.mem_cons_self
                    · rcases g3 a ha with q | q
                      · exact k3.nw a (List.mem_cons_of_mem _ q)
                      · exact fr'.nw a q
                  · rcases List.mem_cons.mp ha with rfl | ha
                    · exact .inl List.mem_cons_self
                    · rcases g3 a ha with q | q
                      · exact .inl (List.mem_cons_of_mem _ q)
                      · exact .inr (fr1.nw a q).1
                · rw [if_neg ho] at h
                  exact h.elim
            | _ => exact h.elim
          | _ => exact h.elim
    | undef => exact h.elim
    | imm _ => exact h.elim
    | bor _ => exact h.elim
    | obj _ _ => exact h.elim
theorem CRs.mutAt {S : List Addr} {G H : Hp} : ∀ {vs : List V} {cs : List Cell} {f : List Addr} {j : Nat} {c : Cell}, CRs T S G H vs cs f → cs[j]? = some c → f.Nodup → cs.all ownable = true → ∃ v f1 fo f2, vs[j]? = some v ∧ f = f1 ++ fo ++ f2 ∧ CR T S G H v c fo ∧
    ∀ p o c' g, p ∈ fo → CR T S G (L2.upd H p o) v c' g → CRs T S G (L2.upd H p o) vs (cs.set j c') (f1 ++ g ++ f2)
  | _, _, _, j, c, .nil, e, _, _ => by simp at e
  | _, _, _, 0, c, .cons (f := f) (fs := fs) h hs, e, hn, ho => by
    cases (Option.some.inj e : _ = c)
    rw [List.all_cons, Bool.and_eq_true] at ho
    refine ⟨_, [], f, fs, rfl, rfl, h, fun p o c' g hp k => .cons k (hs.upd ho.2 fun z => (List.nodup_append.mp hn).2.2 p hp p z rfl)⟩
  | _, _, _, j + 1, c, .cons (c := c0) (f := f) h hs, e, hn, ho => by
    rw [List.all_cons, Bool.and_eq_true] at ho
    obtain ⟨n1, n2, n3⟩ := List.nodup_append.mp hn
    obtain ⟨v, f1, fo, f2, q1, q2, q3, q4⟩ := CRs.mutAt (j := j) hs e n2 ho.2
    refine ⟨v, f ++ f1, fo, f2, q1, by rw [q2]; simp only [List.append_assoc], q3, fun p o c' g hp k => ?_⟩
    have q := CRs.cons (h.upd (p := p) (o := o) (ownable_held ho.1) fun z => n3 p z p (by rw [q2]; exact List.mem_append_left _ (List.mem_append_right _ hp)) rfl) (q4 p o c' g hp k)
    simpa only [List.append_assoc, List.set_cons_succ] using q
theorem nodup_sub {α : Type} {f1 fo f2 g : List α} (h : (f1 ++ fo ++ f2).Nodup) (hg : g.Nodup) (hd : ∀ a ∈ g, a ∈ fo ∨ a ∉ f1 ++ fo ++ f2) : (f1 ++ g ++ f2).Nodup := by
  rw [List.append_assoc] at h ⊢
  obtain ⟨n1, n2, n3⟩ := List.nodup_append.mp h
  obtain ⟨m1, m2, m3⟩ := List.nodup_append.mp n2
  refine List.nodup_append.mpr ⟨n1, List.nodup_append.mpr ⟨hg, m2, fun a ha b hb z => ?_⟩, fun a ha b hb z => ?_⟩
  · subst z
    rcases hd a ha with q | q
    · exact m3 a q a hb rfl
    · exact q (List.mem_append_right _ hb)
  · subst z
    rcases List.mem_append.mp hb with hb | hb
    · rcases hd a hb with q | q
      · exact n3 a ha a (List.mem_append_left _ q) rfl
      · exact q (List.mem_append_left _ (List.mem_append_left _ ha))
    · exact n3 a ha a (List.mem_append_right _ hb) rfl
theorem rs_set2 {i : Nat} {ia ib ie : IE} (hK : T.K = X.K) (hp : PS X st (tAsg (RE T cf W B ie) (gSub (tOp (rIxL X.K) (tVar i) (RE T cf W B ia)) (RE T cf W B ib) rSetL))) : PS X st (RS T cf fu W B (.set2 i ia ib ie)) := by
  refine PS.imp hp fun D σ H h => ?_
  obtain ⟨ρ, w, s, h⟩ := h
  refine RE.one s ?_
  simp only [evS] at h
  cases e0 : ρ[i]? with
  | none => rw [e0] at h; exact h.elim
  | some ci =>
    rw [e0] at h
    cases ci with
    | own cs =>
      simp only at h
      obtain ⟨v0, fo0, q1, _, _, _⟩ := s.slot e0 (fun z => nomatch z) (fun _ z => nomatch z)
      cases e1 : evE cf ie ρ w.st with
      | stuck => rw [e1] at h; exact h
      | exc x st' => rw [e1] at h; exact exc_back s h
      | ok z s1 =>
        rw [e1] at h
        simp only at h ⊢
        intro v H1 w1 fx hw1 t1 c1 fr1
        refine ⟨v0, q1, ?_⟩
        have s1' := s.step t1
        refine RE.one s1' ?_
        rw [hw1]
        cases e2 : evE cf ia ρ s1 with
        | stuck => rw [e2] at h; exact h
        | exc x st' => rw [e2] at h; exact exc_back s1' h
        | ok k s2 =>
          rw [e2] at h
          cases k with
          | imm d =>
            cases d with
            | int k =>
              simp only at h ⊢
              intro u H2 w2 fy hw2 t2 c2 fr2
              cases e3 : ixOf cs.length k with
              | none => rw [e3] at h; exact h.elim
              | some j =>
                rw [e3] at h
                simp only at h
                cases e4 : cs[j]? with
                | none => rw [e4] at h; exact h.elim
                | some cj =>
                  rw [e4] at h
                  cases cj with
                  | own ds =>
                    simp only at h
                    cases c2 with
                    | imm hd =>
                    cases hd
                    -- the row stands
                    obtain ⟨v2, fo2, k1, k2, k3, _, _⟩ := s.slot2 (Step.trans s.ok t1 t2) e0 (fun z => nomatch z) (fun _ z => nomatch z)
                    rw [q1] at k1
                    cases k1
                    obtain ⟨p, vs, fs, rfl, h1, h2, rfl, h4⟩ := own_fp k2
                    obtain ⟨r, _, _, _, r1, _, r3, _⟩ := CRs.mutAt h2 e4 (List.nodup_cons.mp k3.nd).2 h4
                    have hj : ixN vs.length k = some j := by rw [h2.length]; exact e3
                    refine ⟨p, vs, k, r, rfl, rfl, SqL.of h1, at_mk hj r1, ?_⟩
                    have s2' := s1'.step t2
                    refine RE.one s2' ?_
                    rw [hw2]
                    cases e5 : evE cf ib ρ s2 with
                    | stuck => rw [e5] at h; exact h
                    | exc x st' => rw [e5] at h; exact exc_back s2' h
                    | ok l s3 =>
                      rw [e5] at h
                      cases l with
                      | imm d =>
                        cases d with
                        | int l =>
                          simp only at h ⊢
                          intro u3 H3 w3 fz hw3 t3 c3 fr3
                          cases c3 with
                          | imm hd3 =>
                          cases hd3
                          cases e6 : ixOf ds.length l with
                          | none => rw [e6] at h; exact h.elim
                          | some m =>
                            rw [e6] at h
                            simp only at h
                            by_cases ho : ownable z = true
                            · rw [if_pos ho] at h
                              have t23 := Step.trans t1.ok t2 t3
                              obtain ⟨v', fo, k1, k2', k3', k4, k5⟩ := s.slot2 (Step.trans s.ok t1 t23) e0 (fun z => nomatch z) (fun _ z => nomatch z)
                              rw [q1] at k1
                              cases k1
                              obtain ⟨p', vs', fs', hpe, h1', h2', rfl, h4'⟩ := own_fp k2'
                              cases hpe
                              have hvs : vs' = vs := by
                                have := t3.fr _ _ h1 (k3.nw p List.mem_cons_self).2.2
                                rw [h1'] at this
                                cases this
                                rfl
                              subst hvs
                              have hnd := List.nodup_cons.mp k3'.nd
                              obtain ⟨r', f1, fo2', f2, r1', r2, r3', r4⟩ := CRs.mutAt h2' e4 hnd.2 h4'
                              rw [r1] at r1'
                              cases r1'
                              obtain ⟨pr, us, gs, rfl, g1, g2, rfl, g4⟩ := own_fp r3'
                              have c1' := c1.step t23 fun a ha => (fr1.nw a ha).2.2
                              have fr1' := fr1.step t23 fun a ha => c1.dom a ha
                              have nfx : ∀ a ∈ p :: fs', a ∉ fx := fun a ha hb => k4 a ha (fr1.nw a hb).1
                              have hrow : ∀ a ∈ pr :: gs, a ∈ fs' := fun a ha => by rw [r2]; exact List.mem_append_left _ (List.mem_append_right _ ha)
                              have hm : ixN us.length l = some m := by rw [g2.length]; exact e6
                              have ndr : (pr :: gs).Nodup := by
                                have := hnd.2
                                rw [r2, List.append_assoc] at this
                                exact (List.nodup_append.mp (List.nodup_append.mp this).2.1).1
                              obtain ⟨g, y1, y2, y3⟩ := own_set (v := v) (c := z) (j := m) g1 g2 g4 ndr c1' ho (nfx pr (List.mem_cons_of_mem _ (hrow pr List.mem_cons_self))) (fun a ha => nfx a (List.mem_cons_of_mem _ (hrow a (List.mem_cons_of_mem _ ha)))) fr1'.nd ((ixN_seq e6).2.1)
                              refine ⟨pr, us, l, m, rfl, rfl, g1, hm, ?_⟩
                              have fr' := fr1'.back (H := B.H) fun a z => s.st.dom s.bk.ok z
                              have npr : p ≠ pr := fun z => hnd.1 (by rw [z]; exact hrow pr List.mem_cons_self)
                              have inG : ∀ a ∈ pr :: g, a ∈ fs' ∨ a ∈ fx := fun a ha => by
                                rcases List.mem_cons.mp ha with rfl | ha
                                · exact .inl (hrow _ List.mem_cons_self)
                                · rcases y3 a ha with q | q
                                  · exact .inl (hrow a (List.mem_cons_of_mem _ q))
                                  · exact .inr q
                              have inR : ∀ a ∈ f1 ++ (pr :: g) ++ f2, a ∈ fs' ∨ a ∈ fx := fun a ha => by
                                rcases List.mem_append.mp ha with ha | ha
                                · rcases List.mem_append.mp ha with ha | ha
                                  · exact .inl (by rw [r2]; exact List.mem_append_left _ (List.mem_append_left _ ha))
                                  · exact inG a ha
                                · exact .inl (by rw [r2]; exact List.mem_append_right _ ha)
                              have nd2 : (f1 ++ (pr :: g) ++ f2).Nodup := by
                                refine nodup_sub (fo := pr :: gs) (by rw [← r2]; exact hnd.2) y2 fun a ha => ?_
                                rcases List.mem_cons.mp ha with rfl | ha
                                · exact .inl List.mem_cons_self
                                · rcases y3 a ha with q | q
                                  · exact .inl (List.mem_cons_of_mem _ q)
                                  · refine .inr fun z => ?_
                                    rw [← r2] at z
                                    exact nfx a (List.mem_cons_of_mem _ z) q
                              refine h σ _ w3 hw3 (k5 pr _ (.own (cs.set j (.own (ds.set m z)))) (p :: (f1 ++ (pr :: g) ++ f2)) (List.mem_cons_of_mem _ (hrow pr List.mem_cons_self)) (hd_own rfl) ?_ ⟨?_, fun a ha => ?_⟩ fun a ha => ?_)
                              · refine .own (by rw [upd_ne npr]; exact h1') (r4 pr _ _ _ List.mem_cons_self y1) ?_
                                rw [List.all_eq_true] at h4' ⊢
                                intro q hq
                                rcases List.mem_or_eq_of_mem_set hq with z | z
                                · exact h4' q z
                                · rw [z]; rfl
                              · refine List.nodup_cons.mpr ⟨fun z => ?_, nd2⟩
                                rcases inR p z with q | q
                                · exact hnd.1 q
                                · exact nfx p List.mem_cons_self q
                              · rcases List.mem_cons.mp ha with rfl | ha
                                · exact k3'.nw _ List.mem_cons_self
                                · rcases inR a ha with q | q
                                  · exact k3'.nw a (List.mem_cons_of_mem _ q)
                                  · exact fr'.nw a q
                              · rcases List.mem_cons.mp ha with rfl | ha
                                · exact .inl List.mem_cons_self
                                · rcases inR a ha with q | q
                                  · exact .inl (List.mem_cons_of_mem _ q)
                                  · exact .inr (fr1.nw a q).1
                            · rw [if_neg ho] at h
                              exact h.elim
                        | _ => exact h.elim
                      | _ => exact h.elim
                  | _ => exact h.elim
            | _ => exact h.elim
          | _ => exact h.elim
    | undef => exact h.elim
    | imm _ => exact h.elim
    | bor _ => exact h.elim
    | obj _ _ => exact h.elim
end
end Q

set_option maxRecDepth 100000
set_option maxHeartbeats 1000000
namespace Q
open PySem L2
section
variable {X : Cx} {T : Tabs} {cf : CF} {fu : Nat} {W : WX} {B : Base} {e a b c o : Expr} {es : List Expr} {st : Stmt} {sts body : List Stmt} {pos p apos : Pos} {x y m : Str}
theorem nodup_ix {α : Type} : ∀ {l : List α} {i j : Nat} {a : α}, l.Nodup → l[i]? = some a → l[j]? = some a → i = j
  | [], i, j, a, _, h, _ => by simp at h
  | x :: l, 0, 0, a, _, _, _ => rfl
  | x :: l, 0, j + 1, a, n, h, k => by
    cases (Option.some.inj h : x = a)
    exact absurd (List.mem_of_getElem? (show l[j]? = some x from k)) (List.nodup_cons.mp n).1
  | x :: l, i + 1, 0, a, n, h, k => by
    cases (Option.some.inj k : x = a)
    exact absurd (List.mem_of_getElem? (show l[i]? = some x from h)) (List.nodup_cons.mp n).1
  | x :: l, i + 1, j + 1, a, n, h, k => by rw [nodup_ix (i := i) (j := j) (List.nodup_cons.mp n).2 h k]
/-! ### the store -/
theorem Step.sset {H0 H : Hp} {w0 w : Wd} {a : Addr} {k j : Nat} {vs : List V} {ds : List D} {v : V} {d : D} (s : Step T H0 w0 H w) (hk : w.S[k]? = some a) (hd : w.st[k]? = some ds) (hv : H a = some (.lst vs)) (hvs : DVs T w.S w.G vs ds) (hx : DV T w.S w.G v d) :
    Step T H0 w0 (upd H a (.lst (vs.set j v))) { w with st := w.st.set k (ds.set j d) } where
  ok := ⟨fun b o e => by
      rw [upd_ne fun z => by rw [z, s.ok.gS a (List.mem_of_getElem? hk)] at e; cases e]
      exact s.ok.ex b o e, ⟨by rw [List.length_set]; exact s.ok.st.len, fun i b es h1 h2 => by
      have hlt : k < w.st.length := (List.getElem?_eq_some_iff.mp hd).1
      by_cases hik : i = k
      · subst hik
        rw [hk] at h1
        cases h1
        have h2' : (w.st.set i (ds.set j d))[i]? = some es := h2
        rw [List.getElem?_set_self hlt] at h2'
        cases h2'
        exact ⟨vs.set j v, upd_same, hvs.set hx j⟩
      · have h2' : (w.st.set k (ds.set j d))[i]? = some es := h2
        rw [List.getElem?_set_ne (Ne.symm hik)] at h2'
        obtain ⟨us, h3, h4⟩ := s.ok.st.at_ i b es h1 h2'
        refine ⟨us, ?_, h4⟩
        rw [upd_ne ?_]
        · exact h3
        · intro z
          subst z
          exact hik (nodup_ix s.ok.nd h1 hk)⟩, s.ok.nd, s.ok.gS⟩
  exG := s.exG
  fr := fun b o e m => by
    rw [upd_ne fun z => by
      rcases s.sn a (List.mem_of_getElem? hk) with q | q
      · exact m (by rw [z]; exact q)
      · rw [z, q] at e; cases e]
    exact s.fr b o e m
  nw := s.nw
  sx := s.sx
  sn := s.sn
theorem rs_sset {i : Nat} {ia ie : IE} (hp : PS X st (tAsg (RE T cf W B ie) (gSub (tVar i) (RE T cf W B ia) rSetL))) : PS X st (RS T cf fu W B (.sset i ia ie)) := by
  refine PS.imp hp fun D σ H h => ?_
  obtain ⟨ρ, w, s, h⟩ := h
  refine RE.one s ?_
  simp only [evS] at h
  cases e0 : ρ[i]? with
  | none => rw [e0] at h; exact h.elim
  | some ci =>
    rw [e0] at h
    cases ci with
    | imm di =>
      cases di with
      | sref k =>
        simp only at h
        obtain ⟨v0, fo0, q1, q2, _, _⟩ := s.slot e0 (fun z => nomatch z) (fun _ z => nomatch z)
        cases q2 with
        | imm hdi =>
        cases hdi with
        | @sref a0 _ hk0 =>
        cases e1 : evE cf ie ρ w.st with
        | stuck => rw [e1] at h; exact h
        | exc x st' => rw [e1] at h; exact exc_back s h
        | ok z s1 =>
          rw [e1] at h
          cases z with
          | imm d =>
            simp only at h ⊢
            intro v H1 w1 fx hw1 t1 c1 fr1
            refine ⟨_, q1, ?_⟩
            have s1' := s.step t1
            refine RE.one s1' ?_
            rw [hw1]
            cases e2 : evE cf ia ρ s1 with
            | stuck => rw [e2] at h; exact h
            | exc x st' => rw [e2] at h; exact exc_back s1' h
            | ok n s2 =>
              rw [e2] at h
              cases n with
              | imm dn =>
                cases dn with
                | int n =>
                  simp only at h ⊢
                  intro u H2 w2 fy hw2 t2 c2 fr2
                  cases e3 : s2[k]? with
                  | none => rw [e3] at h; exact h.elim
                  | some ds =>
                    rw [e3] at h
                    simp only at h
                    cases e4 : ixOf ds.length n with
                    | none => rw [e4] at h; exact h.elim
                    | some j =>
                      rw [e4] at h
                      cases c2 with
                      | imm hdn =>
                      cases hdn
                      have c1' := c1.step t2 fun a ha => (fr1.nw a ha).2.2
                      cases c1' with
                      | imm hd =>
                      have s2' := s1'.step t2
                      have hk2 : w2.S[k]? = some a0 := t2.sx _ _ (t1.sx _ _ hk0)
                      rw [← hw2] at e3
                      obtain ⟨vs, h3, h4⟩ := s2'.ok.st.at_ k a0 ds hk2 e3
                      refine ⟨a0, vs, n, j, rfl, rfl, h3, by rw [h4.length]; exact e4, ?_⟩
                      have t3 := s2'.st.sset (j := j) hk2 e3 h3 h4 hd
                      obtain ⟨fp, f1, f2⟩ := s2'.f
                      have nS : a0 ∉ fp := fun z => (f2.nw a0 z).2.2 (List.mem_of_getElem? hk2)
                      refine h σ _ { w2 with st := w2.st.set k (ds.set j d) } ?_ ⟨s2'.bk, t3, fp, f1.upd nS, ⟨f2.nd, f2.nw⟩⟩
                      show w2.st.set k _ = _
                      rw [hw2]
                | _ => exact h.elim
              | _ => exact h.elim
          | _ => exact h.elim
      | _ => exact h.elim
    | _ => exact h.elim
/-! ### fields of a new instance -/
theorem putF_new {f : Str} {y : V} : ∀ {fs : List (Str × V)}, f ∉ fs.map (·.1) → putF f y fs = fs ++ [(f, y)]
  | [], _ => rfl
  | (g, z) :: r, h => by
    rw [List.map_cons, List.mem_cons, not_or] at h
    show (if g = f then _ else (g, z) :: putF f y r) = _
    rw [if_neg fun q => h.1 q.symm, putF_new h.2]
    rfl
theorem rs_setf {ci k : Nat} {C : Addr} {ns : List Str} {f : Str} {ie : IE} (hT : T.cls ci = some (C, ns)) (hn : ns.Nodup) (hf : ns[k]? = some f) (cC : Cls X.K C) (nA : NoAttr X.K C f) (hp : PS X st (sFld X.K (tVar 0) (RE T cf W B ie) f)) : PS X st (RS T cf fu W B (.setf ci k ie)) := by
  refine PS.imp hp fun D σ H h => ?_
  obtain ⟨ρ, w, s, h⟩ := h
  refine RE.one s ?_
  simp only [evS] at h
  cases e1 : evE cf ie ρ w.st with
  | stuck => rw [e1] at h; exact h
  | exc x st' => rw [e1] at h; exact exc_back s h
  | ok z s1 =>
    rw [e1] at h
    simp only at h ⊢
    intro v H1 w1 fx hw1 t1 c1 fr1
    cases e2 : keepC z with
    | none => rw [e2] at h; exact h.elim
    | some d =>
      rw [e2] at h
      cases e0 : ρ[0]? with
      | none => rw [e0] at h; exact h.elim
      | some c0 =>
        rw [e0] at h
        cases c0 with
        | obj c' ds =>
          simp only at h
          by_cases hc : c' = ci ∧ ds.length = k ∧ k < 900
          · rw [if_pos hc] at h
            obtain ⟨rfl, rfl, hk⟩ := hc
            have t2 := t1.freeze fun a ha => fr1.nw a ha
            have hd := c1.freeze (frozen_ex fun a ha => (fr1.nw a ha).2.1) (fun a ha => ha) e2
            obtain ⟨v', fo, k1, k2, k3, k4, k5⟩ := s.slot2 t2 e0 (fun z => nomatch z) (fun _ z => nomatch z)
            cases k2 with
            | @obj a C' dx _ ns' fs _ hc h1 h2 hns hl hds =>
            rw [hT] at hc
            cases hc
            have hlen : fs.length = ds.length := by rw [← hds.length, List.length_map]
            have hnf : f ∉ fs.map (·.1) := fun z => by
              rw [hns] at z
              obtain ⟨i, hi, e⟩ := List.mem_iff_getElem.mp z
              rw [List.getElem_take] at e
              rw [List.length_take] at hi
              have hi1 : i < fs.length := Nat.lt_of_lt_of_le hi (Nat.min_le_left _ _)
              have := nodup_ix hn (List.getElem?_eq_some_iff.mpr ⟨Nat.lt_of_lt_of_le hi (Nat.min_le_right _ _), e⟩) hf
              omega
            have hself : V.ref a = B.self := by
              obtain ⟨fp0, g1, g2⟩ := s.f
              rcases g1.get e0 with q | ⟨v2, g, q1, q2, q3, q4⟩ | ⟨v2, cs, q1, q2, q3⟩
              · cases q
              · rw [k1] at q1
                cases q1
                exact q2.2 rfl
              · cases q1
            refine ⟨_, k1, a, C, dx, fs, rfl, h1, cC, nA, by omega, ?_⟩
            have hne : dx ≠ a := fun z => (List.nodup_cons.mp k3.nd).1 (by rw [z]; exact List.mem_cons_self)
            refine h σ _ { w1 with G := frozen w1.G H1 fx } hw1 (k5 a _ (.obj c' (ds ++ [d])) [a, dx] List.mem_cons_self ⟨rfl, fun _ => hself⟩ ?_ k3 fun a ha => .inl ha)
            refine .obj hT upd_same (by rw [upd_ne hne]; exact h2) ?_ ?_ ?_
            · rw [putF_new hnf, List.map_append, hns, List.length_append]
              show ns.take fs.length ++ [f] = ns.take (fs.length + 1)
              rw [List.take_succ, hlen, hf]
              rfl
            · rw [putF_new hnf, List.length_append]
              have := (List.getElem?_eq_some_iff.mp hf).1
              show fs.length + 1 ≤ ns.length
              omega
            · rw [putF_new hnf, List.map_append]
              exact hds.append (.cons hd .nil)
          · rw [if_neg hc] at h
            exact h.elim
        | _ => exact h.elim
/-! ### while -/
def Post (T : Tabs) (W : WX) (B : Base) (D : Ends) (o : Out) : Prop := match o with
  | .next ρ' st' => ∀ σ' H' w', w'.st = st' → Sim T B σ' H' ρ' w' → D.nx σ' H'
  | .brk ρ' st' => ∀ σ' H' w', w'.st = st' → Sim T B σ' H' ρ' w' → D.bk σ' H'
  | .cont ρ' st' => ∀ σ' H' w', w'.st = st' → Sim T B σ' H' ρ' w' → D.ct σ' H'
  | .ret c st' => ∀ v H' w' fp, w'.st = st' → Step T B.H B.w H' w' → CR T w'.S w'.G H' v c fp → Fr B.H w' fp → D.rt v H'
  | .exc x ρ' st' => ∀ σ' H' w' cls d, w'.st = st' → Sim T B σ' H' ρ' w' → XR T H' w' x cls d → W cls d σ' H'
  | .stuck => False
theorem rs_post {i : IS} {D : Ends} {σ : L2.St} {H : Hp} : RS T cf fu W B i D σ H = ∃ ρ w, Sim T B σ H ρ w ∧ Post T W B D (evS cf fu i ρ w.st) := rfl
theorem rs_whl {ic : IE} {ib : IS} (hp : ∀ {tc : TT} {tb : TS}, PT X c tc → PSs X body tb → PS X st (tWhile tc tb)) (hc : PT X c (RT T cf W B ic)) (hb : PSs X body (RS T cf fu W B ib)) : PS X st (RS T cf fu W B (.whl ic ib)) := by
  refine PS.imp (hp hc hb) fun D σ H h => ?_
  rw [rs_post] at h
  obtain ⟨ρ, w, s, h⟩ := h
  have h' : Post T W B D (wloop (evE cf ic) (evS cf fu ib) fu ρ w.st) := by simpa only [evS] using h
  refine ⟨fun m σ H => ∃ ρ w, Sim T B σ H ρ w ∧ Post T W B D (wloop (evE cf ic) (evS cf fu ib) m ρ w.st), ⟨fu, ρ, w, s, h'⟩, ?_⟩
  rintro m σ H ⟨ρ, w, s, h⟩
  cases m with
  | zero => exact h.elim
  | succ m =>
    refine ⟨ρ, w, s, ?_⟩
    simp only [wloop] at h
    cases e1 : evE cf ic ρ w.st with
    | stuck => rw [e1] at h; exact h
    | exc x st' => rw [e1] at h; exact exc_back s h
    | ok z s1 =>
      rw [e1] at h
      simp only at h ⊢
      cases e2 : truC z with
      | none => rw [e2] at h; exact h.elim
      | some k =>
        rw [e2] at h
        simp only
        intro H' w' hw t
        cases k with
        | false =>
          rw [if_neg Bool.false_ne_true]
          exact h σ H' w' hw (s.step t)
        | true =>
          rw [if_pos rfl]
          refine ⟨fun σ H => ∃ ρ w, Sim T B σ H ρ w ∧ Post T W B D (wloop (evE cf ic) (evS cf fu ib) m ρ w.st), fun σ' H' q => ⟨m, Nat.lt_succ_self m, q⟩, ?_⟩
          rw [rs_post]
          refine ⟨ρ, w', s.step t, ?_⟩
          rw [hw]
          simp only at h
          cases e3 : evS cf fu ib ρ s1 with
          | next ρ' s2 =>
            rw [e3] at h
            intro σ2 H2 w2 hw2 s2'
            exact ⟨ρ', w2, s2', by rw [hw2]; exact h⟩
          | cont ρ' s2 =>
            rw [e3] at h
            intro σ2 H2 w2 hw2 s2'
            exact ⟨ρ', w2, s2', by rw [hw2]; exact h⟩
          | brk ρ' s2 => rw [e3] at h; exact h
          | ret c s2 => rw [e3] at h; exact h
          | exc x ρ' s2 => rw [e3] at h; exact h
          | stuck => rw [e3] at h; exact h
end
end Q

set_option maxRecDepth 100000
set_option maxHeartbeats 1000000
namespace Q
open PySem L2
section
variable {T : Tabs} {B : Base} {S : List Addr} {G H H' : Hp} {σ : L2.St} {ρ : Ev} {w w' : Wd}
/-! ### another ground to stand on: all that the slots don't own -/
def lessen (H : Hp) (f : List Addr) : Hp := fun a => if a ∈ f then none else H a
theorem lessen_in {f : List Addr} {a : Addr} (h : a ∈ f) : lessen H f a = none := if_pos h
theorem lessen_out {f : List Addr} {a : Addr} (h : a ∉ f) : lessen H f a = H a := if_neg h
theorem ER.base {B' : Base} (h0 : B'.H0 = B.H0) (h1 : B'.w0 = B.w0) (h2 : B'.self = B.self) : ∀ {σ : L2.St} {ρ : Ev} {f : List Addr}, ER T B S G H σ ρ f → ER T B' S G H σ ρ f
  | _, _, _, .nil => .nil
  | _, _, _, .undef hs => .undef (ER.base h0 h1 h2 hs)
  | _, _, _, .cons hh h hs => .cons (by unfold Hd; rw [h2]; exact hh) h (ER.base h0 h1 h2 hs)
  | _, _, _, .lent h hs => .lent (by rw [h0, h1]; exact h) (ER.base h0 h1 h2 hs)
theorem Sim.rebase (s : Sim T B σ H ρ w) : ∃ H1, Sim T ⟨H1, w, B.H0, B.w0, B.self⟩ σ H ρ w ∧ (∀ {σ' H' ρ' w'}, Sim T ⟨H1, w, B.H0, B.w0, B.self⟩ σ' H' ρ' w' → Sim T B σ' H' ρ' w') ∧ Step T B.H B.w H1 w ∧ Ok T H1 w := by
  obtain ⟨fp, h1, h2⟩ := s.f
  have lo : Ok T (lessen H fp) w := ⟨fun a o e => by
      rw [lessen_out fun z => by rw [(h2.nw a z).2.1] at e; cases e]
      exact s.ok.ex a o e, ⟨s.ok.st.len, fun k a ds q1 q2 => by
      obtain ⟨vs, h3, h4⟩ := s.ok.st.at_ k a ds q1 q2
      exact ⟨vs, by rw [lessen_out fun z => (h2.nw a z).2.2 (List.mem_of_getElem? q1)]; exact h3, h4⟩⟩, s.ok.nd, s.ok.gS⟩
  have t1 : Step T B.H B.w (lessen H fp) w := ⟨lo, s.st.exG, fun a o e m => by
      rw [lessen_out fun z => by rw [(h2.nw a z).1] at e; cases e]
      exact s.st.fr a o e m, s.st.nw, s.st.sx, s.st.sn⟩
  have t2 : Step T (lessen H fp) w H w := ⟨s.ok, Same.refl _, fun a o e m => by
      by_cases q : a ∈ fp
      · rw [lessen_in q] at e; cases e
      · rw [lessen_out q] at e; exact e, fun a => by
      cases q : w.G a with
      | none => exact .inl rfl
      | some o => exact .inr (.inl (fun z => nomatch z)), SExt.refl _, fun a m => .inl m⟩
  have bk' : BOk T ⟨lessen H fp, w, B.H0, B.w0, B.self⟩ := ⟨lo, s.bk.k0, Step.trans s.bk.k0 s.bk.lb t1⟩
  refine ⟨lessen H fp, ⟨bk', t2, fp, ER.base (B := B) (B' := ⟨lessen H fp, w, B.H0, B.w0, B.self⟩) rfl rfl rfl h1, ⟨h2.nd, fun a ha => ⟨lessen_in ha, (h2.nw a ha).2⟩⟩⟩, fun {σ' H' ρ' w'} s' => ?_, t1, lo⟩
  obtain ⟨fp', k1, k2⟩ := s'.f
  exact ⟨s.bk, Step.trans s.bk.ok t1 s'.st, fp', ER.base (B := ⟨lessen H fp, w, B.H0, B.w0, B.self⟩) (B' := B) rfl rfl rfl k1, k2.back fun a z => t1.dom s.bk.ok z⟩
end
section
variable {X : Cx} {T : Tabs} {cf : CF} {fu : Nat} {W : WX} {B : Base} {e a b c o iter tg : Expr} {es : List Expr} {st : Stmt} {sts body : List Stmt} {pos p apos : Pos} {x y m : Str}
theorem Post.base {D : Ends} {o : Out} {B' : Base} (t1 : Step T B.H B.w B'.H B'.w) (k : Ok T B.H B.w) (hs : ∀ {σ' H' ρ' w'}, Sim T B' σ' H' ρ' w' → Sim T B σ' H' ρ' w') (h : Post T W B D o) : Post T W B' D o := by
  cases o with
  | next ρ' st' => exact fun σ' H' w' hw s => h σ' H' w' hw (hs s)
  | brk ρ' st' => exact fun σ' H' w' hw s => h σ' H' w' hw (hs s)
  | cont ρ' st' => exact fun σ' H' w' hw s => h σ' H' w' hw (hs s)
  | ret c st' => exact fun v H' w' fp hw t c1 fr => h v H' w' fp hw (Step.trans k t1 t) c1 (fr.back fun a z => t1.dom k z)
  | exc x ρ' st' => exact fun σ' H' w' cls d hw s r => h σ' H' w' cls d hw (hs s) r
  | stuck => exact h
/-- what a for walks: data, or a list that was lent -/
def RF (T : Tabs) (cf : CF) (W : WX) (B : Base) (it : IE) : TI := fun σ H R => ∃ ρ w, Sim T B σ H ρ w ∧ match evE cf it ρ w.st with
  | .ok x st' => match walkC it ρ x with
    | some ds => ∀ J H1 w1 vs I, w1.st = st' → Step T H w H1 w1 → Wk J vs I → (∀ H2 w2, Step T B.H0 B.w0 H2 w2 → Ex w1.G w2.G → I H2) → DVs T w1.S w1.G vs ds → R J H1
    | none => False
  | .exc x st' => Exd T H w x st' fun cls d H' => W cls d σ H'
  | .stuck => False
theorem keepAll_imms : ∀ ds : List D, keepAll (ds.map .imm) = some ds
  | [] => by simp only [List.map_nil, keepAll]
  | d :: ds => by simp only [List.map_cons, keepAll, keepC, keepAll_imms ds]
theorem rf_seq {it : IE} (hv : ∀ i, it ≠ .var i) (hK : T.K = X.K) (ha : PE X iter (RE T cf W B it)) : PI X tg iter (RF T cf W B it) := by
  refine PI.imp (pi_seq ha) fun σ H R h => ?_
  obtain ⟨ρ, w, s, h⟩ := h
  refine RE.one s ?_
  cases e1 : evE cf it ρ w.st with
  | stuck => rw [e1] at h; exact h
  | exc x st' => rw [e1] at h; exact h
  | ok x s1 =>
    rw [e1] at h
    simp only at h ⊢
    cases e2 : walkC it ρ x with
    | none => rw [e2] at h; exact h.elim
    | some ds =>
      rw [e2] at h
      simp only at h
      intro v H1 w1 fx hw t c1 fr
      cases x with
      | undef => cases e2
      | obj _ _ => cases e2
      | imm d =>
        cases c1 with
        | imm hd =>
        cases hd <;> first | (cases e2; done) | skip
        · rename_i a vs _ h1 h2
          cases e2
          refine ⟨a, rfl, .inr ⟨⟨vs, SqT.of (t.ok.ex _ _ h1)⟩, h _ H1 w1 vs (fun H => SqT X.K H a vs) hw t wk_tup (fun H2 w2 t2 e => SqT.of (t2.ok.ex _ _ (e _ _ h1))) h2⟩⟩
        · rename_i a vs _ h1 h2
          cases e2
          refine ⟨a, rfl, .inl ⟨⟨vs, SqL.of (t.ok.ex _ _ h1)⟩, h _ H1 w1 vs (fun H => SqL X.K H a vs) hw t wk_list (fun H2 w2 t2 e => SqL.of (t2.ok.ex _ _ (e _ _ h1))) h2⟩⟩
        · rename_i a vs _ h1 h2
          cases e2
          rw [hK] at h1
          refine ⟨a, rfl, .inl ⟨⟨vs, Same.seq t.ok.ex h1⟩, h _ H1 w1 vs (fun H => SqL X.K H a vs) hw t wk_list (fun H2 w2 t2 e => Same.seq t2.ok.ex (Same.seq e h1)) h2⟩⟩
      | own cs =>
        have e2' : keepAll cs = some ds := e2
        cases c1 with
        | @own a vs _ fp h1 h2 _ =>
        have t2 := t.freeze fun a ha => fr.nw a ha
        have eF := frozen_ex (G := w1.G) (H := H1) fun a ha => (fr.nw a ha).2.1
        have hds := h2.freeze eF (fun a ha => List.mem_cons_of_mem _ ha) e2'
        have hg : frozen w1.G H1 (a :: fp) a = some (.lst vs) := by rw [frozen_in List.mem_cons_self]; exact h1
        exact ⟨a, rfl, .inl ⟨⟨vs, SqL.of h1⟩, h _ H1 { w1 with G := frozen w1.G H1 (a :: fp) } vs (fun H => SqL X.K H a vs) hw t2 wk_list (fun H2 w2 t3 e => SqL.of (t3.ok.ex _ _ (e _ _ hg))) hds⟩⟩
      | bor cs =>
        cases it with
        | var i => exact absurd rfl (hv i)
        | _ => cases e2
theorem rf_var {i : Nat} (hK : T.K = X.K) (ha : PE X iter (tVar i)) : PI X tg iter (RF T cf W B (.var i)) := by
  refine PI.imp (pi_seq ha) fun σ H R h => ?_
  obtain ⟨ρ, w, s, h⟩ := h
  simp only [evE] at h
  cases e0 : ρ[i]? with
  | none => rw [e0] at h; exact h.elim
  | some c =>
    rw [e0] at h
    obtain ⟨fp, f1, f2⟩ := s.f
    have t := Step.refl s.ok
    cases c with
    | undef => exact h.elim
    | obj _ _ => exact h.elim
    | own cs => simp only [walkC, e0] at h
    | imm d =>
      simp only [walkC] at h
      cases e2 : seqItems (.imm d) with
      | none => rw [e2] at h; exact h.elim
      | some ds =>
        rw [e2] at h
        rcases f1.get e0 with q | ⟨v, g, q1, q2, q3, q4⟩ | ⟨v, cs, q1, q2, q3⟩
        · cases q
        · refine ⟨v, q1, ?_⟩
          cases q3 with
          | imm hd =>
          cases hd <;> first | (cases e2; done) | skip
          · rename_i a vs _ h1 h2
            cases e2
            refine ⟨a, rfl, .inr ⟨⟨vs, SqT.of (t.ok.ex _ _ h1)⟩, h _ H w vs (fun H => SqT X.K H a vs) rfl t wk_tup (fun H2 w2 t2 e => SqT.of (t2.ok.ex _ _ (e _ _ h1))) h2⟩⟩
          · rename_i a vs _ h1 h2
            cases e2
            refine ⟨a, rfl, .inl ⟨⟨vs, SqL.of (t.ok.ex _ _ h1)⟩, h _ H w vs (fun H => SqL X.K H a vs) rfl t wk_list (fun H2 w2 t2 e => SqL.of (t2.ok.ex _ _ (e _ _ h1))) h2⟩⟩
          · rename_i a vs _ h1 h2
            cases e2
            rw [hK] at h1
            refine ⟨a, rfl, .inl ⟨⟨vs, Same.seq t.ok.ex h1⟩, h _ H w vs (fun H => SqL X.K H a vs) rfl t wk_list (fun H2 w2 t2 e => Same.seq t2.ok.ex (Same.seq e h1)) h2⟩⟩
        · cases q1
    | bor cs =>
      simp only [walkC, e0] at h
      cases e2 : imms cs with
      | none => rw [e2] at h; exact h.elim
      | some ds =>
        rw [e2] at h
        rcases f1.get e0 with q | ⟨v, g, q1, q2, q3, q4⟩ | ⟨v, cs', q1, q2, q3⟩
        · cases q
        · cases q2.1
        · cases q1
          refine ⟨v, q2, ?_⟩
          cases q3 with
          | @bor a vs _ fp h1 h2 hb _ =>
          obtain ⟨h3, _⟩ := h2.imms e2
          have t0 := Step.trans s.bk.k0 s.bk.lb s.st
          exact ⟨a, rfl, .inl ⟨⟨vs, SqL.of (t0.fr _ _ h1 (hb _ List.mem_cons_self))⟩, h _ H w vs (fun H => SqL X.K H a vs) rfl t wk_list (fun H2 w2 t2 _ => SqL.of (t2.fr _ _ h1 (hb _ List.mem_cons_self))) (h3.mono t0.exG t0.sx)⟩⟩
theorem rf_rng1 {ia : IE} (hg : Gl X "range") (hm : X.mg "range" = none) (ha : PE X a (RE T cf W B ia)) (hn : starEach [a] X.env = (false, eval a X.env) :: starEach [] X.env) (hs : starEach [a] X.env = [(false, eval a X.env)]) : PI X tg (.Call (.Name "range" p) [a] [] pos) (RF T cf W B (.range1 ia)) := by
  refine PI.imp (pi_range1 hg hm (pa_cons ha pa_nil hn) hs) fun σ H R h => ?_
  obtain ⟨ρ, w, s, h⟩ := h
  rw [evE_range rfl] at h
  refine RE.one s ?_
  simp only [evR] at h
  cases e1 : evE cf ia ρ w.st with
  | stuck => rw [e1] at h; exact h
  | exc x st' => rw [e1] at h; exact h
  | ok x s1 =>
    rw [e1] at h
    simp only at h ⊢
    cases e2 : asInt x with
    | none => rw [e2] at h; exact h.elim
    | some n =>
      rw [e2] at h
      obtain rfl := asInt_of e2
      simp only at h
      intro v H' w' fx hw t c1 fr
      cases c1 with
      | imm hd =>
      cases hd
      by_cases hr : rngOk n = true
      · rw [if_pos hr] at h
        simp only [walkC, owns, keepAll_imms] at h
        have r := rng_of hr
        refine ⟨n, rfl, r.1, r.2, ?_⟩
        have k := h (Itr 0 (n - 0).toNat) H' w' (rgV 0 n) (fun _ => True) hw t wk_rng (fun _ _ _ _ => True.intro) (ranged_rgV 0 n)
        rw [Int.sub_zero] at k
        exact k
      · rw [if_neg hr] at h
        exact h.elim
theorem rf_rng2 {ia ib : IE} (hg : Gl X "range") (hm : X.mg "range" = none) (ha : PE X a (RE T cf W B ia)) (hb : PE X b (RE T cf W B ib)) (na : starEach [a, b] X.env = (false, eval a X.env) :: starEach [b] X.env) (nb : starEach [b] X.env = (false, eval b X.env) :: starEach [] X.env)
    (hs : starEach [a, b] X.env = [(false, eval a X.env), (false, eval b X.env)]) (hs2 : starEach [b] X.env = [(false, eval b X.env)]) : PI X tg (.Call (.Name "range" p) [a, b] [] pos) (RF T cf W B (.range2 ia ib)) := by
  refine PI.imp (pi_range2 hg hm (pa_cons ha (pa_cons hb pa_nil nb) na) hs hs2) fun σ H R h => ?_
  obtain ⟨ρ, w, s, h⟩ := h
  rw [evE_range rfl] at h
  refine RE.two (f := fun x y H2 => ∃ i j : Int, [x, y] = [.int i, .int j] ∧ (-(2 ^ 62) ≤ i ∧ i < 2 ^ 62 ∧ -(2 ^ 62) ≤ j ∧ j < 2 ^ 62) ∧ R (Itr i (j - i).toNat) H2) s ?_
  simp only [evR] at h
  cases e1 : evE cf ia ρ w.st with
  | stuck => rw [e1] at h; exact h
  | exc x st' => rw [e1] at h; exact h
  | ok x s1 =>
    rw [e1] at h
    simp only at h ⊢
    cases e2 : evE cf ib ρ s1 with
    | stuck => rw [e2] at h; exact h
    | exc x st' => rw [e2] at h; exact h
    | ok y s2 =>
      rw [e2] at h
      simp only at h ⊢
      intro v u H' w' fx fy hw t c1 c2 fr
      cases e3 : asInt x with
      | none => rw [e3] at h; exact h.elim
      | some m =>
        cases e4 : asInt y with
        | none => rw [e3, e4] at h; exact h.elim
        | some n =>
          rw [e3, e4] at h
          obtain rfl := asInt_of e3
          obtain rfl := asInt_of e4
          simp only at h
          cases c1 with
          | imm hd1 =>
          cases c2 with
          | imm hd2 =>
          cases hd1; cases hd2
          by_cases hr : (rngOk m && rngOk n) = true
          · rw [if_pos hr] at h
            simp only [walkC, owns, keepAll_imms] at h
            rw [Bool.and_eq_true] at hr
            have r1 := rng_of hr.1
            have r2 := rng_of hr.2
            exact ⟨m, n, rfl, ⟨r1.1, r1.2, r2.1, r2.2⟩, h (Itr m (n - m).toNat) H' w' (rgV m n) (fun _ => True) hw t wk_rng (fun _ _ _ _ => True.intro) (ranged_rgV m n)⟩
          · rw [if_neg hr] at h
            exact h.elim
/-! ### for -/
-- a target that knows how many slots there are
def gL (n : Nat) (g : TG) : TG := fun v σ H Q => σ.length = n → g v σ H Q
theorem pg_len {g : TG} (h : PG X tg g) : PG X tg (gL X.N.length g) := ⟨fun pins s σ H v u Q I r q => h.run pins s σ H v u Q I r (q I.len)⟩
structure GOk (T : Tabs) (n : Nat) (f : Q.D → Ev → Option Ev) (g : TG) : Prop where
  run : ∀ {B : Base} {v : V} {d : Q.D} {σ : L2.St} {H : Hp} {ρ ρ' : Ev} {w : Wd} {Q : L2.St → Hp → Prop}, Sim T B σ H ρ w → DV T w.S w.G v d → f d ρ = some ρ' → σ.length = n → (∀ σ', Sim T B σ' H ρ' w → Q σ' H) → g v σ H Q
-- one after another
theorem for_go {n : Nat} {J : It} {g : TG} {K : Ends} {σ : L2.St} {H H1 : Hp} {ρ : Ev} {w w1 : Wd} {ds : List Q.D} {vs : List V} {I : Hp → Prop} {ib : IS} {f : Q.D → Ev → Option Ev} {tb : TS} {bo : Cell → Ev → Store → Out}
    (s : Sim T B σ H ρ w) (t : Step T H w H1 w1) (hW : Wk J vs I) (hI : ∀ H2 w2, Step T B.H0 B.w0 H2 w2 → Ex w1.G w2.G → I H2) (hd : DVs T w1.S w1.G vs ds)
    (hbo : ∀ d ρ st, bo (.imm d) ρ st = match f d ρ with | some ρ' => evS cf fu ib ρ' st | none => .stuck) (hg : GOk T n f g)
    (htb : ∀ B K σ H, RS T cf fu W B ib K σ H → tb K σ H) (h : Post T W B K (floop bo (ds.map .imm) ρ w1.st)) :
    ∃ Wi : Nat → Nat → L2.St → Hp → Prop, (∃ m, Wi 0 m σ H1) ∧ ∀ i m σ H, Wi i m σ H →
      (J.stop i H ∧ K.nx σ H) ∨ (J.go i H ∧ ∃ N : L2.St → Hp → Prop, (∀ σ' H', N σ' H' → ∃ m', m' < m ∧ Wi (i + 1) m' σ' H') ∧ ∀ x H', J.yld i H x H' → gL n g x σ H' fun σ2 H2 => tb { K with nx := N, ct := N, bk := K.nx } σ2 H2) := by
  have hn := hd.length
  obtain ⟨Hb, sb, back, tB, okb⟩ := (s.step t).rebase
  let B' : Base := ⟨Hb, w1, B.H0, B.w0, B.self⟩
  have h' : Post T W B' K (floop bo (ds.map .imm) ρ w1.st) := h.base tB s.bk.ok back
  let P : Nat → L2.St → Hp → Prop := fun i σ H => i ≤ ds.length ∧ ∃ ρ w, Sim T B' σ H ρ w ∧ Post T W B' K (floop bo ((ds.drop i).map .imm) ρ w.st)
  refine ⟨fun i m σ H => m = ds.length - i ∧ P i σ H, ⟨ds.length, rfl, Nat.zero_le _, ρ, w1, sb, h'⟩, ?_⟩
  rintro i m σ H ⟨rfl, hi, ρ, w, s2, hp⟩
  have hIH : I H := hI H w (Step.trans s2.bk.k0 s2.bk.lb s2.st) s2.st.exG
  by_cases hlt : i < ds.length
  · refine .inr ⟨?_, P (i + 1), fun σ' H' hP => ⟨ds.length - (i + 1), by omega, rfl, hP⟩, ?_⟩
    · have : i < vs.length := by rw [hn]; exact hlt
      exact hW.go i vs[i] H (List.getElem?_eq_getElem this) hIH
    · intro x H2 hy hlen
      obtain ⟨rfl, hx⟩ := hW.yld i _ x H2 hIH (by rw [hn]; exact hlt) hy
      obtain ⟨d, hd1, hd2⟩ := hd.getV hx
      have hdrop : ds.drop i = d :: ds.drop (i + 1) := by
        rw [List.drop_eq_getElem_cons hlt]
        rw [List.getElem?_eq_getElem hlt] at hd1
        cases hd1
        rfl
      rw [hdrop, List.map_cons] at hp
      simp only [floop, hbo] at hp
      cases e1 : f d ρ with
      | none => rw [e1] at hp; exact hp.elim
      | some ρ' =>
        rw [e1] at hp
        simp only at hp
        refine hg.run s2 (hd2.mono s2.st.exG s2.st.sx) e1 hlen fun σ' s3 => htb B' _ _ _ ?_
        rw [rs_post]
        refine ⟨ρ', w, s3, ?_⟩
        cases e2 : evS cf fu ib ρ' w.st with
        | next ρ2 st2 =>
          rw [e2] at hp
          intro σ4 H4 w4 hw4 s4
          exact ⟨hlt, ρ2, w4, s4, by rw [hw4]; exact hp⟩
        | cont ρ2 st2 =>
          rw [e2] at hp
          intro σ4 H4 w4 hw4 s4
          exact ⟨hlt, ρ2, w4, s4, by rw [hw4]; exact hp⟩
        | brk ρ2 st2 => rw [e2] at hp; exact hp
        | ret c st2 => rw [e2] at hp; exact hp
        | exc x ρ2 st2 => rw [e2] at hp; exact hp
        | stuck => rw [e2] at hp; exact hp
  · have ei : i = ds.length := by omega
    subst ei
    rw [List.drop_length] at hp
    simp only [List.map_nil, floop] at hp
    exact .inl ⟨by rw [← hn]; exact hW.stop H hIH, hp σ H w rfl s2⟩
theorem gok_name {j n : Nat} (hj : j < n) : GOk T n (fun d ρ => some (ρ.set j (.imm d))) (gName j) := ⟨fun {B v d σ H ρ ρ' w Q} s hd e hl k => by
  cases e
  exact k _ (s.set_imm hd (by rw [hl]; exact hj))⟩
def tupF (js : List Nat) : Q.D → Ev → Option Ev
  | .tup ds, ρ => setAll js ds ρ
  | _, _ => none
theorem gok_tup {js : List Nat} {n : Nat} {K : PySem.W.Frag} (hj : ∀ j ∈ js, j < n) : GOk T n (tupF js) (gTup K js.length (gNames js)) := ⟨fun {B v d σ H ρ ρ' w Q} s hd e hl k => by
  cases d with
  | tup ds =>
    cases hd with
    | @tup a vs _ h1 h2 =>
    obtain ⟨σ', q1, q2, q3⟩ := s.set_all h2 (show setAll js ds ρ = some ρ' from e) fun j hjm => by rw [hl]; exact hj j hjm
    refine ⟨a, vs, rfl, SqT.of (s.ok.ex _ _ h1), q1.symm, gNames_ok q1 ?_⟩
    rw [← q2]
    exact k σ' q3
  | _ => cases e⟩
theorem for_in {it : IE} {ib : IS} {K : Ends} {σ : L2.St} {H : Hp} {n : Nat} {f : Q.D → Ev → Option Ev} {g : TG} {bo : Cell → Ev → Store → Out}
    (hbo : ∀ d ρ st, bo (.imm d) ρ st = match f d ρ with | some ρ' => evS cf fu ib ρ' st | none => .stuck) (hg : GOk T n f g)
    (h : ∃ ρ w, Sim T B σ H ρ w ∧ Post T W B K (match evE cf it ρ w.st with
      | .ok x s1 => match walkC it ρ x with
        | some ds => floop bo (ds.map .imm) ρ s1
        | none => .stuck
      | .exc x s1 => .exc x ρ s1
      | .stuck => .stuck)) : tFor (RF T cf W B it) (gL n g) (fun K σ H => ∃ B, RS T cf fu W B ib K σ H) K σ H := by
  obtain ⟨ρ, w, s, h⟩ := h
  refine ⟨ρ, w, s, ?_⟩
  cases e1 : evE cf it ρ w.st with
  | stuck => rw [e1] at h; exact h
  | exc x st' => rw [e1] at h; exact exc_back s h
  | ok x s1 =>
    rw [e1] at h
    simp only at h ⊢
    cases e2 : walkC it ρ x with
    | none => rw [e2] at h; exact h.elim
    | some ds =>
      rw [e2] at h
      simp only at h ⊢
      intro J H1 w1 vs I hw t hW hI hd
      exact for_go (tb := fun K σ H => ∃ B, RS T cf fu W B ib K σ H) s t hW hI hd hbo hg (fun B K σ H q => ⟨B, q⟩) (by rw [hw]; exact h)
theorem rs_for {j : Nat} {it : IE} {ib : IS} (hj : j < X.N.length) (hp : ∀ {wi : TI} {g : TG} {tb : TS}, PI X tg iter wi → PG X tg g → PSs X body tb → PS X st (tFor wi g tb)) (hi : PI X tg iter (RF T cf W B it)) (hg : PG X tg (gName j)) (hb : ∀ B, PSs X body (RS T cf fu W B ib)) : PS X st (RS T cf fu W B (.for_ j it ib)) := by
  refine PS.imp (hp (tb := fun K σ H => ∃ B, RS T cf fu W B ib K σ H) hi (pg_len hg) ⟨fun pins s σ H K I ⟨B, q⟩ => (hb B).run pins s σ H K I q⟩) fun K σ H h => ?_
  refine for_in (f := fun d ρ => some (ρ.set j (.imm d))) (bo := fun y ρ s => evS cf fu ib (ρ.set j y) s) (fun d ρ st => rfl) (gok_name hj) ?_
  rw [rs_post] at h
  obtain ⟨ρ, w, s, h⟩ := h
  refine ⟨ρ, w, s, ?_⟩
  simp only [evS] at h
  exact h
theorem rs_fort {js : List Nat} {it : IE} {ib : IS} (hj : ∀ j ∈ js, j < X.N.length) (hp : ∀ {wi : TI} {g : TG} {tb : TS}, PI X tg iter wi → PG X tg g → PSs X body tb → PS X st (tFor wi g tb)) (hi : PI X tg iter (RF T cf W B it)) (hg : PG X tg (gTup X.K js.length (gNames js))) (hb : ∀ B, PSs X body (RS T cf fu W B ib)) : PS X st (RS T cf fu W B (.fort js it ib)) := by
  refine PS.imp (hp (tb := fun K σ H => ∃ B, RS T cf fu W B ib K σ H) hi (pg_len hg) ⟨fun pins s σ H K I ⟨B, q⟩ => (hb B).run pins s σ H K I q⟩) fun K σ H h => ?_
  refine for_in (f := tupF js) (bo := fun y ρ s => match y with
      | .imm (.tup es) => match setAll js es ρ with
        | some ρ' => evS cf fu ib ρ' s
        | none => .stuck
      | _ => .stuck) (fun d ρ st => by cases d <;> rfl) (gok_tup hj) ?_
  rw [rs_post] at h
  obtain ⟨ρ, w, s, h⟩ := h
  refine ⟨ρ, w, s, ?_⟩
  simp only [evS] at h
  exact h
end
end Q

set_option maxRecDepth 100000
set_option maxHeartbeats 1000000
namespace Q
open PySem L2
section
variable {X : Cx} {T : Tabs} {cf : CF} {W : WX} {B : Base} {e a b c o : Expr} {es : List Expr} {pos p apos : Pos} {x m : Str} {k : Nat} {fa C : Addr} {fd : FuncData} {ps : List Str} {f n : Nat}
theorem crs_one {S : List Addr} {G H : Hp} {v : V} {c : Cell} {f : List Addr} (h : CRs T S G H [v] [c] f) (e : f = []) : CR T S G H v c [] := by
  cases h with
  | @cons _ _ _ _ f1 f2 h hs =>
    have : f1 = [] := (List.append_eq_nil_iff.mp e).1
    subst this
    exact h
/-! ### == by an own __eq__ -/
abbrev R2S := L2.St → R2
def OpS (X : Cx) (g : Value → Value → Sem Value) (r : R2S) : Prop := ∀ (pins : List (Addr × Obj)) (s : Shared) (σ : L2.St) (H : Hp) (x y : V) (v u : Value) (Q : VK), Inv X pins σ H s → RelV x v → RelV y u → r σ x y H Q → wpAny (model X.prog X.w) X.A (g v u) (EP X pins σ Q) X.xe s
def tOpS (r : R2S) (ta tb : TE) : TE := fun σ H Q => ta σ H fun x H1 => tb σ H1 fun y H2 => r σ x y H2 Q
theorem pe_cmpS {op : CmpOp} {r : R2S} {ta tb : TE} (ho : OpS X (compareOp op) r) (ha : PE X a ta) (hb : PE X b tb) (hm : behindInMarks op b = false) : PE X (.Compare a [op] [b] pos) (tOpS r ta tb) := by
  refine ⟨fun pins s σ H Q I h => ?_⟩
  exact wpAny_Compare1 (binT ha hb I h fun v u s2 x y H2 I2 rx ry q => ho pins s2 σ H2 x y v u Q I2 rx ry q) hm
theorem pt_cmpS {op : CmpOp} {r : R2S} {ta tb : TE} (ho : OpS X (compareOp op) r) (ha : PE X a ta) (hb : PE X b tb) (hm : behindInMarks op b = false) : PT X (.Compare a [op] [b] pos) (tTest (tOpS r ta tb)) := by
  refine ⟨fun pins s σ H Q I h => ?_⟩
  refine wpAny_isTrue_Compare1 (thn (ha.run pins s σ H _ I h) fun v s1 ⟨x, H1, I1, r1, q1⟩ => thn (hb.run pins s1 σ H1 _ I1 q1) fun u s2 ⟨y, H2, I2, r2, q2⟩ =>
    thn (ho pins s2 σ H2 x y v u _ I2 r1 r2 q2) fun c s3 ⟨z, H3, I3, r3, k, e, q3⟩ => ?_) hm
  subst e
  cases r3
  exact wpAny_truthy_bool ⟨H3, I3, q3⟩
/-- what the def f promises of class ci's == -/
structure EqF (X : Cx) (T : Tabs) (cf : CF) (k ci f : Nat) : Prop where
  ex : ∃ C ns fa fd ps, T.cls ci = some (C, ns) ∧ PySem.W.findIn X.K (.ref C) "__eq__" = some (some (.ref fa)) ∧ PySem.W.isFn X.K (.ref fa) = true ∧ Binds X.K fd ps [] ∧ FnOk X.prog X.w X.K X.mg X.base (L2.CX X.prog X.w) k fa fd ps (spF T cf f 2)
  cl : ∀ cs st, cs.length ≠ 2 → cf f cs st = .stuck
def rEqm (T : Tabs) (cf : CF) (W : WX) (es : List (Nat × Nat)) : R2S := fun σ v u H Q => ∃ w cx cy fx fy, Ok T H w ∧ CR T w.S w.G H v cx fx ∧ CR T w.S w.G H u cy fy ∧ Fr H w [] ∧
  ((insOf cx = none ∧ rB T .eq v u H Q) ∨ ∃ c fs f t z w2, insOf cx = some (c, fs) ∧ es.lookup c = some f ∧ tyC cy = some t ∧ Ok T H w2 ∧ Ex w.G w2.G ∧ SExt w.S w2.S ∧ CR T w2.S w2.G H u z [] ∧ argC z = true ∧ match cf f [.imm (.ins c fs), z] w2.st with
    | .ok r s3 => match asBool r with
      | some k => ∀ H' w', w'.st = s3 → Step T H w2 H' w' → Q (.bl k) H'
      | none => False
    | .exc x s3 => Exd T H w2 x s3 fun cls d H' => W cls d σ H'
    | .stuck => False)
theorem ops_eqm {es : List (Nat × Nat)} (F : TF T) (hK : T.K = X.K) (hu : X.A.units + 64 < cLine) (hr : Room k X.A) (hx : ∀ σ, PassesAt (L2.CX X.prog X.w) X σ (WE W σ)) (he : ∀ c f, es.lookup c = some f → EqF X T cf k c f) : OpS X (compareOp .Eq) (rEqm T cf W es) := by
  intro pins s σ H x y v u Q I rx ry h
  obtain ⟨w, cx, cy, fx, fy, k0, hcx, hcy, _, h⟩ := h
  rcases h with ⟨_, h⟩ | ⟨c, fs, f, t, z, w2, e1, e2, e3, k2, eG, eS, hz, ha, h⟩
  · exact opr_eq hu hK pins s σ H x y v u Q I rx ry h
  · obtain ⟨⟨C, ns, fa, fd, ps, hT, hfi, hfn, hb, FN⟩, hcl⟩ := he c f e2
    have hcx' : cx = .imm (.ins c fs) := by
      unfold insOf at e1
      split at e1
      · cases e1; rfl
      · cases e1
    subst hcx'
    cases hcx with
    | imm hd =>
    have hd2 := hd.mono eG eS
    cases hd with
    | @ins a C' dx _ ns' gs _ hc h1 hn hds =>
    rw [hT] at hc
    cases hc
    cases (show v = Value.ref a from rx)
    obtain ⟨mA, J, _⟩ := ins_get I.hok (k0.ex _ _ h1)
    obtain ⟨od, J, _⟩ := J.look
    obtain ⟨m, hF⟩ := I.fr
    obtain ⟨vt, t1, t2, t3⟩ := ty_of F k0.ex hcy e3
    rw [hK] at t3
    obtain ⟨P, Z, hP, _⟩ := kit_of I ry t3
    have hlk : PySem.W.Looks (model X.prog X.w) s.heap (typeOf u) vt := Z.ty _ _ I.kIn hP
    have hkit := F.kit (u := .c c) t1 (by simp only [Ty.val, hT]; rfl) t2
    rw [hK] at hkit
    have hnf : PySem.W.notFirst X.K C vt = true := by
      unfold PySem.W.notFirst
      unfold PySem.W.kitOne at hkit
      by_cases hq : (vt == Value.ref C) = true
      · rw [hq]; rfl
      · rw [if_neg hq] at hkit
        have hle : tyLe t (.c c) = false := by
          cases hl : tyLe t (.c c) with
          | false => rfl
          | true =>
            exfalso
            unfold tyLe at hl
            simp only [Bool.or_eq_true, decide_eq_true_eq, Bool.and_eq_true] at hl
            rcases hl with hl | hl
            · subst hl
              simp only [Ty.val, hT, Option.map_some] at t1
              cases t1
              exact hq (beq_self_eq_true _)
            · cases hl.2
        rw [hle] at hkit
        unfold PySem.W.kitCls at hkit
        simp only at hkit
        split at hkit
        · rw [hkit]
          simp
        · cases hkit
    show wpAny (model X.prog X.w) X.A (richCompare .Eq (.ref a) u) (EP X pins σ Q) X.xe s
    refine PySem.W.cmp_K (op := .Eq) (by omega) hF I.ok.mod.kin J hlk hnf hfi hfn ?_
    have r2 : Vals [V.ref a, y] [Value.ref a, u] := .cons rfl (.cons ry .nil)
    have c2 : CRs T w2.S w2.G H [V.ref a, y] [.imm (.ins c fs), z] [] := CRs.cons (f := []) (fs := []) (.imm hd2) (CRs.cons (f := []) (fs := []) hz .nil)
    have sp : spF T cf f 2 [V.ref a, y] H (fun z H' => ∃ k, z = .bl k ∧ Q z H') (WE W σ) := by
      refine ⟨rfl, w2, [.imm (.ins c fs), z], k2, c2, by rw [List.all_cons, List.all_cons, ha]; rfl, ?_⟩
      cases e4 : cf f [.imm (.ins c fs), z] w2.st with
      | ok r s3 =>
        rw [e4] at h
        simp only at h
        cases e5 : asBool r with
        | none => rw [e5] at h; exact h.elim
        | some k =>
          rw [e5] at h
          intro v' H' w' fp hw t c3 fr
          have hr : r = .imm (.bl k) := by
            unfold asBool at e5
            split at e5
            · cases e5; rfl
            · cases e5
          subst hr
          cases c3 with
          | imm hd3 =>
          cases hd3
          exact ⟨k, rfl, h H' w' hw t⟩
      | exc x s3 => rw [e4] at h; exact h
      | stuck => rw [e4] at h; exact h
    refine wpAny_mono (run_fnS (us := [.ref a, u]) FN hr hb (hx σ) I r2 sp) (fun vv s' q => ?_) fun _ _ z => z
    obtain ⟨z, H', I', rz, k, ez, q⟩ := q
    subst ez
    cases rz
    exact ⟨.bl k, H', I', rfl, q⟩
theorem eqm_read {es : List (Nat × Nat)} {ia ib : IE} {σ : L2.St} {H : Hp} {Q : VK} (h : RE T cf W B (.eqm es ia ib) σ H Q) : tOpS (rEqm T cf W es) (RE T cf W B ia) (RE T cf W B ib) σ H Q := by
  obtain ⟨ρ, w, s, h⟩ := h
  refine RE.two (f := fun v u H2 => rEqm T cf W es σ v u H2 Q) s ?_
  simp only [evE] at h
  cases e1 : evE cf ia ρ w.st with
  | stuck => rw [e1] at h; exact h
  | exc x st' => rw [e1] at h; exact h
  | ok x s1 =>
    rw [e1] at h
    simp only at h ⊢
    cases e2 : evE cf ib ρ s1 with
    | stuck => rw [e2] at h; exact h
    | exc x st' => rw [e2] at h; exact h
    | ok y s2 =>
      rw [e2] at h
      simp only at h ⊢
      intro v u H' w' fx fy hw t c1 c2 fr
      refine ⟨w', x, y, fx, fy, t.ok, c1, c2, Fr.nil, ?_⟩
      cases e3 : insOf x with
      | none =>
        rw [e3] at h
        simp only at h
        refine .inl ⟨rfl, ?_⟩
        cases e4 : binC .eq x y with
        | none => rw [e4] at h; exact h.elim
        | some z =>
          rw [e4] at h
          refine ⟨w', x, y, fx, fy, z, t.ok, c1, c2, e4, ?_⟩
          intro v2 H2 w2 fp hw2 t2 c3 f3
          exact h v2 H2 w2 fp (hw2.trans hw) (Step.trans s.ok t t2) c3 (f3.back fun a ha => t.dom s.ok ha)
      | some p =>
        obtain ⟨c, fs⟩ := p
        rw [e3] at h
        simp only at h
        cases e4 : es.lookup c with
        | none => rw [e4] at h; exact h.elim
        | some f =>
          cases e5 : tyC y with
          | none => rw [e4, e5] at h; exact h.elim
          | some ty =>
            cases e6 : passC y with
            | none => rw [e4, e5, e6] at h; exact h.elim
            | some z =>
              rw [e4, e5, e6] at h
              simp only at h
              have c2s : CRs T w'.S w'.G H' [u] [y] (fy ++ []) := .cons c2 .nil
              have fry : Fr H w' (fy ++ []) := by
                rw [List.append_nil]
                exact ⟨(List.nodup_append.mp fr.nd).2.1, fun a ha => fr.nw a (List.mem_append_right _ ha)⟩
              obtain ⟨t2, c3, ha⟩ := pass_step t c2s fry (ys := [z]) (by simp only [passAll, e6])
              have hz : CR T w'.S (frozen w'.G H' (fy ++ [])) H' u z [] := crs_one c3 rfl
              refine .inr ⟨c, fs, f, ty, z, { w' with G := frozen w'.G H' (fy ++ []) }, rfl, e4, rfl, t2.ok, frozen_ex fun a ha => (fry.nw a ha).2.1, SExt.refl _, hz, by simpa using ha, ?_⟩
              subst hw
              cases e7 : cf f [.imm (.ins c fs), z] w'.st with
              | ok r s3 =>
                rw [e7] at h
                simp only at h ⊢
                cases e8 : asBool r with
                | none => rw [e8] at h; exact h.elim
                | some k =>
                  rw [e8] at h
                  intro H2 w2 hw2 t3
                  exact h (.bl k) H2 w2 [] hw2 (Step.trans s.ok t2 t3) (.imm (.bl k)) Fr.nil
              | exc x s3 =>
                rw [e7] at h
                exact h.back s.ok t2
              | stuck => rw [e7] at h; exact h.elim
theorem eqm_bool {es : List (Nat × Nat)} {ia ib : IE} {ρ : Ev} {st s1 : Store} {z : Cell} (e : evE cf (.eqm es ia ib) ρ st = .ok z s1) : ∃ k, z = .imm (.bl k) := by
  simp only [evE] at e
  cases e1 : evE cf ia ρ st with
  | stuck => rw [e1] at e; cases e
  | exc x st' => rw [e1] at e; cases e
  | ok x s2 =>
    rw [e1] at e
    simp only at e
    cases e2 : evE cf ib ρ s2 with
    | stuck => rw [e2] at e; cases e
    | exc x st' => rw [e2] at e; cases e
    | ok y s3 =>
      rw [e2] at e
      simp only at e
      split at e
      · split at e
        · split at e
          · split at e
            · cases e; exact ⟨_, rfl⟩
            · cases e
          · cases e
          · cases e
        · cases e
      · split at e
        · rename_i q
          cases e
          have q' : viaD .eq x y = some z := q
          unfold viaD at q'
          split at q'
          · rw [Option.map_eq_some_iff] at q'
            obtain ⟨d, h1, rfl⟩ := q'
            simp only [bopD, Option.map_eq_some_iff] at h1
            obtain ⟨k, _, rfl⟩ := h1
            exact ⟨k, rfl⟩
          · cases q'
        · cases e
end
end Q

set_option maxRecDepth 100000
set_option maxHeartbeats 1000000
namespace Q
open PySem L2
section
variable {X : Cx} {T : Tabs} {cf : CF} {W : WX} {B : Base} {e a b c o : Expr} {es : List Expr} {pos p apos : Pos} {x m : Str}
/-! ### l.index(x) -/
theorem findIx_ok {f : PyData → Bool} : ∀ {ps : List PyData} {j : Nat}, findIx f ps = some j → ∃ z, ps[j]? = some z ∧ f z = true ∧ ∀ (m : Nat) (z' : PyData), m < j → ps[m]? = some z' → f z' = false
  | [], j, h => by cases h
  | q :: ps, j, h => by
    simp only [findIx] at h
    by_cases hq : f q = true
    · rw [if_pos hq] at h
      cases h
      exact ⟨q, rfl, hq, fun m _ hm => absurd hm (Nat.not_lt_zero _)⟩
    · rw [if_neg hq, Option.map_eq_some_iff] at h
      obtain ⟨i, h1, rfl⟩ := h
      obtain ⟨z, k1, k2, k3⟩ := findIx_ok h1
      refine ⟨z, k1, k2, fun m z' hm hz => ?_⟩
      cases m with
      | zero =>
        cases (Option.some.inj hz : q = z')
        simpa using hq
      | succ m => exact k3 m z' (Nat.lt_of_succ_lt_succ hm) hz
theorem re_index {ia ib : IE} (hK : T.K = X.K) (hp : PE X e (tBM X.K "list" (rIndexD X.K) (RE T cf W B ia) (tCons (RE T cf W B ib) tNil))) : PE X e (RE T cf W B (.index ia ib)) := by
  refine PE.imp hp fun σ H Q h => ?_
  obtain ⟨ρ, w, s, h⟩ := h
  refine RE.one s ?_
  simp only [evE] at h
  cases e1 : evE cf ia ρ w.st with
  | stuck => rw [e1] at h; exact h
  | exc x st' => rw [e1] at h; exact h
  | ok cx s1 =>
    rw [e1] at h
    simp only at h ⊢
    intro v H1 w1 fx hw1 t1 c1 fr1
    cases e4 : datL cx with
    | none => rw [e4] at h; exact h.elim
    | some xs =>
      rw [e4] at h
      simp only at h
      have hdat : cx.dat = some (.lst xs) := by
        unfold datL at e4
        split at e4
        · rename_i q
          cases e4
          exact q
        · cases e4
      have hv1 := c1.dv t1.ok.ex hdat
      have hty : tyV X.K "list" v H1 := by
        cases hv1 with
        | lst h1 _ => exact .inl ⟨rfl, _, SqL.of h1⟩
      refine ⟨hty, ?_⟩
      have s1' := s.step t1
      refine RE.one s1' ?_
      rw [hw1]
      cases e2 : evE cf ib ρ s1 with
      | stuck => rw [e2] at h; exact h
      | exc x st' => rw [e2] at h; exact h.back s.ok t1
      | ok cy s2 =>
        rw [e2] at h
        simp only at h ⊢
        intro u H2 w2 fy hw2 t2 c2 fr2
        cases e3 : indexC xs cy with
        | none => rw [e3] at h; exact h.elim
        | some j =>
          rw [e3] at h
          unfold indexC at e3
          split at e3
          · rename_i b e5
            unfold indexD at e3
            split at e3
            · rename_i ps p z1 z2
              split at e3
              · rename_i hs
                rw [Bool.and_eq_true] at hs
                obtain ⟨z, k1, k2, k3⟩ := findIx_ok e3
                have d1 := ((c1.step t2 fun a ha => (fr1.nw a ha).2.2).dv t2.ok.ex hdat).dp (p := .list ps) (by simp only [D.py, z1])
                have d2 := (c2.dv t2.ok.ex e5).dp z2
                rw [hK] at d1 d2
                cases hv1 with
                | @lst a _ _ _ _ =>
                refine ⟨a, u, p, ps, j, z, rfl, rfl, d1, d2, hs.1, hs.2, k1, k2, k3, ?_⟩
                exact h (.int (j : Nat)) H2 w2 [] hw2 (Step.trans s.ok t1 t2) (.imm (.int _)) Fr.nil
              · cases e3
            · cases e3
          · cases e3
end
end Q

set_option maxRecDepth 100000
set_option maxHeartbeats 1000000
namespace Q
open PySem L2
section
variable {X : Cx} {T : Tabs} {cf : CF} {fu : Nat} {W : WX} {B : Base} {e a b c o : Expr} {es : List Expr} {st : Stmt} {pos p apos : Pos} {x m : Str}
/-! ### l.append(m.pop(k)) -/
theorem CRs.eraseImm {S : List Addr} {G H : Hp} {d : D} : ∀ {vs : List V} {cs : List Cell} {f : List Addr} {j : Nat}, CRs T S G H vs cs f → cs[j]? = some (.imm d) → ∃ v, vs[j]? = some v ∧ DV T S G v d ∧ CRs T S G H (vs.eraseIdx j) (cs.eraseIdx j) f
  | _, _, _, j, .nil, e => by simp at e
  | _, _, _, 0, .cons (f := f) h hs, e => by
    cases (Option.some.inj e : _ = Cell.imm d)
    cases h with
    | imm hd => exact ⟨_, rfl, hd, hs⟩
  | _, _, _, j + 1, .cons (f := f) h hs, e => by
    obtain ⟨v, h1, h2, h3⟩ := CRs.eraseImm (j := j) hs e
    exact ⟨v, h1, h2, .cons h h3⟩
theorem all_erase {cs : List Cell} {j : Nat} (h : cs.all ownable = true) : (cs.eraseIdx j).all ownable = true := by
  rw [List.all_eq_true] at h ⊢
  exact fun q hq => h q (List.mem_of_mem_eraseIdx hq)
theorem rs_apop {i j : Nat} {ie : IE} (hp : ∀ {te : TE}, PE X e te → PS X st (tDrop (tBM X.K "list" rAppend (tVar i) (tCons (tBM X.K "list" rPopAt (tVar j) (tCons te tNil)) tNil)))) (he : PE X e (RE T cf W B ie)) : PS X st (RS T cf fu W B (.apop i j ie)) := by
  refine PS.imp (hp he) fun D σ H h => ?_
  obtain ⟨ρ, w, s, h⟩ := h
  simp only [evS] at h
  cases e0 : ρ[i]? with
  | none => rw [e0] at h; exact h.elim
  | some ci =>
    cases e9 : ρ[j]? with
    | none =>
      rw [e0, e9] at h
      cases ci <;> exact h.elim
    | some cj =>
      rw [e0, e9] at h
      cases ci with
      | own cs =>
        cases cj with
        | own ds =>
          simp only at h
          obtain ⟨v0, fo0, q1, q2, _, _⟩ := s.slot e0 (fun z => nomatch z) (fun _ z => nomatch z)
          obtain ⟨p0, vs0, fs0, rfl, h0, _, _, _⟩ := own_fp q2
          obtain ⟨v9, fo9, r1, r2, _, _⟩ := s.slot e9 (fun z => nomatch z) (fun _ z => nomatch z)
          obtain ⟨p9, vs9, fs9, rfl, h9, _, _, _⟩ := own_fp r2
          refine ⟨_, q1, .inl ⟨rfl, vs0, SqL.of h0⟩, _, r1, .inl ⟨rfl, vs9, SqL.of h9⟩, ?_⟩
          refine RE.one s ?_
          cases e1 : evE cf ie ρ w.st with
          | stuck => rw [e1] at h; exact h
          | exc x st' => rw [e1] at h; exact exc_back s h
          | ok z s1 =>
            rw [e1] at h
            cases z with
            | imm dz =>
              cases dz with
              | int k =>
                simp only at h ⊢
                intro v H' w' fx hw t c1 fr
                cases c1 with
                | imm hdz =>
                cases hdz
                cases e2 : ixOf ds.length k with
                | none => rw [e2] at h; exact h.elim
                | some m =>
                  rw [e2] at h
                  simp only at h
                  cases e3 : ds[m]? with
                  | none => rw [e3] at h; exact h.elim
                  | some cm =>
                    rw [e3] at h
                    cases cm with
                    | imm d =>
                      simp only at h
                      by_cases ho : ((i != j) && rngOk k && small cs.length) = true
                      · rw [if_pos ho] at h
                        simp only [Bool.and_eq_true, bne_iff_ne] at ho
                        obtain ⟨⟨hij, hrk⟩, hsm⟩ := ho
                        -- the one list gives
                        obtain ⟨vj, fo, k1, k2, k3, k4, k5⟩ := s.slot2 t e9 (fun z => nomatch z) (fun _ z => nomatch z)
                        rw [r1] at k1
                        cases k1
                        obtain ⟨pj, us, gs, hpe, g1, g2, rfl, g4⟩ := own_fp k2
                        cases hpe
                        have hnd := List.nodup_cons.mp k3.nd
                        obtain ⟨y, y1, y2, y3⟩ := CRs.eraseImm g2 e3
                        have hs2 := k5 p9 (.lst (us.eraseIdx m)) (.own (ds.eraseIdx m)) (p9 :: gs) List.mem_cons_self (hd_own rfl) (.own upd_same (y3.upd (all_erase g4) hnd.1) (all_erase g4)) k3 fun a ha => .inl ha
                        have hb : -(2 ^ 62) ≤ k ∧ k < 2 ^ 62 := of_decide_eq_true hrk
                        have hsq := (ixN_seq (show ixN us.length k = some m by rw [g2.length]; exact e2)).1
                        refine ⟨p9, us, k, m, y, rfl, rfl, g1, by omega, by omega, hsq, y1, ?_⟩
                        -- the other one takes
                        have e0' : (ρ.set j (.own (ds.eraseIdx m)))[i]? = some (.own cs) := by rw [List.getElem?_set_ne (Ne.symm hij)]; exact e0
                        obtain ⟨vi, fi, m1, m2, m3, m4, m5⟩ := hs2.slot2 (Step.refl hs2.ok) e0' (fun z => nomatch z) (fun _ z => nomatch z)
                        rw [q1] at m1
                        cases m1
                        obtain ⟨pi, ws, ts, hpe, n1, n2, rfl, n4⟩ := own_fp m2
                        cases hpe
                        have hnd2 := List.nodup_cons.mp m3.nd
                        have hl : ws.length < sizeLine := by
                          rw [n2.length]
                          have := of_decide_eq_true hsm
                          rw [sizeLine_eq]; omega
                        refine ⟨p0, ws, y, rfl, rfl, n1, hl, ?_⟩
                        refine h σ _ w' hw (m5 p0 (.lst (ws ++ [y])) (.own (cs ++ [.imm d])) (p0 :: ts) List.mem_cons_self (hd_own rfl) ?_ m3 fun a ha => .inl ha)
                        refine .own upd_same ?_ (by rw [List.all_append, n4]; rfl)
                        have q := (n2.upd (p := p0) (o := .lst (ws ++ [y])) n4 hnd2.1).append (CRs.cons (f := []) (fs := []) (.imm y2) .nil)
                        simp only [List.append_nil] at q
                        exact q
                      · rw [if_neg ho] at h
                        exact h.elim
                    | undef => exact h.elim
                    | own _ => exact h.elim
                    | bor _ => exact h.elim
                    | obj _ _ => exact h.elim
              | _ => exact h.elim
            | _ => exact h.elim
        | undef => exact h.elim
        | imm _ => exact h.elim
        | bor _ => exact h.elim
        | obj _ _ => exact h.elim
      | undef => exact h.elim
      | imm _ => exact h.elim
      | bor _ => exact h.elim
      | obj _ _ => exact h.elim
end
end Q

set_option maxRecDepth 100000
set_option maxHeartbeats 1000000
namespace Q
open PySem L2 PySem.Spec PyProof.Rows PySem.W PySem.Calls
/-! an own exception over ValueError whose __init__ says super().__init__(e); self.f = x -/
-- a def that closes over its class
structure FunC (K : Frag) (x qual : Str) (st : Stmt) (f : Addr) (fd : FuncData) (cc : Addr) : Prop where
  ex : ∃ (oc : Value) (od : Option Addr) (kV doc pm : Value) (an : Option Addr) (cdv ct : Value) (osl : Array (Option Value)),
    fd = ksFn x qual (defArgs st) (defBody st) (defScope st) .none kV doc pm an cdv ct cc ∧ K.lookup f = some ⟨oc, od, .func fd, osl⟩ ∧ codeIn K cdv qual = true
  kp : keepIn K (.ref f) = true
-- what super() asks of the written part
structure SupF (P : Program) (K : Frag) (C : Addr) (fd : FuncData) (cc : Addr) : Prop where
  code : ∃ (cda : Addr) (ccl : Value) (cdd : Option Addr) (vs : Array Value) (ccs : Array (Option Value)) (file : Str) (tf : Tok), fd.code = .ref cda ∧ K.lookup cda = some ⟨ccl, cdd, .fields vs, ccs⟩ ∧ vs[2]? = some (.str file tf) ∧ ((P.main.file : Str) == file) = true
  cell : ∃ (cl : Value) (cld : Option Addr) (csl : Array (Option Value)), K.lookup cc = some ⟨cl, cld, .cell (some (.ref C)), csl⟩
  sub : mroIn K C (.ref C) = some true
  subV : subIn K (.ref C) (.type "ValueError") = some true
  sup : nsIn K mainGlobals "super" = some none
  top : (P.main.scope.names.lookup ("super" : Str)).isSome = false
  opq : nsIn K cStatics "thirdparty.any" = some none
  res : ks_superIn K C C "__init__" = some (some (.builtin "ValueError.__init__"))
-- the context of such a def's body
def cxC (cc : Addr) (CX : CXT) (P : Program) (w : World) (K : Frag) (mg : Str → Option Value) (base : Heap) (N : List Str) (qual : Str) (scope : Scope) (f : Addr) (cd : Value) (A : Around) (outer : List Env) (s : Shared) (H : Hp) (E : XK) : Cx where
  prog := P
  w := w
  K := K
  mg := mg
  base := base
  A := A.deeper (ksEnv qual scope s.heap.objs.size f cd cc)
  N := N
  s_0 := s
  H_0 := H
  env := ksEnv qual scope s.heap.objs.size f cd cc
  outer := outer
  stack := ksEnv qual scope s.heap.objs.size f cd cc :: outer
  ex := []
  calm := true
  fn := fun _ => false
  pn := []
  xe := fun e s' => wpAny (model P w) (A.deeper (ksEnv qual scope s.heap.objs.size f cd cc)) (leaving (ksEnv qual scope s.heap.objs.size f cd cc) e) (fun _ s'' => CX outer H s E e s'') (fun e' s'' => CX outer H s E e' s'') s'
section
variable {CX : CXT} {P : Program} {w : World} {K : Frag} {mg : Str → Option Value} {base : Heap} {ps : List Str} {qual : Str} {scope : Scope} {f cc : Addr} {cd : Value} {A : Around} {outer : List Env} {s : Shared} {H : Hp} {E : XK} {us : List Value} {vs : List V}
theorem rev_lookup {x : Str} {u : Value} : ∀ {ps : List Str} {us : List Value} {i : Nat}, ps.Nodup → ps[i]? = some x → us[i]? = some u → (ps.zip us).reverse.lookup x = some u := by
  intro ps us i nd h1 h2
  have key : ∀ (l : List (Str × Value)), (x, u) ∈ l → (∀ p ∈ l, p.1 = x → p.2 = u) → l.lookup x = some u := by
    intro l
    induction l with
    | nil => intro h; cases h
    | cons p l ih =>
      intro h hu
      obtain ⟨y, v⟩ := p
      by_cases e : x = y
      · subst e
        have := hu (x, v) List.mem_cons_self rfl
        have e2 : v = u := this
        rw [e2]
        simp [List.lookup]
      · have e' : (x == y) = false := by simpa using e
        simp only [List.lookup, e']
        rcases List.mem_cons.mp h with z | z
        · exact absurd (congrArg Prod.fst z) e
        · exact ih z fun p hp => hu p (List.mem_cons_of_mem _ hp)
  refine key _ (List.mem_reverse.mpr ?_) fun p hp e => ?_
  · refine List.mem_iff_getElem?.mpr ⟨i, ?_⟩
    rw [List.getElem?_zip_eq_some]
    exact ⟨h1, h2⟩
  · obtain ⟨j, hj⟩ := List.mem_iff_getElem?.mp (List.mem_reverse.mp hp)
    obtain ⟨y, v⟩ := p
    rw [List.getElem?_zip_eq_some] at hj
    obtain ⟨j1, j2⟩ := hj
    dsimp only at e j1 j2
    subst e
    have : i = j := (List.getElem?_inj (List.getElem?_eq_some_iff.mp h1).1 nd).mp (h1.trans j1.symm)
    subst this
    rw [h2] at j2
    exact (Option.some.inj j2).symm
theorem inv_startC {h₁ : Heap} {tk : Nat} (hk : scope.kind = .function) (hnc : ∀ x ∈ scope.names, x.2 ≠ .cell) (hfr : ∀ x, scope.names.lookup x = some .free → x = "__class__") (nd : ps.Nodup) (hpl : ∀ x ∈ ps, scope.names.lookup x = some .local)
    (hd : A.handled = none) (e0 : Env0 P w K mg base A outer s H) (hl : vs.length = ps.length) (r : Vals vs us) (hcc : ∃ ob v, K.lookup cc = some ob ∧ ob.data = .cell v)
    (hns : h₁.Ns s.heap.objs.size (fun x => (ps.zip us).reverse.lookup x)) (kk : ∀ b o, s.heap.get? b = some o → h₁.get? b = some o) :
    Inv (cxC cc CX P w K mg base ps qual scope f cd A outer s H E) [] (vs.map some) H { s with heap := h₁, toks := tk } := by
  have noA : ∀ b : Addr, b ∉ (cxC cc CX P w K mg base ps qual scope f cd A outer s H E).ex := fun b z => absurd (show b ∈ ([] : List Addr) from z) (by simp)
  have KX : K.In s.heap := e0.mod.kin.keeps fun b o e => (e0.bs b o e).1
  obtain ⟨ob, cv, hcc, hcd⟩ := hcc
  have one : ∀ {x : Str} {c : Addr}, (cxC cc CX P w K mg base ps qual scope f cd A outer s H E).env.cells.lookup x = some c → x = "__class__" ∧ c = cc := fun {x c} h => by
    have h' : ([(("__class__" : Str), cc)] : List (Str × Addr)).lookup x = some c := h
    by_cases e : x = "__class__"
    · subst e
      simp only [List.lookup, beq_self_eq_true] at h'
      exact ⟨rfl, (Option.some.inj h').symm⟩
    · have e' : (x == ("__class__" : Str)) = false := by simpa using e
      simp only [List.lookup, e'] at h'
      cases h'
  have Hcc : H cc = none := (e0.bs cc ob (e0.mod.kin _ _ hcc)).2
  refine ⟨⟨e0.mod, hk, rfl, rfl, Nat.le_refl _, fun y z c h1 h2 => (one h1).1.trans (one h2).1.symm, fun y hy => ?_, fun y c z => (by cases z), fun _ => hd, Around.frames_deeper e0.frames, .inr ⟨rfl, rfl⟩, fun b z => absurd z (noA b), e0.bs, e0.bsz, fun b _ _ => noA b, fun b z => absurd z (noA b), e0.funs, e0.frf⟩,
    rfl, e0.bare, Un.kept kk, ⟨_, hns, fun i y v h1 h2 h3 => ?_⟩, fun y c h => ?_, e0.hok.fresh (Nat.le_refl _), fun y c h => ?_, fun p hp => absurd (show p ∈ ([] : List (Addr × Obj)) from hp) (by simp), e0.hok.kept kk, ?_⟩
  · have hy : scope.names.lookup y = some .cell ∨ scope.names.lookup y = some .free := hy
    rcases hy with hy | hy
    · exact absurd rfl (hnc _ (PySem.mem_of_lookup hy))
    · rw [hfr y hy]
      exact ⟨cc, rfl⟩
  · rw [List.getElem?_map] at h2
    cases e : vs[i]? with
    | none => rw [e] at h2; cases h2
    | some a =>
      rw [e] at h2
      cases h2
      obtain ⟨u, hu, rv⟩ := r.get e
      exact ⟨u, rv, .inl ⟨hpl y (List.mem_of_getElem? h1), rev_lookup nd h1 hu⟩⟩
  · rw [(one h).2]
    exact ⟨cv, ob, kk _ _ (KX _ _ hcc), hcd⟩
  · rw [(one h).2]
    exact Hcc
  · rw [List.length_map]
    exact hl
end
-- what the __init__ promises: the exception has got its dict, with one name
def spX (C : Addr) (n : Str) : Sp := fun vs H Q _ => ∃ (a : Addr) (v : V), vs = [.ref a, v] ∧ H a = some (exo a C none) ∧ ∀ dx, H dx = none → dx ≠ a → Q .non (upd (upd H dx (exd dx [(n, v)])) a (exo a C (some dx)))
-- its shape
inductive ExBody (sN q n : Str) : List Stmt → Prop where
  | var {p0 p1 p2 p3 p4 p5 p6 p7 p8 p9 p10 : Pos} (h : (p2.endLine == p4.line) = true) : ExBody sN q n [.Expr (.Call (.Attribute (.Call (.Name "super" p0) [] [] p1) "__init__" p2) [.Name q p3] [] p4) p5, .Assign [.Attribute (.Name sN p6) n p7] (.Name q p8) p9]
  | str {p0 p1 p2 p3 p4 p5 p6 p7 p8 p9 p10 : Pos} {m : Str} {j : Nat} (h : (p2.endLine == p4.line) = true) : ExBody sN q n [.Expr (.Call (.Attribute (.Call (.Name "super" p0) [] [] p1) "__init__" p2) [.Constant (.str m) j p3] [] p4) p5, .Assign [.Attribute (.Name sN p6) n p7] (.Name q p8) p9]
structure ExSt (sN q n : Str) (st : Stmt) : Prop where
  body : ExBody sN q n (defBody st)
  kind : (defScope st).kind = .function
  co : (defScope st).isCoroutine = false
  gen : (defScope st).isGenerator = false
  nc : ∀ x ∈ (defScope st).names, x.2 ≠ .cell
  fr : ∀ x, (defScope st).names.lookup x = some .free → x = "__class__"
  ls : (defScope st).names.lookup sN = some .local
  lq : (defScope st).names.lookup q = some .local
  lsup : (defScope st).names.lookup ("super" : Str) = some .globalImplicit
  lcl : (defScope st).names.lookup ("__class__" : Str) = some .free
  ne : sN ≠ q
  arg : ∃ ar : Arg, ((defArgs st).posonlyargs ++ (defArgs st).args).head? = some ar ∧ ar.arg = sN
  nds : (sN == ("__debug__" : Str)) = false ∧ (sN == ("__classdict__" : Str)) = false ∧ (q == ("__debug__" : Str)) = false ∧ (q == ("__classdict__" : Str)) = false
section
variable {prog : Program} {w : World} {M : Model} {A : Around} {h : Heap} {g : Array GenState} {d : Drawn} {t : Nat} {os : OsState} {E : Value → Shared → Prop}
/-- the bound ValueError.__init__ called -/
theorem call_mw {nm q : Str} {C N : Addr} {bs bm : List Value} {hdct : Bool} {sn : List Str} {sub : List Value} {ab : Bool} {col : Option Bool} {dd : Option Addr} {k0 k1 k2 k3 k5 : Option Value} {u e t0 : Addr} {rest : List Value} {Q : Value → Shared → Prop}
    (hC : h.get? C = some (excClassObj nm q C N bs bm hdct sn sub ab col dd k0 k1 k2 k3 k5 "ValueError.__new__")) (he : h.get? e = some (excRec (.ref C) t0 none .none .none (.bool false))) (hu : h.get? u = some (kxs_mw "ValueError.__init__" e)) (hrest : rest.length ≤ sizeLine)
    (hq : ∀ h' t1, (∀ b o, b ≠ e → h.get? b = some o → h'.get? b = some o) → h'.get? e = some (excRec (.ref C) t1 none .none .none (.bool false)) → Q .none ⟨h', g, d, t, os⟩) :
    wpAny (model prog w) A (call (.ref u) rest) Q E ⟨h, g, d, t, os⟩ := by
  have FB := PySem.F.excBase_ValueError
  refine wpAny_call (codeAny_of_tree ?_)
  show wpAny _ A.in1 (callAny (.ref u) ⟨rest, []⟩) _ _ _
  simp only [callAny]
  refine wpAny_bind (wpAny_load hu ?_)
  simp only [kxs_mw, show (Value.type "method-wrapper" == Value.type "method" || Value.type "method-wrapper" == Value.type "builtin_function_or_method" || Value.type "method-wrapper" == Value.type "method-wrapper") = true by decide, if_true]
  refine KFB.if_so (by decide) ?_
  refine wpAny_bind (check_bound_init FB.toExcCallFacts hC he rfl ?_)
  refine wpAny_bind (wpAny_pure (wpAny_pure ?_))
  refine ⟨plainId_quiet FB.init.plain _, codeAny_builtin FB.initEntry ?_⟩
  exact exc_init_tree (cls := .ref C) (t0 := t0) (dv := none) (c2 := .none) (c3 := .none) (b4 := .bool false) he hrest fun h' k e' t' => hq h' _ k e'
end
theorem ev_sup {p0 p1 p2 p4 : Pos} {q : Str} {e : Expr} {env : Env} (he : (∃ p, e = .Name q p) ∨ ∃ m j p, e = .Constant (.str m) j p) (hp : (p2.endLine == p4.line) = true) : ∃ pl : Sem Bool, eval (.Call (.Attribute (.Call (.Name "super" p0) [] [] p1) "__init__" p2) [e] [] p4) env = (do
        let ov ← attributeBase (.Call (.Name "super" p0) [] [] p1) "__init__" env (eval (.Call (.Name "super" p0) [] [] p1) env)
        standAt p2.atName
        let (f', first) ← holding [ov] (getMethod ov "__init__" pl)
        callWith p4 f' first (backTo p4 (starEach [e] env)) []) := by
  refine ⟨(do let b ← importBound (.Call (.Name "super" p0) [] [] p1) env; pure (b.getD true)), ?_⟩
  have h1 : eval (.Call (.Attribute (.Call (.Name "super" p0) [] [] p1) "__init__" p2) [e] [] p4) env = (do
        let ov ← attributeBase (.Call (.Name "super" p0) [] [] p1) "__init__" env (eval (.Call (.Name "super" p0) [] [] p1) env)
        standAt p2.atName
        methodCall (.Call (.Name "super" p0) [] [] p1) "__init__" p2 p4 env ov 1 (backTo p4 (starEach [e] env)) []) := by
    rcases he with ⟨p, rfl⟩ | ⟨m, j, p, rfl⟩ <;> rfl
  have h2 : methodCallForm 1 (backTo p4 (starEach [e] env)) [] = true := by
    rcases he with ⟨p, rfl⟩ | ⟨m, j, p, rfl⟩ <;> rfl
  rw [h1]
  unfold methodCall calleeOf methodCallPos
  simp only [h2, hp, Bool.or_true, Bool.not_true, if_true, pure_bind]
section
variable {CX : CXT} {P : Program} {w : World} {K : Frag} {mg : Str → Option Value} {base : Heap} {qual sN q n : Str} {f cc C : Addr} {fd : FuncData} {st : Stmt} {k : Nat}
theorem pa_arg {X : Cx} {sN q n : Str} {v0 v1 : V} {e : Expr} (hN : X.N = [sN, q]) (hv : Vis X.env.scope q) (hd : (q == ("__debug__" : Str)) = false) (hd2 : (q == ("__classdict__" : Str)) = false) (he : (∃ p, e = .Name q p) ∨ ∃ m j p, e = .Constant (.str m) j p) :
    ∃ te : TE, PE X e te ∧ ∀ (H : Hp) (Q : VK), (∀ v, Q v H) → te [some v0, some v1] H Q := by
  rcases he with ⟨p, rfl⟩ | ⟨m, j, p, rfl⟩
  · exact ⟨_, pe_var (i := 1) (by rw [hN]; rfl) hv hd hd2, fun H Q h => ⟨v1, rfl, h v1⟩⟩
  · exact ⟨_, pe_str, fun H Q h => h _⟩
theorem exinit_ok (F : FunC K "__init__" qual st f fd cc) (SF : SupF P K C fd cc) (S : ExSt sN q n st) (T : OexC K C) (hno : findIn K (.ref C) n = some none) : FnOk P w K mg base CX k f fd [sN, q] (spX C n) := by
  obtain ⟨oc, od, kV, doc, pm, an, cdv, ct, osl, rfl, lk, hcd⟩ := F.ex
  obtain ⟨cda, ccl, cdd, cvs, ccs, file, tf, hcode, hck, hv2, hfile⟩ := SF.code
  obtain ⟨cl, cld, csl, hcell⟩ := SF.cell
  have hcode' : cdv = .ref cda := hcode
  subst hcode'
  refine ⟨fun vs H Q E h => ?_, fun A outer s H args us vs Q E hr e0 hb r hsp => ?_⟩
  · obtain ⟨a, v, rfl, _⟩ := h
    rfl
  obtain ⟨a, v, rfl, Ha, hq⟩ := hsp
  have KX : K.In s.heap := e0.mod.kin.keeps fun b o e => (e0.bs b o e).1
  have lim : s.heap.NoLimit := e0.mod.nolimit.keeps fun b o e => (e0.bs b o e).1
  obtain ⟨n1, n2, n3, n4⟩ := S.nds
  have nd : [sN, q].Nodup := List.nodup_cons.mpr ⟨fun z => S.ne (List.mem_singleton.mp z), List.nodup_cons.mpr ⟨(fun z => nomatch z), List.nodup_nil⟩⟩
  have hpl : ∀ x ∈ [sN, q], (defScope st).names.lookup x = some .local := fun x hx => by
    rcases List.mem_cons.mp hx with rfl | hx
    · exact S.ls
    · rw [List.mem_singleton.mp hx]
      exact S.lq
  refine ks_codeAny_call_defAt (fd := ksFn "__init__" qual (defArgs st) (defBody st) (defScope st) .none kV doc pm an (.ref cda) ct cc) hr.depth (KX _ _ lk) rfl lim (codeRec_of KX hcd) rfl hb S.nc (fun y hy => hpl y.1 (List.of_mem_zip hy).1) (fun h₁ hns kk => ?_) S.co S.gen S.kind
  have I : Inv (cxC cc CX P w K mg base [sN, q] qual (defScope st) f (.ref cda) A outer s H E) [] ([V.ref a, v].map some) H { s with heap := h₁, toks := s.toks + ([sN, q].zip us).length } :=
    inv_startC S.kind S.nc S.fr nd hpl hr.hd e0 rfl r ⟨_, _, hcell, rfl⟩ hns kk
  obtain ⟨nm, qn, N, bs, bm, sn, sub, ab, col, dd, k0, k1, k2, k3, k5, hCl, hbm⟩ := T.cls
  have hcd2 : clsIn K C = some { name := nm, bases := bs, mro := .ref C :: bm, ns := N, qualname := qn, hasDict := true, slotNames := sn, subclasses := sub, abstract := ab, collection := col, hasDel := false } := by unfold clsIn; rw [hCl] <;> rfl
  obtain ⟨u0, hu0, r0⟩ := r.get (show ([V.ref a, v] : List V)[0]? = some (V.ref a) from rfl)
  obtain rfl : u0 = Value.ref a := r0
  have hm0 : ([sN, q].zip us).reverse.lookup sN = some (.ref a) := rev_lookup (i := 0) nd rfl hu0
  obtain ⟨ar, har, harn⟩ := S.arg
  have hbody := S.body
  -- the first statement
  have first : ∀ {e : Expr} {p0 p1 p2 p4 p5 : Pos} {rest : List Stmt} {Q : Flow → Shared → Prop}, (p2.endLine == p4.line) = true → ((∃ p, e = .Name q p) ∨ ∃ m j p, e = .Constant (.str m) j p) →
      (∀ s', Inv (cxC cc CX P w K mg base [sN, q] qual (defScope st) f (.ref cda) A outer s H E) [] ([V.ref a, v].map some) H s' → wpAny (model P w) (A.deeper (ksEnv qual (defScope st) s.heap.objs.size f (.ref cda) cc)) (execs rest (ksEnv qual (defScope st) s.heap.objs.size f (.ref cda) cc)) Q
        (cxC cc CX P w K mg base [sN, q] qual (defScope st) f (.ref cda) A outer s H E).xe s') →
      _root_.PySem.wpAt (model P w) (A.deeper (ksEnv qual (defScope st) s.heap.objs.size f (.ref cda) cc)) (.func (.Expr (.Call (.Attribute (.Call (.Name "super" p0) [] [] p1) "__init__" p2) [e] [] p4) p5 :: rest) (ksEnv qual (defScope st) s.heap.objs.size f (.ref cda) cc))
        (execs (.Expr (.Call (.Attribute (.Call (.Name "super" p0) [] [] p1) "__init__" p2) [e] [] p4) p5 :: rest) (ksEnv qual (defScope st) s.heap.objs.size f (.ref cda) cc)) Q (cxC cc CX P w K mg base [sN, q] qual (defScope st) f (.ref cda) A outer s H E).xe { s with heap := h₁, toks := s.toks + ([sN, q].zip us).length } := by
    intro e p0 p1 p2 p4 p5 rest Q hpp he hnext
    obtain ⟨te, hte, hval⟩ := pa_arg (X := cxC cc CX P w K mg base [sN, q] qual (defScope st) f (.ref cda) A outer s H E) (sN := sN) (q := q) (n := n) (v0 := .ref a) (v1 := v) rfl (.inl S.lq) n3 n4 he
    refine ks_wpAt_execs_cons (ks_wpAt_Expr_any ?_ (by simp [interactive, S.kind]) (by rcases he with ⟨p, rfl⟩ | ⟨m, j, p, rfl⟩ <;> rfl))
    obtain ⟨pl, hcall⟩ := ev_sup (q := q) (env := ksEnv qual (defScope st) s.heap.objs.size f (.ref cda) cc) (p0 := p0) (p1 := p1) he hpp
    refine ks_wpAt_MethodCall (pl := pl) ?_ hcall
    refine ks_wpAt_super_base (env := ksEnv qual (defScope st) s.heap.objs.size f (.ref cda) cc) S.lsup S.lcl (by decide) rfl (I.kIn _ _ lk) rfl har rfl (I.kIn _ _ hck) rfl hv2 hfile SF.top ?_
    obtain ⟨mb, b1, b2⟩ := e0.mod.blt
    have hmg : mg "super" = none := by
      have := PySem.W.mg_none_of e0.mod.kin e0.mod.glob SF.sup
      exact this
    refine ks_loadName_global S.kind S.lsup (loadGlobal_builtin (env := ksEnv qual (defScope st) s.heap.objs.size f (.ref cda) cc) (e0.mod.glob.keeps I.bk) hmg (b1.keeps I.bk) ((b2 _ (by decide)).trans (show bootBuiltins "super" = some (.type "super") by first | boot_by_name | rfl | kernel_rfl)) ⟨rfl, ?_⟩)
    refine wpAny_loadName_free S.kind S.lcl rfl ⟨_, I.kIn _ _ hcell, rfl⟩ ?_
    refine wpAny_loadName_local S.kind (by rw [harn]; exact S.ls) hns (by rw [harn]; exact hm0) ?_
    obtain ⟨t0, hea⟩ := exo_at I.hok Ha
    obtain ⟨oD, hD1, hD2⟩ : ∃ oD, h₁.get? C = some oD ∧ oD.data = .cls _ := ⟨_, I.kIn _ _ hCl, rfl⟩
    refine ks_wpAny_isType_cls hD1 hD2 ⟨rfl, ?_⟩
    refine ks_wpAny_call_super hD1 hD2 hea rfl (fun c z => nomatch z) (looks_mroIn I.kIn SF.sub) (fun h2 e2 k2 => ?_)
    have J2 := I.kept (h' := h2) (t' := s.toks + ([sN, q].zip us).length) k2
    have hea2 := k2 _ _ hea
    have I2 : InstAt h2 a (excRec (.ref C) t0 none .none .none (.bool false)) C none := ⟨hea2, rfl, rfl, trivial⟩
    have hI : Looks (model P w) h2 (isInstance (.ref a) (.type "ValueError")) true := I2.type.andThen (looks_subIn J2.kIn SF.subV)
    have hmr : Looks (model P w) h2 (mroOf (.ref C)) (.ref C :: bm) := (looks_clsIn J2.kIn hcd2).andThen .now
    have hres := SF.res
    unfold ks_superIn at hres
    rw [hcd2] at hres
    refine kxs_getMethod kxs_ValueError e2 (looks_opaque J2.kIn SF.opq) hmr rfl J2.kIn hres hI (fun z => ?_) (by decide) ?_
    · rw [z] at hea2
      have := J2.kIn _ _ hCl
      rw [hea2] at this
      cases this
    have k3 : ∀ b o, h2.get? b = some o → (h2.push (kxs_mw "ValueError.__init__" a)).get? b = some o := fun b o e => Heap.get?_push_of_some _ e
    have J3 := J2.kept (h' := h2.push (kxs_mw "ValueError.__init__" a)) (t' := s.toks + ([sN, q].zip us).length + 1) k3
    have hu3 : (h2.push (kxs_mw "ValueError.__init__" a)).get? h2.objs.size = some (kxs_mw "ValueError.__init__" a) := Heap.get?_push_at rfl rfl
    have J4 := J3.pins_of (pins' := [(h2.objs.size, kxs_mw "ValueError.__init__" a)]) fun p hp => by
      rw [List.mem_singleton.mp hp]
      exact ⟨hu3, J2.hok.fresh (Nat.le_refl _), Nat.ne_of_gt J2.lt, J2.nofs (Nat.le_refl _), fun v z => nomatch z⟩
    have hst : starEach [e] (ksEnv qual (defScope st) s.heap.objs.size f (.ref cda) cc) = (false, eval e (ksEnv qual (defScope st) s.heap.objs.size f (.ref cda) cc)) :: starEach [] (ksEnv qual (defScope st) s.heap.objs.size f (.ref cda) cc) := by
      rcases he with ⟨p, rfl⟩ | ⟨m, j, p, rfl⟩ <;> rfl
    have hPA : PA (cxC cc CX P w K mg base [sN, q] qual (defScope st) f (.ref cda) A outer s H E) [e] (tCons te tNil) := pa_cons hte pa_nil hst
    refine kxs_callWith (i := "ValueError.__init__") (x := a) (by rw [hst]; rfl) ?_
    rw [hst]
    refine evalArgs_plain ?_
    have hrun := hPA.run p4 _ _ _ H (fun ws H5 => ws.length = 1 ∧ H5 = H) J4 (hval H _ fun v' => ⟨rfl, rfl⟩)
    rw [show starEach [e] (cxC cc CX P w K mg base [sN, q] qual (defScope st) f (.ref cda) A outer s H E).env = _ from hst] at hrun
    refine thn hrun fun ws s5 ⟨xs, H5, J5, rx, e5⟩ => ?_
    obtain ⟨l5, rfl⟩ := e5
    have hu5 := (J5.pin _ (List.mem_append_right _ List.mem_cons_self)).1
    refine ⟨hu5, ?_⟩
    obtain ⟨t5, he5⟩ := exo_at J5.hok Ha
    obtain ⟨hp5, g5, d5, tk5, os5⟩ := s5
    show wpAny _ _ (call (.ref h2.objs.size) ([] ++ ws)) _ _ _
    refine call_mw (J5.kIn _ _ hCl) he5 hu5 (by rw [List.nil_append, ← rx.length, l5, sizeLine_eq]; decide) fun h6 t6 k6 e6 => ?_
    have J6 := J5.write (t' := tk5) (x := a) (e := a) (o := exo a C none) (by rw [Ha]; exact True.intro) (.inl rfl) k6 ⟨_, e6⟩ (exo_ok e6)
    have eu : upd H5 a (exo a C none) = H5 := by
      funext b
      by_cases hb : b = a
      · rw [hb, upd_same, Ha]
      · exact upd_ne hb
    rw [eu] at J6
    exact wpAt_of_wpAny (hnext _ (J6.pins_of fun p hp => nomatch hp))
  -- the second one, and the end
  have second : ∀ {p6 p7 p8 p9 : Pos} (s' : Shared), Inv (cxC cc CX P w K mg base [sN, q] qual (defScope st) f (.ref cda) A outer s H E) [] ([V.ref a, v].map some) H s' →
      wpAny (model P w) (A.deeper (ksEnv qual (defScope st) s.heap.objs.size f (.ref cda) cc)) (execs [.Assign [.Attribute (.Name sN p6) n p7] (.Name q p8) p9] (ksEnv qual (defScope st) s.heap.objs.size f (.ref cda) cc))
        (fun f' s' => L2.CR CX outer P w H s Q E (.ok (.ret (match f' with | .ret v => v | _ => .none))) s') (cxC cc CX P w K mg base [sN, q] qual (defScope st) f (.ref cda) A outer s H E).xe s' := by
    intro p6 p7 p8 p9 s' J
    have hP : PSs (cxC cc CX P w K mg base [sN, q] qual (defScope st) f (.ref cda) A outer s H E) [.Assign [.Attribute (.Name sN p6) n p7] (.Name q p8) p9] _ := pss_one (ps_ost (pe_var (i := 0) rfl (.inl S.ls) n1 n2) (pe_var (i := 1) rfl (.inl S.lq) n3 n4))
    refine wpAny_mono (hP.run [] s' _ H { nx := fun _ H' => Q .non H', rt := Q } J ?_) (fun fl s7 hs => ?_) fun e s7 hs => hs
    · exact ⟨v, rfl, V.ref a, rfl, a, C, rfl, T, hno, .inl ⟨Ha, fun dx z1 z2 => hq dx z1 z2⟩⟩
    · cases fl with
      | next =>
        obtain ⟨σ', H', J', q'⟩ := hs
        exact ⟨V.non, H', J'.os, J'.bare, J'.base, J'.hok, rfl, q'⟩
      | ret u =>
        obtain ⟨v', σ', H', J', rv, q'⟩ := hs
        exact ⟨v', H', J'.os, J'.bare, J'.base, J'.hok, rv, q'⟩
      | brk =>
        obtain ⟨_, _, _, q'⟩ := hs
        exact q'.elim
      | cont =>
        obtain ⟨_, _, _, q'⟩ := hs
        exact q'.elim
  show _root_.PySem.wpAt (model P w) (A.deeper (ksEnv qual (defScope st) s.heap.objs.size f (.ref cda) cc)) (.func (defBody st) (ksEnv qual (defScope st) s.heap.objs.size f (.ref cda) cc)) (execs (defBody st) (ksEnv qual (defScope st) s.heap.objs.size f (.ref cda) cc)) _ _ _
  generalize defBody st = bd at hbody
  cases hbody with
  | var hp => exact first hp (.inl ⟨_, rfl⟩) second
  | str hp => exact first hp (.inr ⟨_, _, _, rfl⟩) second
end
end Q

set_option maxRecDepth 100000
set_option maxHeartbeats 1000000
namespace Q
open PySem L2 PySem.Spec PyProof.Rows
/-! ### raise C(e): the class keeps e under one name -/
section
variable {X : Cx} {T : Tabs} {cf : CF} {fu : Nat} {W : WX} {B : Base} {es : List Expr} {st : Stmt}
theorem rs_raise1 {C : Addr} {k : Nat} {n : Str} {as : IE} (hT : T.exc k = some (C, [n])) (hp : ∀ {ta : TA}, PA X es ta → PS X st (fun _ σ H => tMkO C (spX C n) [] ta σ H fun cls d H' => W cls d σ H')) (ha : PA X es (RA T cf W B as)) : PS X st (RS T cf fu W B (.raise k as)) := by
  refine PS.imp (hp ha) fun D σ H h => ?_
  obtain ⟨ρ, w, s, h⟩ := h
  refine ⟨ρ, w, s, ?_⟩
  simp only [evS] at h
  cases e1 : evE cf as ρ w.st with
  | stuck => rw [e1] at h; exact h
  | exc x st' => rw [e1] at h; exact exc_back s h
  | ok x s1 =>
    rw [e1] at h
    cases x with
    | own xs =>
      simp only at h ⊢
      cases e9 : oneD xs with
      | none => rw [e9] at h; exact h.elim
      | some d0 =>
        rw [e9] at h
        cases oneD_eq e9
        intro vs H' w' fp hw t hcs fr
        generalize hf : fp = fp' at hcs
        cases hcs with
        | @cons v0 _ _ _ _ _ hc hn =>
        cases hn
        cases hc with
        | imm hd =>
        refine ⟨Nat.le_of_ble_eq_true rfl, fun a ha => ⟨a, v0, rfl, upd_same, fun dx z1 z2 => ⟨rfl, dx, [(n, v0)], upd_same, ?_, ?_, ?_⟩⟩⟩
        · rw [upd_ne z2, upd_same]
        · rw [upd_ne z2] at z1
          exact z1
        · rw [upd_ne z2] at z1
          have eH : upd (del (upd (upd (upd H' a (exo a C none)) dx (exd dx [(n, v0)])) a (exo a C (some dx))) a) dx (.xd [(n, v0)]) = upd H' dx (.xd [(n, v0)]) := by
            funext b
            by_cases h1 : b = dx
            · rw [h1, upd_same, upd_same]
            · rw [upd_ne h1, upd_ne h1]
              by_cases h2 : b = a
              · rw [h2, del_same, ha]
              · rw [del_ne h2, upd_ne h2, upd_ne h1, upd_ne h2]
          rw [eH]
          have t2 : Step T H w (upd H' dx (.xd [(n, v0)])) w' := Step.trans s.ok t (Step.new t.ok z1)
          exact h σ (upd H' dx (.xd [(n, v0)])) w' _ (some dx) hw (s.step t2) ⟨C, [n], hT, rfl, .inr ⟨dx, [(n, v0)], rfl, upd_same, rfl, .cons hd .nil⟩⟩
    | imm _ => exact h.elim
    | bor _ => exact h.elim
    | obj _ _ => exact h.elim
    | undef => exact h.elim
end
/-! ### try with several clauses, named or not, each of which returns -/
def rtOnly (D : Ends) : Ends := { nx := fun _ _ => False, rt := D.rt }
def stAt (σ : L2.St) (o : Option Nat) (a : Addr) : L2.St := match o with
  | none => σ
  | some i => σ.set i (some (.ref a))
abbrev TSX := Addr → Value → Option Addr → TS
def wMix (K : PySem.W.Frag) (Wout : WX) (D : Ends) : List (Value × Option Nat × TSX) → WX
  | [] => Wout
  | (c, o, ts) :: r => fun cls d σ H => ∃ b, PySem.W.exmOne K cls c = some b ∧ (b = true → ∀ a, H a = none → (∀ i, o = some i → i < σ.length) → ts a cls d (rtOnly D) (stAt σ o a) H) ∧ (b = false → wMix K Wout D r cls d σ H)
inductive HdsR (X : Cx) : List ExceptHandler → List (Value × Option Nat × TSX) → Prop
  | nil : HdsR X [] []
  | only {x : Str} {c : Value} {ts : TSX} {b₀ : Stmt} {suite : List Stmt} {np pos' : Pos} {hds : List ExceptHandler} {l : List (Value × Option Nat × TSX)} (hc : Names X x c)
      (hsu : ∀ (a : Addr) (oe : Obj) (cls : Value) (d : Option Addr) (pn : List (Addr × Obj)), Zc cls d oe → (∃ vs, oe.data = .fields vs) → PSs (X.suite a ((a, oe) :: pn)) (b₀ :: suite) (ts a cls d)) (r : HdsR X hds l) :
      HdsR X (.ExceptHandler (some (.Name x np)) none (b₀ :: suite) pos' :: hds) ((c, none, ts) :: l)
  | named {x n : Str} {i : Nat} {c : Value} {ts : TSX} {b₀ : Stmt} {suite : List Stmt} {np pos' : Pos} {hds : List ExceptHandler} {l : List (Value × Option Nat × TSX)} (hN : X.N.Nodup) (hi : X.N[i]? = some n) (hln : X.env.kindOf n = some .local) (hc : Names X x c)
      (hsu : ∀ (a : Addr) (oe : Obj) (cls : Value) (d : Option Addr) (pn : List (Addr × Obj)), Zc cls d oe → (∃ vs, oe.data = .fields vs) → PSs (X.suite a ((a, oe) :: pn)) (b₀ :: suite) (ts a cls d)) (r : HdsR X hds l) :
      HdsR X (.ExceptHandler (some (.Name x np)) (some n) (b₀ :: suite) pos' :: hds) ((c, some i, ts) :: l)
section
variable {X : Cx} {body : List Stmt} {h₀ : ExceptHandler} {hds : List ExceptHandler} {l : List (Value × Option Nat × TSX)} {pos : Pos} {tb : WX → TS} {Wout : WX}
theorem ps_try_mix (hs : X.stack = X.env :: X.outer) (hf : X.env.frame = some X.env.locals) (tk : Takes X Wout)
    (hb : ∀ (W : WX) (pn : List (Addr × Obj)) (xe : Value → Shared → Prop), Takes (X.tr pn xe) W → PassesOwn (model X.prog X.w) X.A X.env xe → PSs (X.tr pn xe) body (tb W))
    (hh : HdsR X (h₀ :: hds) l) : PS X (.Try body (h₀ :: hds) [] [] pos) (fun D σ H => tb (wMix X.K Wout D l) D σ H) := by
  refine ⟨fun pins s σ H D I h => ?_⟩
  have ok := I.ok
  have hfr : X.A.frames = some (X.env :: X.outer) := by rw [ok.frames, hs]
  refine wpAny_Try_except (wpAny_mono ((hb (wMix X.K Wout D l) (X.pn ++ pins) (fun e s₁ => wpAny (model X.prog X.w) X.A (noteFrame e X.env) (fun _ s₂ => wpAny (model X.prog X.w) X.A (setFlight e none) (fun _ s₃ =>
    wpAny (model X.prog X.w) X.A (handleBy e X.env (h₀ :: hds)) (SP X pins D) X.xe s₃) X.xe s₂) X.xe s₁) (fun u s' xx => ?_) PassesOwn.looking).run [] s σ H D (I.toTry _) h) (fun f s1 hsp => ?_) (fun e s1 he => he))
  · obtain ⟨a, B, sI, pins', σ', H', cls, d, rfl, J', nb, up, sky, na, os, ag, w⟩ := xx
    have J : Inv X pins σ' H' sI := J'.ofTry ok
    have sky' : Sky B (X.env :: X.outer) a (Zc cls d) X.env.locals s'.heap := by rw [← hs]; exact sky
    show wpAny (model X.prog X.w) X.A (noteFrame (.ref a) X.env) _ _ _
    refine Sky.land Zc.steady hfr hf sky' fun h3 fl3 up3 => ?_
    have J3 : Inv X pins σ' H' { s' with heap := h3 } := J.landed nb fl3.1 (up.trans up3) os ag
    obtain ⟨oe3, vs3, he3, hz3, hd3⟩ := fl3.there
    have nfr : a ∉ frs (X.env :: X.outer) := fun hm => by
      obtain ⟨_, o', e', hnf⟩ := fl3.2.2.1.mem hm
      rw [he3] at e'
      cases e'
      exact hnf _ hd3
    have nL : a ≠ X.env.locals := fun z => nfr (List.mem_filterMap.mpr ⟨X.env, List.mem_cons_self, by rw [hf, z]⟩)
    have nF : a ∉ X.fs := fun hm => by
      obtain ⟨e, he, q⟩ := List.mem_filterMap.mp hm
      exact nfr (List.mem_filterMap.mpr ⟨e, List.mem_cons_of_mem _ he, q⟩)
    have S3 := J3.suite he3 hd3 na nL nF
    have LT : PySem.W.Looks (model X.prog X.w) h3 (typeOf (.ref a)) cls := fun A Q E s k q => wpAny_typeOf_ref (k _ _ he3) (by rw [hz3.1]; exact q)
    -- a clause's name
    have test : ∀ {x : Str} {c : Value} {np : Pos} {Q : Value → Shared → Prop} {E : Value → Shared → Prop}, Names X x c → Q c { s' with heap := h3 } → wpAny (model X.prog X.w) (X.A.mark (some (.ref a))) (eval (.Name x np) X.env) Q E { s' with heap := h3 } := fun {x c np Q E} hc q => by
      obtain ⟨hg, hdbg, hm | ⟨hm, hv, hnn⟩⟩ := hc
      · exact ld_glob (X := X.suite a ((a, oe3) :: (X.pn ++ pins))) S3 hg hm q hdbg
      · exact ld_blt (X := X.suite a ((a, oe3) :: (X.pn ++ pins))) S3 hg hm hv q hnn hdbg
    have go : ∀ {hds' : List ExceptHandler} {l' : List (Value × Option Nat × TSX)}, HdsR X hds' l' → wMix X.K Wout D l' cls d σ' H' →
        wpAny (model X.prog X.w) X.A (handleBy (.ref a) X.env hds') (SP X pins D) X.xe { s' with heap := h3 } := by
      intro hds' l' hk
      induction hk with
      | nil =>
        intro w
        refine wpAny_handleBy_nil ?_
        obtain ⟨_, _, _, oe, vs, T, oT, ts', he, hz, hd, h1, hr⟩ := id fl3
        unfold PySem.passOn
        refine wpAny_bind (wpAny_field he hd h1 ?_)
        rw [if_neg (show ¬ ((Value.ref T == Value.none) = true) from by simp)]
        have fin : wpAny (model X.prog X.w) X.A (setFlight (.ref a) X.env.frame) (fun _ s4 => wpAny (model X.prog X.w) X.A (throw (.ref a) : Sem Flow) (SP X pins D) X.xe s4) X.xe { s' with heap := h3 } := by
          rw [hf]
          refine HandSPX.setFlight_upZ fl3 fun h4 hh4 up4 => wpAny_throw (tk _ _ ?_)
          exact ⟨a, B, sI, pins, σ', H', cls, d, rfl, J, nb, (up.trans up3).trans up4, .inr (.inr (by rw [hs]; exact hh4)), na, os, ag, w⟩
        first
          | exact wpAny_bind (wpAny_pure (wpAny_bind fin))
          | exact wpAny_bind fin
      | @only x c ts b₀ suite np pos' hds2 l2 hc hsu r ih =>
        intro w
        obtain ⟨b, hb1, hyes, hno⟩ := w
        refine wpAny_handleBy_cons (codeAny_handlers_test (test hc ((PySem.W.exm_one (M := model X.prog X.w) (J3.kIn) LT hb1).here ?_))) (by intro q; cases q)
        cases b with
        | true =>
          refine codeAny_handlers_suite (HandSPX.lands_againZ fl3 fun h4 fl4 up4 => ?_)
          have J4 : Inv X pins σ' H' { s' with heap := h4 } := J.landed nb fl4.1 ((up.trans up3).trans up4) os ag
          obtain ⟨oe4, vs4, he4, hz4, hd4⟩ := fl4.there
          refine wpAny_mono ((hsu a oe4 cls d (X.pn ++ pins) hz4 ⟨_, hd4⟩).run [] _ _ H' _ (J4.suite he4 hd4 na nL nF) (hyes rfl a na fun i e => nomatch e)) (fun f s6 hsp => ?_) (fun _ _ z => False.elim z)
          cases f with
          | ret u =>
            obtain ⟨v6, σ6, H6, S6, r6, q6⟩ := hsp
            exact ⟨_, _, _, S6.unsuite ok, r6, q6⟩
          | _ => exact hsp.elim fun _ z => z.elim fun _ z => z.2.elim
        | false =>
          show wpAny _ X.A (handleBy (.ref a) X.env hds2) _ _ _
          exact ih (hno rfl)
      | @named x n i c ts b₀ suite np pos' hds2 l2 hN hi hln hc hsu r ih =>
        intro w
        obtain ⟨b, hb1, hyes, hno⟩ := w
        refine wpAny_handleBy_cons (codeAny_handlers_test (test hc ((PySem.W.exm_one (M := model X.prog X.w) (J3.kIn) LT hb1).here ?_))) (by intro q; cases q)
        cases b with
        | true =>
          refine codeAny_handlers_suite_as (HandSPX.lands_againZ fl3 fun h4 fl4 up4 => ?_)
          have J4 : Inv X pins σ' H' { s' with heap := h4 } := J.landed nb fl4.1 ((up.trans up3).trans up4) os ag
          obtain ⟨oe4, vs4, he4, hz4, hd4⟩ := fl4.there
          refine store_ok (X := X.suite a ((a, oe4) :: (X.pn ++ pins))) (v := .ref a) (J4.suite he4 hd4 na nL nF) hN hi (.inl hln) rfl (fun s5 S5 => ?_) (.inr hln)
          refine wpAny_mono ((hsu a oe4 cls d (X.pn ++ pins) hz4 ⟨_, hd4⟩).run [] s5 _ H' _ S5 (hyes rfl a na fun j e => ?_)) (fun f s6 hsp => ?_) (fun _ _ z => False.elim z)
          · cases e
            rw [J.len]
            exact (List.getElem?_eq_some_iff.mp hi).1
          cases f with
          | ret u =>
            obtain ⟨v6, σ6, H6, S6, r6, q6⟩ := hsp
            exact gone_ok (S6.unsuite ok) hN hi hln fun s7 J7 => ⟨_, _, _, J7, r6, q6⟩
          | _ => exact hsp.elim fun _ z => z.elim fun _ z => z.2.elim
        | false =>
          show wpAny _ X.A (handleBy (.ref a) X.env hds2) _ _ _
          exact ih (hno rfl)
    exact go hh w
  · cases f with
    | next =>
      obtain ⟨σ', H', J', q⟩ := hsp
      exact wpAny_execs_nil ⟨σ', H', J'.ofTry ok, q⟩
    | ret u =>
      obtain ⟨v, σ', H', J', r, q⟩ := hsp
      exact ⟨v, σ', H', J'.ofTry ok, r, q⟩
    | _ =>
      obtain ⟨σ', H', J', q⟩ := hsp
      exact ⟨σ', H', J'.ofTry ok, q⟩
end
end Q

set_option maxRecDepth 100000
set_option maxHeartbeats 3200000
namespace Q
open PySem PySem.Spec PyProof.Rows L2
section
variable {P : Program} {w : World} {A : Around} {E : Value → Shared → Prop} {s : Shared}
/-! ### set(l) of a list of ints: what stands then is a set that can be walked -/
abbrev freshSet (w : World) : Obj := { cls := .type "set", dict := none, data := .set #[] 0 (.fresh 0 0 (!w.params.followText "set-order")) }
theorem int_at' {vs : Array Value} {ns : List Int} (h : IntsAre vs.toList ns) (i : Nat) (v : Value) (e : vs[i]? = some v) : ∃ k t, ns[i]? = some k ∧ v = .int k t := by
  have hl : vs.size = ns.length := by rw [← Array.length_toList]; exact IntsAre.length h
  have hi : i < ns.length := by
    have := (Array.getElem?_eq_some_iff.mp e).1
    omega
  obtain ⟨t, q⟩ := IntsAre.int_at h i v (by simpa using e)
  exact ⟨ns[i], t, List.getElem?_eq_getElem hi, by rw [q]; simp [List.getD_eq_getElem?_getD, hi]⟩
-- the loop of set.update over a list
theorem init_list {l : Addr} {vs : Array Value} (ns : List Int) {R : Result → Shared → Prop} (hh : A.handled = none) (hl : s.heap.IsList l vs) (hi : IntsAre vs.toList ns) (hb : ns.length + 1 < scanBound) {S : Addr} (hS : s.heap.get? S = some (freshSet w)) (hne : l ≠ S)
    (h : ∀ s' c, Moved [S, s.heap.objs.size] (fun g g' => g' = g) { s with heap := s.heap.push { cls := .type "list_iterator", data := .fields #[.ref l, .int 0 0] } } s' → c ≤ ns.length → SetR w s'.heap S (fun j => decide (j ∈ ns)) c → R (.ok (.ret .none)) s') :
    codeAny (model P w) A (.builtin "set.update.loop" ⟨[.ref S, .ref s.heap.objs.size], []⟩) R { s with heap := s.heap.push { cls := .type "list_iterator", data := .fields #[.ref l, .int 0 0] } } := by
  have hlt : l < s.heap.objs.size := by
    obtain ⟨o, ho, _⟩ := hl
    exact Heap.lt_size ho
  have hSt : S < s.heap.objs.size := Heap.lt_size hS
  have W := (Walks.list (prog := P) (w := w) (A := A.in1) (by simp [hh]) s.heap.objs.size l (Nat.ne_of_lt hlt) vs).toS
  have hn : vs.size = ns.length := by rw [← Array.length_toList]; exact IntsAre.length hi
  refine set_update_ints W S ?_ ns hn hb (int_at' hi) (vs.size - 0) 0 _ (by omega) (Nat.zero_le _) ?_ ?_ ?_
  · intro m
    rcases List.mem_cons.mp m with e | m
    · rw [e] at hSt
      exact Nat.lt_irrefl _ hSt
    · rw [List.mem_singleton] at m
      exact hne m.symm
  · exact ⟨⟨_, Heap.get?_push_size _ rfl, rfl, rfl⟩, hl.push _⟩
  · exact ⟨0, Nat.le_refl 0, setR_new_at (Heap.get?_push_of_some _ hS)⟩
  · intro s' c hm hc hR
    refine h s' c ?_ (by omega) hR
    exact hm
theorem set_of_list {l : Addr} {vs : Array Value} (ns : List Int) {Q : Value → Shared → Prop} (hh : A.handled = none) (hl : s.heap.IsList l vs) (hi : IntsAre vs.toList ns) (hb : ns.length + 1 < scanBound)
    (h : ∀ h' tk c, SetR w h' s.heap.objs.size (fun j => decide (j ∈ ns)) c → c ≤ ns.length → (∀ b o, s.heap.get? b = some o → h'.get? b = some o) → Q (.ref s.heap.objs.size) { s with heap := h', toks := tk }) :
    wpAny (model P w) A (call (.type "set") [.ref l]) Q E s := by
  have hlt : l < s.heap.objs.size := by
    obtain ⟨o, ho, _⟩ := hl
    exact Heap.lt_size ho
  have ⟨c, tl, mro⟩ := F.called_set.mro
  have made := F.called_set.made
  have sub := F.called_set.sub
  have nt := F.called_set.notType
  have cc := F.called_set.canCreate
  have tc := F.typeCall_set_1 (.ref l)
  have lk := F.called_set.init.lookup
  have bd := F.called_set.init.bind (.ref s.heap.objs.size)
  apply wpAny_call
  apply codeAny_of_tree
  change wpAny _ _ (callAny (.type "set") _) _ _ _
  apply wpAny_pure
  refine ⟨Code.quiet_builtin _ (by decide +kernel), ?_⟩
  apply codeAny_builtin F.entry_type_call
  rw [Around.under_plain (weight_type_call_type "set" [.ref l] []) rfl]
  repeat any_goals first | assumption | wp_step
  have new := code_set_led1 (P := P) (w := w) (A := A.in1) (s := s) (E := E) (.ref l) (Q₁ := fun v u => v = .ref s.heap.objs.size ∧ u = { s with heap := s.heap.push (freshSet w) }) ⟨rfl, rfl⟩
  refine codeAny_mono new fun r u hr => ?_
  match r, hr with
  | .error e, hr => exact hr
  | .ok (.ret v), ⟨e1, e2⟩ =>
    subst e1 e2
    have here := Heap.get?_push_size s.heap (o := freshSet w) rfl
    have isSet : Shared.TypeIs { s with heap := s.heap.push (freshSet w) } (.ref s.heap.objs.size) "set" := ⟨_, here, rfl⟩
    repeat any_goals first | assumption | wp_step
    have hl1 : (s.heap.push (freshSet w)).IsList l vs := hl.push _
    have sz : (s.heap.push (freshSet w)).objs.size = s.heap.objs.size + 1 := Heap.size_push ..
    have init : codeAny (model P w) A.in1 (.call (.builtin "set.__init__") ⟨[.ref s.heap.objs.size, .ref l], []⟩)
        (wants (fun v u => v = .none ∧ ∃ h' tk c, u = { s with heap := h', toks := tk } ∧ SetR w h' s.heap.objs.size (fun j => decide (j ∈ ns)) c ∧ c ≤ ns.length ∧ ∀ b o, s.heap.get? b = some o → h'.get? b = some o) E)
        { s with heap := s.heap.push (freshSet w) } := by
      refine codeAny_call_builtin F.called_set.init.plain F.entry_set_init (check_set_init_1 isSet ?_)
      obtain ⟨o, ho, k1, n0, k2⟩ := hl
      obtain ⟨kc, kd, kx, ks⟩ := o
      dsimp only at k1 k2
      subst k1 k2
      have ho1 := Heap.get?_push_of_some (freshSet w) ho
      have s1 := F.sub_list_set
      have s2 := F.sub_list_frozenset
      have s3 : (Value.type "list" == Value.type "dict") = false := by decide
      unfold Builtin.«set.__init__» noKeywords Builtin.Frozenset.updateFrom
      generalize hp : pyIter = it
      wp_walk
      subst hp
      apply wpAny_pyIter_list hl1
      apply wpAny_bind
      apply wpAny_runValue
      refine init_list (s := { s with heap := s.heap.push (freshSet w) }) ns (by simp [hh]) hl1 hi hb here (Nat.ne_of_lt hlt) fun s' c' hm hc hR => ?_
      have hk : ∀ b o, s.heap.get? b = some o → s'.heap.get? b = some o := fun b o e => by
        have hb0 := Heap.lt_size e
        refine hm.heap b o ?_ (Heap.get?_push_of_some _ (Heap.get?_push_of_some _ e))
        intro m
        rcases List.mem_cons.mp m with z | m
        · exact absurd hb0 (by rw [z]; exact Nat.lt_irrefl _)
        · rw [List.mem_singleton] at m
          have : b = s.heap.objs.size + 1 := by rw [m]; exact sz
          rw [this] at hb0
          exact Nat.lt_irrefl _ (Nat.lt_trans (Nat.lt_succ_self _) hb0)
      have eg := hm.gens
      have ed := hm.drawn
      have eo := hm.os
      obtain ⟨h', g', d', tk', os'⟩ := s'
      dsimp only at eg ed eo hk hR
      subst eg ed eo
      show wpAny _ _ _ _ _ _
      apply wpAny_pure
      show wpAny _ _ (ret Value.none) _ _ _
      apply wpAny_pure
      exact ⟨rfl, h', tk', c', rfl, hR, hc, hk⟩
    refine codeAny_mono init fun r u hr => ?_
    match r, hr with
    | .error e, hr => exact hr
    | .ok (.ret v), ⟨e1, h', tk, c', e2, k1, k2, k3⟩ =>
      subst e1 e2
      repeat any_goals first | assumption | wp_step
      exact h _ _ _ k1 k2 k3
    | .ok .brk, hr => exact hr.elim
    | .ok .cont, hr => exact hr.elim
    | .ok .next, hr => exact hr.elim
  | .ok .brk, hr => exact hr.elim
  | .ok .cont, hr => exact hr.elim
  | .ok .next, hr => exact hr.elim
end
theorem insU_mem {x z : Int} : ∀ {l : List Int}, z ∈ insU x l ↔ z = x ∨ z ∈ l
  | [] => by simp [insU]
  | y :: ys => by
    unfold insU
    split
    · simp
    · split
      · rename_i h; subst h; simp
      · rw [List.mem_cons, insU_mem, List.mem_cons]
        constructor
        · rintro (h | h | h)
          · exact .inr (.inl h)
          · exact .inl h
          · exact .inr (.inr h)
        · rintro (h | h | h)
          · exact .inr (.inl h)
          · exact .inl h
          · exact .inr (.inr h)
theorem insU_rises {x : Int} : ∀ {l : List Int}, l.Pairwise (· < ·) → (insU x l).Pairwise (· < ·)
  | [], _ => List.pairwise_singleton _ _
  | y :: ys, h => by
    obtain ⟨h1, h2⟩ := List.pairwise_cons.mp h
    unfold insU
    split
    · rename_i hx
      refine List.pairwise_cons.mpr ⟨fun z hz => ?_, h⟩
      rcases List.mem_cons.mp hz with rfl | hz
      · exact hx
      · exact Int.lt_trans hx (h1 z hz)
    · split
      · exact h
      · refine List.pairwise_cons.mpr ⟨fun z hz => ?_, insU_rises h2⟩
        rcases insU_mem.mp hz with rfl | hz
        · omega
        · exact h1 z hz
theorem uniqZ_mem {z : Int} : ∀ {l : List Int}, z ∈ uniqZ l ↔ z ∈ l
  | [] => Iff.rfl
  | x :: l => by
    show z ∈ insU x (uniqZ l) ↔ _
    rw [insU_mem, uniqZ_mem, List.mem_cons]
theorem uniqZ_rises : ∀ l : List Int, (uniqZ l).Pairwise (· < ·)
  | [] => .nil
  | x :: l => insU_rises (uniqZ_rises l)
theorem rises_eq {l m : List Int} (h1 : l.Pairwise (· < ·)) (h2 : m.Pairwise (· < ·)) (h : ∀ z, z ∈ l ↔ z ∈ m) : l = m := by
  have n1 : l.Nodup := h1.imp fun z => Int.ne_of_lt z
  have n2 : m.Nodup := h2.imp fun z => Int.ne_of_lt z
  exact List.Perm.eq_of_pairwise (fun _ _ _ _ a b => absurd a (by omega)) h1 h2 ((List.perm_ext_iff_of_nodup n1 n2).mpr h)

section
variable {X : Cx} {T : Tabs} {cf : CF} {fu : Nat} {W : WX} {B : Base} {e a b c o : Expr} {es : List Expr} {st : Stmt} {p p2 pos pos2 apos : Pos} {x m : Str}
/-! ### sorted(set(x)), len(set(x)) -/
theorem setR_card {w : World} {h : Heap} {a : Addr} {ns : List Int} {n : Nat} (R : SetR w h a (fun j => decide (j ∈ ns)) n) : n = (uniqZ ns).length := by
  obtain ⟨o, es, ep, t, _, _, _, _, nd, hm, _, _, hn, _⟩ := R
  have hp : (es.toList.map keyOf).Perm (uniqZ ns) := (List.perm_ext_iff_of_nodup nd ((uniqZ_rises ns).imp fun z => Int.ne_of_lt z)).mpr fun z => by
    rw [← hm z, decide_eq_true_eq, uniqZ_mem]
  rw [← hn, ← hp.length_eq, List.length_map, Array.length_toList]
-- the set is laid
theorem set_laid (hc : X.calm = true) {pins : List (Addr × Obj)} {σ : L2.St} {H : Hp} {s : Shared} {l : Addr} {u : Value} {ns : List Int} {Q : Value → Shared → Prop} (I : Inv X pins σ H s) (hr : RelV (.ref l) u) (hl : SqL X.K H l (ns.map V.int) ∨ SqT X.K H l (ns.map V.int)) (hb : ns.length < 4000)
    (h : ∀ (a : Addr) (n : Nat) (s' : Shared), H a = none → n = (uniqZ ns).length → Inv X pins σ (upd H a (SetO X.w a (fun j => decide (j ∈ ns)) n)) s' → Q (.ref a) s') :
    wpAny (model X.prog X.w) X.A (call (.type "set") [u]) Q X.xe s := by
  cases hr
  have hn : H s.heap.objs.size = none := I.hok.fresh (Nat.le_refl _)
  have go : ∀ (h' : Heap) (tk n : Nat), SetR X.w h' s.heap.objs.size (fun j => decide (j ∈ ns)) n → n ≤ ns.length → (∀ b o, s.heap.get? b = some o → h'.get? b = some o) → Q (.ref s.heap.objs.size) { s with heap := h', toks := tk } :=
    fun h' tk n R hle k => h _ n _ hn (setR_card R) (I.laid (t' := tk) k (Nat.le_refl _) (setO_new R))
  have hs : ns.length + 1 < scanBound := by unfold scanBound; omega
  rcases hl with hl | hl
  · obtain ⟨its, r, pl, hz⟩ := I.list hl
    exact set_of_list ns (I.ok.hd hc) pl.isList (by simpa using r.ints) hs go
  · obtain ⟨its, r, pl, hz⟩ := I.tuple hl
    exact call_set_tupI ns (I.ok.hd hc) pl (by simpa using r.ints) hs go
theorem lt_addr {cs : Cell} {v : V} {fp : List Addr} {H : Hp} {w : Wd} {ds : List D} {ns : List Int} (hK : T.K = X.K) (k : Ok T H w) (h : CR T w.S w.G H v cs fp) (e : ltItems cs = some ds) (e2 : intsD ds = some ns) : ∃ l, v = .ref l ∧ (SqL X.K H l (ns.map V.int) ∨ SqT X.K H l (ns.map V.int)) := by
  unfold ltItems at e
  split at e
  · cases e
    obtain ⟨l, vs, rfl, h1, h2⟩ := h.tup rfl
    obtain ⟨rfl, _⟩ := ints_of h2 e2
    exact ⟨l, rfl, .inr (SqT.of (k.ex _ _ h1))⟩
  · obtain ⟨l, vs, rfl, h1, h2⟩ := h.lst k.ex e
    obtain ⟨rfl, _⟩ := ints_of h2 e2
    exact ⟨l, rfl, .inl (SqL.of h1)⟩
-- what a set has, ascending
theorem set_is {ns ms : List Int} (h1 : ms.Pairwise (· < ·)) (h2 : ∀ k : Int, k ∈ ms ↔ decide (k ∈ ns) = true) : ms = uniqZ ns :=
  rises_eq h1 (uniqZ_rises ns) fun z => by rw [h2, uniqZ_mem, decide_eq_true_eq]
theorem boot_sorted' : bootBuiltins "sorted" = some (.builtin "sorted") := by decide +kernel
theorem setZ_eq {c : Cell} {us : List Int} (h : setZ c = some us) : ∃ ds ns, ltItems c = some ds ∧ intsD ds = some ns ∧ us = uniqZ ns ∧ us.length < 64 ∧ ns.length < 4000 := by
  unfold setZ at h
  cases e1 : ltItems c with
  | none => rw [e1] at h; cases h
  | some ds =>
    cases e2 : intsD ds with
    | none => rw [e1, Option.bind_some, e2] at h; cases h
    | some ns =>
      rw [e1, Option.bind_some, e2, Option.bind_some] at h
      split at h
      · rename_i q
        cases h
        exact ⟨ds, ns, rfl, e2, rfl, q.1, q.2⟩
      · cases h
theorem Ok.newX {H : Hp} {w : Wd} {p : Addr} {o : HO} (k : Ok T H w) (h : H p = none) : Step T H w (upd H p o) w := Step.new k h
theorem pe_sset {t : TA} (hc : X.calm = true) (hK : T.K = X.K) (hg : Gl X "sorted") (hm : X.mg "sorted" = none) (hg2 : Gl X "set") (hm2 : X.mg "set" = none) (ha : PA X [a] t) (na : starEach [a] X.env = [(false, eval a X.env)]) :
    PE X (.Call (.Name "sorted" p) [.Call (.Name "set" p2) [a] [] pos2] [] pos) (tCB (rBI T .sset) t) := by
  refine ⟨fun pins s σ H Q I h => ?_⟩
  refine Call_ (ld_blt I hg hm boot_sorted' ?_)
  refine PyProof.Rows.callWith_builtin1 (PyProof.Rows.args_cons ?_ rfl) rfl rfl
  refine Call_ (ld_blt I hg2 hm2 PyProof.Rows.boot_set (PyProof.Rows.callWith_type1 (thn (ha.run pos2 pins s σ H _ I h) fun us s1 ⟨vs, H1, I1, r1, q1⟩ => ?_) na rfl))
  obtain ⟨w, cs, fp, c, k, hcs, e, q⟩ := q1
  simp only [biC] at e
  unfold bSset at e
  split at e
  · rename_i c1
    cases e0 : setZ c1 with
    | none => rw [e0] at e; cases e
    | some u =>
      rw [e0] at e
      cases e
      obtain ⟨ds, ns, e1, e2, rfl, h64, h4⟩ := setZ_eq e0
      obtain ⟨v, rfl, h1⟩ := hcs.one
      obtain ⟨l, rfl, hl⟩ := lt_addr hK k h1 e1 e2
      cases r1 with
      | cons ru rt =>
      cases rt
      refine set_laid hc I1 ru hl h4 fun b n s2 hb hle I2 => ?_
      refine PyProof.Rows.args_nil ?_
      have k2 : Ok T (upd H1 b (SetO X.w b (fun j => decide (j ∈ ns)) n)) w := k.new hb
      subst hle
      refine cr_sortedSet hc pins s2 σ _ [V.ref b] [Value.ref b] Q I2 (.cons rfl .nil) ⟨b, _, _, rfl, upd_same, h64, fun ms q1 m1 m2 m3 hq => ?_⟩
      rw [set_is m1 m2]
      exact got_lst k2 hq (CRs.of_imm (dvs_int _)) (own_imms _) (q.next k (Step.new k hb))
  · cases e
theorem pe_lset {t : TA} (hc : X.calm = true) (hK : T.K = X.K) (hg : Gl X "len") (hm : X.mg "len" = none) (hg2 : Gl X "set") (hm2 : X.mg "set" = none) (ha : PA X [a] t) (na : starEach [a] X.env = [(false, eval a X.env)]) :
    PE X (.Call (.Name "len" p) [.Call (.Name "set" p2) [a] [] pos2] [] pos) (tCB (rBI T .lset) t) := by
  refine ⟨fun pins s σ H Q I h => ?_⟩
  refine Call_ (ld_blt I hg hm PySem.boot_len ?_)
  refine PyProof.Rows.callWith_builtin1 (PyProof.Rows.args_cons ?_ rfl) rfl rfl
  refine Call_ (ld_blt I hg2 hm2 PyProof.Rows.boot_set (PyProof.Rows.callWith_type1 (thn (ha.run pos2 pins s σ H _ I h) fun us s1 ⟨vs, H1, I1, r1, q1⟩ => ?_) na rfl))
  obtain ⟨w, cs, fp, c, k, hcs, e, q⟩ := q1
  simp only [biC] at e
  unfold bLset at e
  split at e
  · rename_i c1
    cases e0 : setZ c1 with
    | none => rw [e0] at e; cases e
    | some u =>
      rw [e0] at e
      cases e
      obtain ⟨ds, ns, e1, e2, rfl, h64, h4⟩ := setZ_eq e0
      obtain ⟨v, rfl, h1⟩ := hcs.one
      obtain ⟨l, rfl, hl⟩ := lt_addr hK k h1 e1 e2
      cases r1 with
      | cons ru rt =>
      cases rt
      refine set_laid hc I1 ru hl h4 fun b n s2 hb hle I2 => ?_
      refine PyProof.Rows.args_nil ?_
      have k2 : Ok T (upd H1 b (SetO X.w b (fun j => decide (j ∈ ns)) n)) w := k.new hb
      subst hle
      have ⟨o, es, ep, tb, ho, hx, hd, _, _, _, _, hf, hz, _⟩ := setO_get I2 upd_same
      refine call_len_set ho hx hd hf (by rw [hz]; omega) ⟨.int (uniqZ ns).length, _, I2.tok _, ⟨_, by rw [hz]⟩, ?_⟩
      exact got_here k2 (.int _) (q.next k (Step.new k hb))
  · cases e
/-! ### found.extend(..), of a list or a tuple -/
def rExtLT : V → List V → Hp → VK → Prop := fun x vs H Q => ∃ l b xs zs, x = V.ref l ∧ vs = [V.ref b] ∧ H l = some (.lst xs) ∧ (H b = some (.lst zs) ∨ H b = some (.tup zs)) ∧ xs.length + zs.length ≤ sizeLine ∧ Q .non (upd H l (.lst (xs ++ zs)))
theorem extend_tup (l : Addr) (items : Array Value) (n : Nat) (b : Addr) (items2 : Array Value) (h0 : ¬(!items.isEmpty && Builtin.List.listTooLong (items.size + items2.size)) = true) (h1 : items.size ≤ sizeLine) (h2 : items.size + items2.size ≤ sizeLine + 1) :
    Meets (Builtin.«list.extend» ⟨[.ref l, .ref b], []⟩) (fun _ R s => s.heap.get? l = some { cls := .type "list", data := .seq items n } ∧ IsTup s.heap b items2 ∧ R (.ok (.ret Value.none)) { s with heap := s.heap.update l (Obj.mapSeq fun x => x ++ items2) }) := by
  refine .of_wp fun prog w A R s h => ?_
  obtain ⟨hp, g, d, tk, os⟩ := s
  obtain ⟨hl, hb, h⟩ := h
  obtain ⟨⟨kc, kd, kx, ks⟩, ho, k1, n2, k2⟩ := hb
  dsimp only at k1 k2
  subst k1 k2
  have f2 := sub_tuple_tuple
  have f3 := sub_list_list
  have f4 := sub_tuple_list
  have f5 := sub_list_tuple
  have hz : (items ++ items2).size ≤ sizeLine + 1 := by rw [Array.size_append]; exact h2
  wp_walk using (wpAny_updateSeq hl rfl (hz := h1) (_hz' := hz)), wpAny_loadPart' hl, wpAny_loadPart' ho
  exact ⟨_, rfl, h⟩
theorem mt_extLT : MtM X "list.extend" rExtLT := by
  intro pins s σ H x vs v us Q I rx rv h
  obtain ⟨l, b, xs, zs, rfl, rfl, hH, hB, hz, q⟩ := h
  cases rx
  obtain ⟨u, rfl, ru⟩ := rv.one
  cases ru
  obtain ⟨z, its, n, r, hl, e⟩ := I.lstM hH
  have key : ∀ its2 : List Value, Vals zs its2 → its.toArray.size + its2.toArray.size ≤ sizeLine ∧ ¬ (!its.toArray.isEmpty && Builtin.List.listTooLong (its.toArray.size + its2.toArray.size)) = true := fun its2 r2 => by
    have h1 : its.toArray.size + its2.toArray.size ≤ sizeLine := by
      have h2 := r2.length
      simp only [List.size_toArray]
      omega
    exact ⟨h1, by rw [notLongL h1, Bool.and_false]; exact Bool.false_ne_true⟩
  have fin : ∀ its2 : List Value, Vals zs its2 → ∃ x H', Inv X pins σ H' { s with heap := s.heap.update l (Obj.mapSeq fun a => a ++ its2.toArray) } ∧ RelV x .none ∧ Q x H' := fun its2 r2 =>
    ⟨.non, _, I.lset (t' := s.toks) (its' := its ++ its2) hH e (by simp) (r.append r2) (by rw [List.length_append]; exact hz), rfl, q⟩
  rcases hB with hB | hB
  · obtain ⟨z2, its2, n2, r2, hl2, e2⟩ := I.lstM hB
    obtain ⟨k1, k2⟩ := key its2 r2
    exact call_meets PySem.F.slot_list_extend ⟨_, e, rfl⟩ PySem.F.entry_list_extend (PySem.F.args_list_extend_2 _ _)
      (AutoSeq1.list_extend_list_list_0 l its.toArray n b its2.toArray n2 k2 (by rw [List.size_toArray]; omega) (by omega)) ⟨e, e2, fin its2 r2⟩
  · obtain ⟨z2, its2, r2, e2⟩ := I.hok b _ hB
    obtain ⟨k1, k2⟩ := key its2 r2
    exact call_meets PySem.F.slot_list_extend ⟨_, e, rfl⟩ PySem.F.entry_list_extend (PySem.F.args_list_extend_2 _ _)
      (extend_tup l its.toArray n b its2.toArray k2 (by rw [List.size_toArray]; omega) (by omega)) ⟨e, e2, fin its2 r2⟩
theorem rs_ext {i : Nat} {ie : IE} (hp : ∀ {te : TE}, PE X e te → PS X st (tDrop (tBM X.K "list" rExtLT (tVar i) (tCons te tNil)))) (he : PE X e (RE T cf W B ie)) : PS X st (RS T cf fu W B (.ext i ie)) := by
  refine PS.imp (hp he) fun D σ H h => ?_
  obtain ⟨ρ, w, s, h⟩ := h
  simp only [evS] at h
  cases e0 : ρ[i]? with
  | none => rw [e0] at h; exact h.elim
  | some ci =>
    rw [e0] at h
    cases ci with
    | own cs =>
      simp only at h
      obtain ⟨v0, fo0, q1, q2, _, _⟩ := s.slot e0 (fun z => nomatch z) (fun _ z => nomatch z)
      obtain ⟨p0, vs0, fs0, rfl, h0, _, _, _⟩ := own_fp q2
      refine ⟨_, q1, .inl ⟨rfl, vs0, SqL.of h0⟩, ?_⟩
      refine RE.one s ?_
      cases e1 : evE cf ie ρ w.st with
      | stuck => rw [e1] at h; exact h
      | exc x st' => rw [e1] at h; exact exc_back s h
      | ok z s1 =>
        rw [e1] at h
        simp only at h ⊢
        intro v H' w' fx hw t c1 fr
        cases e2 : ltItems z with
        | none => rw [e2] at h; exact h.elim
        | some ds =>
          rw [e2] at h
          simp only at h
          by_cases ho : small (cs.length + ds.length) = true
          · rw [if_pos ho] at h
            obtain ⟨v', fo, k1, k2, k3, k4, k5⟩ := s.slot2 t e0 (fun z => nomatch z) (fun _ z => nomatch z)
            rw [q1] at k1
            cases k1
            obtain ⟨p, vs, fs, hpv, h1, h2, rfl, h4⟩ := own_fp k2
            cases hpv
            have hnd := List.nodup_cons.mp k3.nd
            have src : ∃ b us, v = .ref b ∧ (H' b = some (.lst us) ∨ H' b = some (.tup us)) ∧ DVs T w'.S w'.G us ds := by
              unfold ltItems at e2
              split at e2
              · cases e2
                obtain ⟨b, us, rfl, g1, g2⟩ := c1.tup rfl
                exact ⟨b, us, rfl, .inr (t.ok.ex _ _ g1), g2⟩
              · obtain ⟨b, us, rfl, g1, g2⟩ := c1.lst t.ok.ex e2
                exact ⟨b, us, rfl, .inl g1, g2⟩
            obtain ⟨b, us, rfl, hb, hus⟩ := src
            have hl : vs.length + us.length ≤ sizeLine := by
              rw [h2.length, hus.length]
              have := of_decide_eq_true ho
              rw [sizeLine_eq]; omega
            refine ⟨p0, b, vs, us, rfl, rfl, h1, hb, hl, ?_⟩
            refine h σ _ w' hw (k5 p0 _ (.own (cs ++ ds.map .imm)) (p0 :: fs) List.mem_cons_self (hd_own rfl) ?_ k3 fun a ha => .inl ha)
            refine .own upd_same ?_ (by rw [List.all_append, h4, own_imms]; rfl)
            have q := (h2.upd (p := p0) (o := .lst (vs ++ us)) h4 hnd.1).append ((CRs.of_imm hus).upd (p := p0) (o := .lst (vs ++ us)) (own_imms _) (fun z => nomatch z))
            simp only [List.append_nil] at q
            exact q
          · rw [if_neg ho] at h
            exact h.elim
    | undef => exact h.elim
    | imm _ => exact h.elim
    | bor _ => exact h.elim
    | obj _ _ => exact h.elim
/-! ### name = l.pop(k), name = l.pop(), a, b = l.pop() -/
theorem rs_popi {i j : Nat} {ie : IE} (hi : X.N[i]? = some x) (hp : ∀ {te : TE}, PE X e te → PS X st (tAsg (tBM X.K "list" rPopAt (tVar j) (tCons te tNil)) (gName i))) (he : PE X e (RE T cf W B ie)) : PS X st (RS T cf fu W B (.popi i j ie)) := by
  refine PS.impL (hp he) fun D σ H hl h => ?_
  obtain ⟨ρ, w, s, h⟩ := h
  simp only [evS] at h
  cases e9 : ρ[j]? with
  | none => rw [e9] at h; exact h.elim
  | some cj =>
    rw [e9] at h
    cases cj with
    | own ds =>
      simp only at h
      obtain ⟨v9, fo9, r1, r2, _, _⟩ := s.slot e9 (fun z => nomatch z) (fun _ z => nomatch z)
      obtain ⟨p9, vs9, fs9, rfl, h9, _, _, _⟩ := own_fp r2
      refine ⟨_, r1, .inl ⟨rfl, vs9, SqL.of h9⟩, ?_⟩
      refine RE.one s ?_
      cases e1 : evE cf ie ρ w.st with
      | stuck => rw [e1] at h; exact h
      | exc x st' => rw [e1] at h; exact exc_back s h
      | ok z s1 =>
        rw [e1] at h
        cases z with
        | imm dz =>
          cases dz with
          | int k =>
            simp only at h ⊢
            intro v H' w' fx hw t c1 fr
            cases c1 with
            | imm hdz =>
            cases hdz
            cases e2 : ixOf ds.length k with
            | none => rw [e2] at h; exact h.elim
            | some m =>
              rw [e2] at h
              simp only at h
              cases e3 : ds[m]? with
              | none => rw [e3] at h; exact h.elim
              | some cm =>
                rw [e3] at h
                cases cm with
                | imm d =>
                  simp only at h
                  by_cases ho : rngOk k = true
                  · rw [if_pos ho] at h
                    obtain ⟨vj, fo, k1, k2, k3, k4, k5⟩ := s.slot2 t e9 (fun z => nomatch z) (fun _ z => nomatch z)
                    rw [r1] at k1
                    cases k1
                    obtain ⟨pj, us, gs, hpe, g1, g2, rfl, g4⟩ := own_fp k2
                    cases hpe
                    have hnd := List.nodup_cons.mp k3.nd
                    obtain ⟨y, y1, y2, y3⟩ := CRs.eraseImm g2 e3
                    have hs2 := k5 p9 (.lst (us.eraseIdx m)) (.own (ds.eraseIdx m)) (p9 :: gs) List.mem_cons_self (hd_own rfl) (.own upd_same (y3.upd (all_erase g4) hnd.1) (all_erase g4)) k3 fun a ha => .inl ha
                    have hb : -(2 ^ 62) ≤ k ∧ k < 2 ^ 62 := of_decide_eq_true ho
                    have hsq := (ixN_seq (show ixN us.length k = some m by rw [g2.length]; exact e2)).1
                    refine ⟨p9, us, k, m, y, rfl, rfl, g1, by omega, by omega, hsq, y1, ?_⟩
                    exact h _ _ w' hw (hs2.set_imm y2 (by rw [hl]; exact (List.getElem?_eq_some_iff.mp hi).1))
                  · rw [if_neg ho] at h
                    exact h.elim
                | undef => exact h.elim
                | own _ => exact h.elim
                | bor _ => exact h.elim
                | obj _ _ => exact h.elim
          | _ => exact h.elim
        | _ => exact h.elim
    | undef => exact h.elim
    | imm _ => exact h.elim
    | bor _ => exact h.elim
    | obj _ _ => exact h.elim
theorem drop_erase {α : Type} : ∀ l : List α, l.dropLast = l.eraseIdx (l.length - 1)
  | [] => rfl
  | [x] => rfl
  | x :: y :: l => by
    rw [List.dropLast_cons₂, drop_erase (y :: l)]
    rfl
theorem CRs.popImm {S : List Addr} {G H : Hp} {d : D} {vs : List V} {cs : List Cell} {f : List Addr} (h : CRs T S G H vs cs f) (e : cs[cs.length - 1]? = some (.imm d)) : ∃ v, vs[vs.length - 1]? = some v ∧ DV T S G v d ∧ CRs T S G H vs.dropLast cs.dropLast f := by
  obtain ⟨v, h1, h2, h3⟩ := CRs.eraseImm h e
  rw [← drop_erase] at h3
  rw [← h.length] at h1 h3
  rw [← drop_erase] at h3
  exact ⟨v, h1, h2, h3⟩
theorem all_drop {cs : List Cell} (h : cs.all ownable = true) : cs.dropLast.all ownable = true := by
  rw [drop_erase]
  exact all_erase h
theorem rs_popl {i j : Nat} (hi : X.N[i]? = some x) (hp : PS X st (tAsg (tBM0 X.K "list" rPop (tVar j)) (gName i))) : PS X st (RS T cf fu W B (.popl i j)) := by
  refine PS.impL hp fun D σ H hl h => ?_
  obtain ⟨ρ, w, s, h⟩ := h
  simp only [evS] at h
  cases e9 : ρ[j]? with
  | none => rw [e9] at h; exact h.elim
  | some cj =>
    rw [e9] at h
    cases cj with
    | own ds =>
      simp only at h
      cases e3 : ds[ds.length - 1]? with
      | none => rw [e3] at h; exact h.elim
      | some cm =>
        rw [e3] at h
        cases cm with
        | imm d =>
          simp only at h
          obtain ⟨vj, fo, k1, k2, k3, k4, k5⟩ := s.slot2 (Step.refl s.ok) e9 (fun z => nomatch z) (fun _ z => nomatch z)
          obtain ⟨pj, us, gs, rfl, g1, g2, rfl, g4⟩ := own_fp k2
          have hnd := List.nodup_cons.mp k3.nd
          obtain ⟨y, y1, y2, y3⟩ := g2.popImm e3
          have hs2 := k5 pj (.lst us.dropLast) (.own ds.dropLast) (pj :: gs) List.mem_cons_self (hd_own rfl) (.own upd_same (y3.upd (all_drop g4) hnd.1) (all_drop g4)) k3 fun a ha => .inl ha
          refine ⟨_, k1, .inl ⟨rfl, us, SqL.of g1⟩, pj, us, y, rfl, rfl, g1, y1, ?_⟩
          exact h _ _ w rfl (hs2.set_imm y2 (by rw [hl]; exact (List.getElem?_eq_some_iff.mp hi).1))
        | undef => exact h.elim
        | own _ => exact h.elim
        | bor _ => exact h.elim
        | obj _ _ => exact h.elim
    | undef => exact h.elim
    | imm _ => exact h.elim
    | bor _ => exact h.elim
    | obj _ _ => exact h.elim
theorem rs_popu {js : List Nat} {j : Nat} (hj : ∀ i ∈ js, i < X.N.length) (hp : PS X st (tAsg (tBM0 X.K "list" rPop (tVar j)) (gTup X.K js.length (gNames js)))) : PS X st (RS T cf fu W B (.popu js j)) := by
  refine PS.impL hp fun D σ H hl h => ?_
  obtain ⟨ρ, w, s, h⟩ := h
  simp only [evS] at h
  cases e9 : ρ[j]? with
  | none => rw [e9] at h; exact h.elim
  | some cj =>
    rw [e9] at h
    cases cj with
    | own ds =>
      simp only at h
      cases e3 : ds[ds.length - 1]? with
      | none => rw [e3] at h; exact h.elim
      | some cm =>
        rw [e3] at h
        cases cm with
        | imm d =>
          cases d with
          | tup es =>
            simp only at h
            cases e4 : setAll js es (ρ.set j (.own ds.dropLast)) with
            | none => rw [e4] at h; exact h.elim
            | some ρ' =>
              rw [e4] at h
              obtain ⟨vj, fo, k1, k2, k3, k4, k5⟩ := s.slot2 (Step.refl s.ok) e9 (fun z => nomatch z) (fun _ z => nomatch z)
              obtain ⟨pj, us, gs, rfl, g1, g2, rfl, g4⟩ := own_fp k2
              have hnd := List.nodup_cons.mp k3.nd
              obtain ⟨y, y1, y2, y3⟩ := g2.popImm e3
              have hs2 := k5 pj (.lst us.dropLast) (.own ds.dropLast) (pj :: gs) List.mem_cons_self (hd_own rfl) (.own upd_same (y3.upd (all_drop g4) hnd.1) (all_drop g4)) k3 fun a ha => .inl ha
              cases y2 with
              | @tup a ws _ h2 h3 =>
              obtain ⟨σ', q1, q2, q3⟩ := hs2.set_all h3 e4 fun j hjm => by rw [hl]; exact hj j hjm
              refine ⟨_, k1, .inl ⟨rfl, us, SqL.of g1⟩, pj, us, .ref a, rfl, rfl, g1, y1, ?_⟩
              refine ⟨a, ws, rfl, SqT.of (hs2.ok.ex _ _ h2), q1.symm, gNames_ok q1 ?_⟩
              rw [← q2]
              exact h σ' _ w rfl q3
          | _ => exact h.elim
        | undef => exact h.elim
        | own _ => exact h.elim
        | bor _ => exact h.elim
        | obj _ _ => exact h.elim
    | undef => exact h.elim
    | imm _ => exact h.elim
    | bor _ => exact h.elim
    | obj _ _ => exact h.elim
end
end Q

set_option maxRecDepth 100000
set_option maxHeartbeats 1000000
namespace Q
open PySem L2
section
variable {X : Cx} {T : Tabs} {cf : CF} {W : WX} {B : Base} {elt iter iter1 e : Expr} {x y : Str}
/-! ### comprehensions: targets that are tuples, two clauses -/
theorem ER.undefAt {S : List Addr} {G H : Hp} {o : Option V} : ∀ {σ : L2.St} {ρ : Ev} {f : List Addr} {j : Nat}, ER T B S G H σ ρ f → ∃ f', ER T B S G H (σ.set j o) (ρ.set j .undef) f' ∧ f'.Sublist f
  | _, _, _, _, .nil => ⟨[], .nil, .refl _⟩
  | _, _, _, 0, .undef hs => ⟨_, .undef hs, .refl _⟩
  | _, _, _, 0, .cons hh h hs => ⟨_, .undef hs, List.sublist_append_right _ _⟩
  | _, _, _, 0, .lent h hs => ⟨_, .undef hs, .refl _⟩
  | _, _, _, j + 1, .undef hs => by
    obtain ⟨f', k, sb⟩ := ER.undefAt (o := o) (j := j) hs
    exact ⟨f', .undef k, sb⟩
  | _, _, _, j + 1, .cons hh h hs => by
    obtain ⟨f', k, sb⟩ := ER.undefAt (o := o) (j := j) hs
    exact ⟨_, .cons hh h k, sb.append_left _⟩
  | _, _, _, j + 1, .lent h hs => by
    obtain ⟨f', k, sb⟩ := ER.undefAt (o := o) (j := j) hs
    exact ⟨f', .lent h k, sb⟩
theorem Fr.sub {H : Hp} {w : Wd} {f f' : List Addr} (h : Fr H w f) (s : f'.Sublist f) : Fr H w f' := ⟨h.nd.sublist s, fun a ha => h.nw a (s.subset ha)⟩
theorem Sim.undefAt {σ : L2.St} {H : Hp} {ρ : Ev} {w : Wd} (s : Sim T B σ H ρ w) (j : Nat) (o : Option V) : Sim T B (σ.set j o) H (ρ.set j .undef) w := by
  obtain ⟨fp, h1, h2⟩ := s.f
  obtain ⟨f', k, sb⟩ := ER.undefAt (o := o) (j := j) h1
  exact ⟨s.bk, s.st, f', k, h2.sub sb⟩
-- all the names of a target away
def wipeL (σ : L2.St) (js : List Nat) : L2.St := js.foldl (fun σ j => σ.set j none) σ
theorem Sim.wipeL {H : Hp} {w : Wd} : ∀ (js : List Nat) {σ : L2.St} {ρ : Ev}, Sim T B σ H ρ w → Sim T B (wipeL σ js) H (undefs js ρ) w
  | [], _, _, s => s
  | j :: js, _, _, s => Sim.wipeL js (s.undefAt j none)
theorem wipeL_length : ∀ (js : List Nat) (σ : L2.St), (wipeL σ js).length = σ.length
  | [], _ => rfl
  | j :: js, σ => (wipeL_length js _).trans (List.length_set ..)
theorem set_comm' {α : Type} {l : List α} {i j : Nat} {a b : α} (h : i = j → a = b) : (l.set i a).set j b = (l.set j b).set i a := by
  by_cases e : i = j
  · subst e
    rw [h rfl]
  · exact List.set_comm _ _ e
theorem wipe_set {σ : L2.St} {j : Nat} : ∀ vs : List Nat, wipe (σ.set j none) vs = (wipe σ vs).set j none
  | [] => rfl
  | v :: vs => by
    show (wipe (σ.set j none) vs).set v none = ((wipe σ vs).set v none).set j none
    rw [wipe_set vs]
    exact set_comm' fun _ => rfl
theorem wipe_wipeL {vs : List Nat} : ∀ (js : List Nat) (σ : L2.St), wipe (wipeL σ js) vs = wipeL (wipe σ vs) js
  | [], _ => rfl
  | j :: js, σ => by
    show wipe (wipeL (σ.set j none) js) vs = wipeL ((wipe σ vs).set j none) js
    rw [wipe_wipeL js, wipe_set]
-- what a list looks like where some places do not matter
theorem wipe_get {σ : L2.St} : ∀ (vs : List Nat) (i : Nat), (wipe σ vs)[i]? = if i ∈ vs then (σ[i]?).map fun _ => none else σ[i]?
  | [], i => by simp [wipe]
  | v :: vs, i => by
    show ((wipe σ vs).set v none)[i]? = _
    by_cases e : v = i
    · subst e
      rw [List.getElem?_set_self']
      rw [wipe_get vs v]
      simp only [List.mem_cons, true_or, if_true]
      split <;> cases σ[v]? <;> rfl
    · rw [List.getElem?_set_ne e, wipe_get vs i]
      have : (i ∈ v :: vs) ↔ i ∈ vs := by simp [Ne.symm e]
      simp only [this]
theorem wipe_eq {σ τ : L2.St} {vs : List Nat} (h : ∀ i, i ∉ vs → σ[i]? = τ[i]?) (hl : σ.length = τ.length) : wipe σ vs = wipe τ vs := by
  refine List.ext_getElem? fun i => ?_
  rw [wipe_get, wipe_get]
  split
  · by_cases q : i < σ.length
    · rw [List.getElem?_eq_getElem q, List.getElem?_eq_getElem (by omega)]
      rfl
    · rw [List.getElem?_eq_none (by omega), List.getElem?_eq_none (by omega)]
  · rename_i hi
    exact h i hi
def putL (σ : L2.St) (js : List Nat) (vs : List V) : L2.St := (js.zip vs).foldl (fun σ p => σ.set p.1 (some p.2)) σ
theorem putL_length : ∀ (js : List Nat) (vs : List V) (σ : L2.St), (putL σ js vs).length = σ.length
  | [], _, _ => rfl
  | _ :: _, [], _ => rfl
  | j :: js, v :: vs, σ => (putL_length js vs _).trans (List.length_set ..)
theorem putL_out {i : Nat} : ∀ (js : List Nat) (vs : List V) (σ : L2.St), i ∉ js → (putL σ js vs)[i]? = σ[i]?
  | [], _, _, _ => rfl
  | _ :: _, [], _, _ => rfl
  | j :: js, v :: vs, σ, h => by
    rw [List.mem_cons, not_or] at h
    show (putL (σ.set j (some v)) js vs)[i]? = _
    rw [putL_out js vs _ h.2, List.getElem?_set_ne (Ne.symm h.1)]
theorem putL_same {i : Nat} : ∀ (js : List Nat) (vs : List V) (σ τ : L2.St), js.length = vs.length → σ.length = τ.length → (i ∈ js ∨ σ[i]? = τ[i]?) → (putL σ js vs)[i]? = (putL τ js vs)[i]?
  | [], _, _, _, _, _, h => by
    rcases h with h | h
    · cases h
    · exact h
  | j :: js, [], _, _, hl, _, _ => by cases hl
  | j :: js, v :: vs, σ, τ, hl, hs, h => by
    refine putL_same js vs (σ.set j (some v)) (τ.set j (some v)) (Nat.succ.inj hl) (by rw [List.length_set, List.length_set, hs]) ?_
    by_cases e : j = i
    · subst e
      right
      by_cases q : j < σ.length
      · rw [List.getElem?_set_self q, List.getElem?_set_self (by omega)]
      · rw [List.getElem?_eq_none (by rw [List.length_set]; omega), List.getElem?_eq_none (by rw [List.length_set]; omega)]
    · rcases h with h | h
      · rcases List.mem_cons.mp h with z | h
        · exact absurd z.symm e
        · exact .inl h
      · right
        rw [List.getElem?_set_ne e, List.getElem?_set_ne e, h]
def gTgt (K : PySem.W.Frag) : Tgt → TG
  | .n j => gName j
  | .t js => gTup K js.length (gNames js)
-- a target takes an item: vs, the names that the block has
theorem tgt_ok (hK : T.K = X.K) {t : Tgt} {d : D} {v : V} {vs : List Nat} {σ τ : L2.St} {H : Hp} {ρ ρ' : Ev} {w : Wd} (s : Sim T B σ H ρ w) (hd : DV T w.S w.G v d) (hb : bindT t d ρ = some ρ') (hj : ∀ j ∈ t.js, j < σ.length) (hv : ∀ j ∈ t.js, j ∈ vs)
    (hl : τ.length = σ.length) (hτ : ∀ i, i ∉ t.js → τ[i]? = σ[i]?) :
    ∃ σ', Sim T B σ' H ρ' w ∧ (∀ i, i ∉ t.js → σ'[i]? = σ[i]?) ∧ σ'.length = σ.length ∧ ∀ H' w', Step T H w H' w' → ∀ Q : L2.St → Hp → Prop, Q σ' H' → gTgt X.K t v τ H' Q := by
  cases t with
  | n j =>
    simp only [bindT] at hb
    cases hb
    refine ⟨σ.set j (some v), s.set_imm hd (hj j (by simp [Tgt.js])), fun i hi => ?_, List.length_set .., fun H' w' _ Q q => ?_⟩
    · rw [List.getElem?_set_ne (fun z => hi (by simp [Tgt.js, z]))]
    · show Q (τ.set j (some v)) H'
      have : τ.set j (some v) = σ.set j (some v) := List.ext_getElem? fun i => by
        by_cases e : j = i
        · subst e
          have q := hj j (by simp [Tgt.js])
          rw [List.getElem?_set_self q, List.getElem?_set_self (by omega)]
        · rw [List.getElem?_set_ne e, List.getElem?_set_ne e]
          exact hτ i (fun z => e (by simp only [Tgt.js, List.mem_singleton] at z; exact z.symm))
      rw [this]
      exact q
  | t js =>
    cases hd with
    | tup ha hds =>
      rename_i a us ds
      simp only [bindT] at hb
      obtain ⟨σ', q1, q2, q3⟩ := s.set_all hds hb hj
      have q2' : σ' = putL σ js us := q2
      refine ⟨σ', q3, fun i hi => ?_, by rw [q2', putL_length], fun H' w' tt Q q => ?_⟩
      · rw [q2']
        exact putL_out js us σ hi
      · refine ⟨a, us, rfl, SqT.of (tt.ok.ex _ _ (tt.exG _ _ ha)), q1.symm, gNames_ok q1 ?_⟩
        have : putL τ js us = σ' := by
          rw [q2']
          refine List.ext_getElem? fun i => ?_
          refine putL_same js us τ σ q1 hl ?_
          by_cases e : i ∈ js
          · exact .inl e
          · exact .inr (hτ i e)
        show Q (putL τ js us) H'
        rw [this]
        exact q
    | _ => simp only [bindT] at hb; cases hb
-- the list that is made grows by an item
theorem grow {H1 H3 H4 : Hp} {w1 w3 w4 : Wd} {Dl : Addr} {accv : List V} {acc : List Cell} {fp fy : List Addr} {y : V} {z : Cell} (k1 : Ok T H1 w1) (tt3 : Step T H1 w1 H3 w3) (hA3 : H3 Dl = some (.lst accv)) (hc3 : CRs T w3.S w3.G H3 accv acc fp) (fr3 : Fr H1 w3 (Dl :: fp)) (hown : acc.all ownable = true)
    (t4 : Step T H3 w3 H4 w4) (cy : CR T w4.S w4.G H4 y z fy) (fry : Fr H3 w4 fy) (ho : ownable z = true) :
    H4 Dl = some (.lst accv) ∧ accv.length = acc.length ∧ Step T H1 w1 (upd H4 Dl (.lst (accv ++ [y]))) w4 ∧ CRs T w4.S w4.G (upd H4 Dl (.lst (accv ++ [y]))) (accv ++ [y]) (acc ++ [z]) (fp ++ fy) ∧ Fr H1 w4 (Dl :: (fp ++ fy)) ∧ (acc ++ [z]).all ownable = true := by
  have hDS3 : Dl ∉ w3.S := (fr3.nw Dl List.mem_cons_self).2.2
  have dom3 : ∀ a ∈ Dl :: fp, ∃ o, H3 a = some o := fun a ha => by
    rcases List.mem_cons.mp ha with rfl | ha
    · exact ⟨_, hA3⟩
    · exact hc3.dom a ha
  have fr4 := fr3.step t4 dom3
  have hA4 := t4.fr _ _ hA3 hDS3
  have hc4 := hc3.step t4 fun a ha => (fr3.nw a (List.mem_cons_of_mem _ ha)).2.2
  have tt : Step T H1 w1 H4 w4 := Step.trans k1 tt3 t4
  have hDn := fr4.nw Dl List.mem_cons_self
  have nDy : ∀ a ∈ fy, a ≠ Dl := fun a ha z => by
    subst z
    rw [(fry.nw a ha).1] at hA3; cases hA3
  have nDf : Dl ∉ fp := (List.nodup_cons.mp fr4.nd).1
  have kU : Ok T (upd H4 Dl (.lst (accv ++ [y]))) w4 := by
    refine ⟨fun a o ea => ?_, ⟨tt.ok.st.len, fun k a es h1 h2 => ?_⟩, tt.ok.nd, tt.ok.gS⟩
    · have : a ≠ Dl := fun z => by
        subst z
        rw [hDn.2.1] at ea; cases ea
      rw [upd_ne this]; exact tt.ok.ex a o ea
    · obtain ⟨us, h3, h4⟩ := tt.ok.st.at_ k a es h1 h2
      have : a ≠ Dl := fun z => by
        subst z
        exact hDn.2.2 (List.mem_of_getElem? h1)
      exact ⟨us, by rw [upd_ne this]; exact h3, h4⟩
  have tU : Step T H1 w1 (upd H4 Dl (.lst (accv ++ [y]))) w4 :=
    ⟨kU, tt.exG, fun a o ea m => by
      have : a ≠ Dl := fun z => by
        subst z
        rw [hDn.1] at ea; cases ea
      rw [upd_ne this]; exact tt.fr a o ea m, tt.nw, tt.sx, tt.sn⟩
  have cyU : CRs T w4.S w4.G (upd H4 Dl (.lst (accv ++ [y]))) [y] [z] fy := by
    have q := CRs.cons (cy.upd (p := Dl) (o := .lst (accv ++ [y])) (ownable_held ho) fun z => nDy _ z rfl) (CRs.nil)
    rw [List.append_nil] at q
    exact q
  have accU := hc4.upd (p := Dl) (o := .lst (accv ++ [y])) hown nDf
  exact ⟨hA4, hc4.length, tU, accU.append cyU, Fr.app fr4 (fry.back fun _ z => z) (fun a z => tt3.dom k1 z) dom3, by rw [List.all_append, hown, List.all_cons, ho]; rfl⟩
-- a step that leaves the list that is made as it is
theorem keepL {H1 H3 H4 : Hp} {w1 w3 w4 : Wd} {Dl : Addr} {accv : List V} {acc : List Cell} {fp : List Addr} (k1 : Ok T H1 w1) (tt3 : Step T H1 w1 H3 w3) (hA3 : H3 Dl = some (.lst accv)) (hc3 : CRs T w3.S w3.G H3 accv acc fp) (fr3 : Fr H1 w3 (Dl :: fp)) (t4 : Step T H3 w3 H4 w4) :
    Step T H1 w1 H4 w4 ∧ H4 Dl = some (.lst accv) ∧ CRs T w4.S w4.G H4 accv acc fp ∧ Fr H1 w4 (Dl :: fp) :=
  ⟨Step.trans k1 tt3 t4, t4.fr _ _ hA3 (fr3.nw Dl List.mem_cons_self).2.2, hc3.step t4 fun a ha => (fr3.nw a (List.mem_cons_of_mem _ ha)).2.2, fr3.step t4 fun a ha => by
    rcases List.mem_cons.mp ha with rfl | ha
    · exact ⟨_, hA3⟩
    · exact hc3.dom a ha⟩
-- what stands while the list is made: base state, list, its items so far
structure Mkg (T : Tabs) (H1 : Hp) (w1 : Wd) (Dl : Addr) (H' : Hp) (w' : Wd) (acc : List Cell) : Prop where
  st : Step T H1 w1 H' w'
  at_ : ∃ accv fp, H' Dl = some (.lst accv) ∧ CRs T w'.S w'.G H' accv acc fp ∧ Fr H1 w' (Dl :: fp)
  own : acc.all ownable = true
theorem Mkg.keep {H1 H3 H4 : Hp} {w1 w3 w4 : Wd} {Dl : Addr} {acc : List Cell} (k1 : Ok T H1 w1) (m : Mkg T H1 w1 Dl H3 w3 acc) (t4 : Step T H3 w3 H4 w4) : Mkg T H1 w1 Dl H4 w4 acc := by
  obtain ⟨tt, ⟨accv, fp, hA, hc, fr⟩, hown⟩ := m
  obtain ⟨q1, q2, q3, q4⟩ := keepL k1 tt hA hc fr t4
  exact ⟨q1, ⟨accv, fp, q2, q3, q4⟩, hown⟩
theorem Mkg.grow {H1 H3 H4 : Hp} {w1 w3 w4 : Wd} {Dl : Addr} {acc : List Cell} {fy : List Addr} {y : V} {z : Cell} (k1 : Ok T H1 w1) (m : Mkg T H1 w1 Dl H3 w3 acc) (t4 : Step T H3 w3 H4 w4) (cy : CR T w4.S w4.G H4 y z fy) (fry : Fr H3 w4 fy) (ho : ownable z = true) :
    ∃ accv, H4 Dl = some (.lst accv) ∧ accv.length = acc.length ∧ Mkg T H1 w1 Dl (upd H4 Dl (.lst (accv ++ [y]))) w4 (acc ++ [z]) := by
  obtain ⟨tt, ⟨accv, fp, hA, hc, fr⟩, hown⟩ := m
  obtain ⟨q1, q2, q3, q4, q5, q6⟩ := Q.grow k1 tt hA hc fr hown t4 cy fry ho
  exact ⟨accv, q1, q2, q3, ⟨_, _, upd_same, q4, q5⟩, q6⟩
theorem dloop_small {f : D → Store → Re (List Cell)} {acc rest : List Cell} {n : Nat} (h : small (acc ++ rest).length = true) (hr : n ≤ rest.length) : acc.length + n ≤ 1000000 := by
  have := of_decide_eq_true h
  rw [List.length_append] at this
  omega
theorem wipeL_get {σ : L2.St} : ∀ (js : List Nat) (i : Nat), (wipeL σ js)[i]? = if i ∈ js then (σ[i]?).map fun _ => none else σ[i]?
  | [], i => by simp [wipeL]
  | j :: js, i => by
    show (wipeL (σ.set j none) js)[i]? = _
    rw [wipeL_get js i]
    by_cases e : j = i
    · subst e
      rw [List.getElem?_set_self']
      simp only [List.mem_cons, true_or, if_true]
      split <;> cases σ[j]? <;> rfl
    · rw [List.getElem?_set_ne e]
      have : (i ∈ j :: js) ↔ i ∈ js := by simp [Ne.symm e]
      simp only [this]
abbrev Turn2 (T : Tabs) (X : Cx) (cf : CF) (B : Base) (t : Tgt) (ic ie : IE) (J : It) (Dl : Addr) (Nx : Hp → Prop) (σ : L2.St) (H : Hp) : Prop :=
  ∃ W1 : Nat → Nat → Hp → Prop, (∃ m, W1 0 m H) ∧ ∀ j k H, W1 j k H → (J.stop j H ∧ Nx H) ∨ (J.go j H ∧ ∃ Nx1 : Hp → Prop, (∀ H', Nx1 H' → ∃ k', k' < k ∧ W1 (j + 1) k' H') ∧ ∀ x H', J.yld j H x H' → gTgt X.K t x (wipe σ t.js) H' fun σ3 H5 => wipe σ3 t.js = wipe σ t.js ∧ RT T cf W0 B ic σ3 H5 fun b H6 =>
    if b = true then RE T cf W0 B ie σ3 H6 fun y H7 => ∃ acc, H7 Dl = some (.lst acc) ∧ acc.length < sizeLine ∧ Nx1 (upd H7 Dl (.lst (acc ++ [y]))) else Nx1 H6)
-- the loop over the items of the last clause: Nx is reached behind it
theorem in_go {t : Tgt} {ic ie : IE} {J : It} {σ : L2.St} {ρ : Ev} {H1 H4 : Hp} {w1 w4 : Wd} {ds : List Q.D} {vs : List V} {I : Hp → Prop} {Dl : Addr} {acc0 ys tail : List Cell} {st' : Store} {Nx : Hp → Prop}
    (hK : T.K = X.K) (k1 : Ok T H1 w1) (s : Sim T B σ H1 ρ w1) (m0 : Mkg T H1 w1 Dl H4 w4 acc0) (hW : Wk J vs I) (hI : ∀ H2 w2, Step T B.H0 B.w0 H2 w2 → Ex w4.G w2.G → I H2) (hd : DVs T w4.S w4.G vs ds) (hj : ∀ j ∈ t.js, j < σ.length)
    (hl : dloop (turnX (evE cf ic) (evE cf ie) t ρ) ds w4.st = .ok ys st') (hz : small (acc0 ++ ys ++ tail).length = true)
    (hn : ∀ H' w', Mkg T H1 w1 Dl H' w' (acc0 ++ ys) → w'.st = st' → Ex w4.G w'.G → SExt w4.S w'.S → Nx H') : Turn2 T X cf B t ic ie J Dl Nx σ H4 := by
  have hlen := hd.length
  let P : Nat → Hp → Prop := fun i H' => i ≤ ds.length ∧ ∃ (w' : Wd) (acc rest : List Cell), Mkg T H1 w1 Dl H' w' acc ∧ Ex w4.G w'.G ∧ SExt w4.S w'.S ∧ dloop (turnX (evE cf ic) (evE cf ie) t ρ) (ds.drop i) w'.st = .ok rest st' ∧ acc ++ rest = acc0 ++ ys
  refine ⟨fun i m H' => m = ds.length - i ∧ P i H', ⟨ds.length, rfl, Nat.zero_le _, w4, acc0, ys, m0, Same.refl _, SExt.refl _, hl, rfl⟩, ?_⟩
  rintro i m H' ⟨rfl, hi, w', acc, rest, mk, eG, eS, hcl, hacc⟩
  have s' := s.step mk.st
  have hIH : I H' := hI H' w' (Step.trans s'.bk.k0 s'.bk.lb s'.st) eG
  by_cases hlt : i < ds.length
  · refine .inr ⟨?_, P (i + 1), fun H2 hP => ⟨ds.length - (i + 1), by omega, rfl, hP⟩, ?_⟩
    · have : i < vs.length := by rw [hlen]; exact hlt
      exact hW.go i vs[i] H' (List.getElem?_eq_getElem this) hIH
    · intro x H2 hy
      obtain ⟨rfl, hx⟩ := hW.yld i _ x H2 hIH (by rw [hlen]; exact hlt) hy
      obtain ⟨d, hd1, hd2⟩ := hd.getV hx
      have hdrop : ds.drop i = d :: ds.drop (i + 1) := by
        rw [List.drop_eq_getElem_cons hlt]
        rw [List.getElem?_eq_getElem hlt] at hd1
        cases hd1
        rfl
      rw [hdrop] at hcl
      simp only [dloop] at hcl
      cases e0 : bindT t d ρ with
      | none => simp only [turnX, e0] at hcl; cases hcl
      | some ρ' =>
        obtain ⟨σ3, s3, o3, l3, go3⟩ := tgt_ok (τ := wipe σ t.js) hK s' (hd2.mono eG eS) e0 hj (vs := t.js) (fun _ h => h) (wipe_length σ _) fun i hi => by rw [wipe_get, if_neg hi]
        refine go3 _ w' (Step.refl mk.st.ok) _ ⟨wipe_eq (fun i hi => o3 i hi) l3, ρ', w', s3, ?_⟩
        cases e2 : evE cf ic ρ' w'.st with
        | stuck => simp only [turnX, e0, e2] at hcl; cases hcl
        | exc x s1 => simp only [turnX, e0, e2] at hcl; cases hcl
        | ok tc s1 =>
          simp only [turnX, e0, e2] at hcl
          simp only
          cases e3 : truC tc with
          | none => simp only [e3] at hcl; cases hcl
          | some k =>
            simp only [e3] at hcl ⊢
            intro H3 w3 hw3 t3
            cases k with
            | false =>
              simp only at hcl
              rw [if_neg Bool.false_ne_true]
              cases e5 : dloop (turnX (evE cf ic) (evE cf ie) t ρ) (ds.drop (i + 1)) s1 with
              | exc x s2 => simp only [e5] at hcl; cases hcl
              | stuck => simp only [e5] at hcl; cases hcl
              | ok ys' s2 =>
                have e5' := e5
                simp only [e5] at hcl
                cases hcl
                exact ⟨hlt, w3, acc, ys', mk.keep k1 t3, eG.trans t3.exG, fun i x h => t3.sx i x (eS i x h), by rw [hw3]; exact e5', hacc⟩
            | true =>
              rw [if_pos rfl]
              refine ⟨_, w3, s3.step t3, ?_⟩
              rw [hw3]
              simp only at hcl
              cases e4 : evE cf ie ρ' s1 with
              | stuck => simp only [e4] at hcl; cases hcl
              | exc x s1 => simp only [e4] at hcl; cases hcl
              | ok z s2 =>
                simp only [e4] at hcl ⊢
                intro y H5 w5 fy hw5 t5 cy fry
                by_cases ho : ownable z = true
                · rw [if_pos ho] at hcl
                  simp only at hcl
                  obtain ⟨accv, g1, g2, g3⟩ := (mk.keep k1 t3).grow k1 t5 cy fry ho
                  cases e5 : dloop (turnX (evE cf ic) (evE cf ie) t ρ) (ds.drop (i + 1)) s2 with
                  | exc x s2 => simp only [e5] at hcl; cases hcl
                  | stuck => simp only [e5] at hcl; cases hcl
                  | ok ys' s3' =>
                    have e5' := e5
                    simp only [e5] at hcl
                    cases hcl
                    refine ⟨accv, g1, ?_, hlt, w5, acc ++ [z], ys', g3, (eG.trans t3.exG).trans t5.exG, fun i x h => t5.sx i x (t3.sx i x (eS i x h)), by rw [hw5]; exact e5', by rw [← hacc, List.append_assoc]⟩
                    have := of_decide_eq_true hz
                    rw [← hacc] at this
                    simp only [List.length_append, List.length_cons, List.length_nil] at this
                    rw [g2, sizeLine_eq]
                    omega
                · rw [if_neg ho] at hcl
                  cases hcl
  · have ei : i = ds.length := by omega
    subst ei
    rw [List.drop_length] at hcl
    simp only [dloop] at hcl
    cases hcl
    rw [List.append_nil] at hacc
    subst hacc
    exact .inl ⟨by rw [← hlen]; exact hW.stop H' hIH, hn H' w' mk rfl eG eS⟩
theorem mk_new {H1 : Hp} {w1 : Wd} {Dl : Addr} (k1 : Ok T H1 w1) (hD : H1 Dl = none) : Mkg T H1 w1 Dl (upd H1 Dl (.lst [])) w1 [] := by
  obtain ⟨t1, f1⟩ := new_fr (o := .lst []) k1 (Step.refl k1) hD Fr.nil fun _ z => nomatch z
  exact ⟨t1, ⟨[], [], upd_same, .nil, f1⟩, rfl⟩
theorem mk_got {H H1 H' : Hp} {w w1 w' : Wd} {Dl : Addr} {ys : List Cell} {st' : Store} {Q : VK} (k : Ok T H w) (t : Step T H w H1 w1) (m : Mkg T H1 w1 Dl H' w' ys) (hw : w'.st = st') (hq : Got T H w st' (.own ys) Q) : Q (.ref Dl) H' := by
  obtain ⟨st, ⟨accv, fp, hA, hc, fr⟩, hown⟩ := m
  exact hq (.ref Dl) H' w' (Dl :: fp) hw (Step.trans k t st) (.own hA hc hown) (fr.back fun a z => t.dom k z)
theorem ownL_eq {r : Re (List Cell)} {c : Cell} {s : Store} (h : ownL r = .ok c s) : ∃ ys, r = .ok ys s ∧ c = .own ys ∧ small ys.length = true := by
  unfold ownL at h
  cases r with
  | ok ys s' =>
    simp only at h
    split at h
    · rename_i hz
      cases h
      exact ⟨ys, rfl, rfl, hz⟩
    · cases h
  | exc x s' => cases h
  | stuck => cases h
theorem ownL_noexc {r : Re (List Cell)} {x : Exc} {s : Store} (h : ownL r = .exc x s) : False := by
  unfold ownL at h
  cases r with
  | ok ys s' =>
    simp only at h
    split at h <;> cases h
  | exc x s' => cases h
  | stuck => cases h
-- [elt for target in iter if c]
theorem lct_read {t : Tgt} {it ic ie : IE} {σ : L2.St} {H : Hp} {Q : VK} (hK : T.K = X.K) (hj : ∀ j ∈ t.js, j < σ.length) (h : RE T cf W B (.compt t it ic ie) σ H Q) : tLc (RF T cf W B it) (gTgt X.K t) (RT T cf W0 B ic) (RE T cf W0 B ie) t.js σ H Q := by
  obtain ⟨ρ, w, s, h⟩ := h
  refine ⟨ρ, w, s, ?_⟩
  simp only [evE] at h
  cases e1 : evE cf it ρ w.st with
  | stuck => rw [e1] at h; exact h
  | exc x st' => rw [e1] at h; exact h
  | ok x s1 =>
    rw [e1] at h
    simp only at h ⊢
    cases e2 : walkC it ρ x with
    | none => rw [e2] at h; exact h.elim
    | some ds =>
      rw [e2] at h
      simp only at h ⊢
      intro J H1 w1 vs I hw tt hW hI hd Dl hD
      cases e3 : ownL (dloop (turnX (evE cf ic) (evE cf ie) t ρ) ds s1) with
      | stuck => rw [e3] at h; exact h.elim
      | exc y s2 => exact (ownL_noexc e3).elim
      | ok c s2 =>
        rw [e3] at h
        obtain ⟨ys, e4, rfl, hz⟩ := ownL_eq e3
        exact in_go (acc0 := []) (tail := []) hK tt.ok (s.step tt) (mk_new tt.ok hD) hW hI hd hj (by rw [hw]; exact e4) (by rw [List.append_nil]; exact hz) fun H' w' m hw' _ _ => mk_got s.ok tt m hw' h
theorem re_compt {t : Tgt} {it ic ie : IE} {tg : Expr} {ifs : List Expr} {scope : Scope} {own : List (Str × Nat)} {pos : Pos} (hK : T.K = X.K) (hc : X.calm = true) (hN : X.N.Nodup) (hj : ∀ j ∈ t.js, j < X.N.length) (hi : PI X tg iter (RF T cf W B it)) (ok : BlkOk X.N X.env.scope scope own) (ho : own.map (·.2) = t.js)
    (hg : ∀ (s : Shared) (H : Hp) (C : Addr) (cl : List (Str × Addr)) (fp : List Addr), PG (X.blk s H scope (compEnvC scope cl C X.env) fp) tg (gTgt X.K t))
    (ht : ∀ (s : Shared) (H : Hp) (C : Addr) (cl : List (Str × Addr)) (fp : List Addr), PTs (X.blk s H scope (compEnvC scope cl C X.env) fp) ifs (RT T cf W0 B ic))
    (he : ∀ (s : Shared) (H : Hp) (C : Addr) (cl : List (Str × Addr)) (fp : List Addr), PE (X.blk s H scope (compEnvC scope cl C X.env) fp) elt (RE T cf W0 B ie)) (hs : ∀ x, foldedSetIterable iter X.env x = pure x) :
    PE X (.ListComp elt [⟨tg, iter, ifs, 0⟩] scope pos) (RE T cf W B (.compt t it ic ie)) := by
  refine PE.impL (pe_lc hc hN hi ok hg ht he hs) fun σ H Q hl h => ?_
  rw [ho]
  exact lct_read hK (by rw [hl]; exact hj) h
-- [elt for target in iter for target in iter if c]
theorem lc2_read {t u : Tgt} {it jt ic ie : IE} {σ : L2.St} {H : Hp} {Q : VK} (hK : T.K = X.K) (hj : ∀ j ∈ t.js, j < σ.length) (hu : ∀ j ∈ u.js, j < σ.length) (h : RE T cf W B (.comp2 t it u jt ic ie) σ H Q) :
    tLc2 (RF T cf W B it) (gTgt X.K t) (RT T cf W0 B (.con (.bl true))) (RF T cf W0 B jt) (gTgt X.K u) (RT T cf W0 B ic) (RE T cf W0 B ie) (t.js ++ u.js) u.js σ H Q := by
  obtain ⟨ρ, w, s, h⟩ := h
  refine ⟨ρ, w, s, ?_⟩
  simp only [evE] at h
  cases e1 : evE cf it ρ w.st with
  | stuck => rw [e1] at h; exact h
  | exc x st' => rw [e1] at h; exact h
  | ok x s1 =>
    rw [e1] at h
    simp only at h ⊢
    cases e2 : walkC it ρ x with
    | none => rw [e2] at h; exact h.elim
    | some ds =>
      rw [e2] at h
      simp only at h ⊢
      intro J H1 w1 vs I hw tt hW hI hd Dl hD
      generalize hF : turnY (fun ρ x => walkC jt ρ x) (evE cf jt) (evE cf ic) (evE cf ie) t u ρ = F at h
      cases e3 : ownL (dloop F ds s1) with
      | stuck => rw [e3] at h; exact h.elim
      | exc y s2 => exact (ownL_noexc e3).elim
      | ok c st' =>
        rw [e3] at h
        obtain ⟨ys, e4, rfl, hz⟩ := ownL_eq e3
        have hlen := hd.length
        have k1 := tt.ok
        have s1' := s.step tt
        let P : Nat → Hp → Prop := fun i H' => i ≤ ds.length ∧ ∃ (w' : Wd) (acc rest : List Cell), Mkg T H1 w1 Dl H' w' acc ∧ Ex w1.G w'.G ∧ SExt w1.S w'.S ∧ dloop F (ds.drop i) w'.st = .ok rest st' ∧ acc ++ rest = ys
        refine ⟨fun i m H' => m = ds.length - i ∧ P i H', ⟨ds.length, rfl, Nat.zero_le _, w1, [], ys, mk_new k1 hD, Same.refl _, SExt.refl _, by rw [hw]; exact e4, rfl⟩, ?_⟩
        rintro i m H' ⟨rfl, hi, w', acc, rest, mk, eG, eS, hcl, hacc⟩
        have s' := s1'.step mk.st
        have hIH : I H' := hI H' w' (Step.trans s'.bk.k0 s'.bk.lb s'.st) eG
        by_cases hlt : i < ds.length
        · refine .inr ⟨?_, P (i + 1), fun H2 hP => ⟨ds.length - (i + 1), by omega, rfl, hP⟩, ?_⟩
          · have : i < vs.length := by rw [hlen]; exact hlt
            exact hW.go i vs[i] H' (List.getElem?_eq_getElem this) hIH
          · intro x H2 hy
            obtain ⟨rfl, hx⟩ := hW.yld i _ x H2 hIH (by rw [hlen]; exact hlt) hy
            obtain ⟨d, hd1, hd2⟩ := hd.getV hx
            have hdrop : ds.drop i = d :: ds.drop (i + 1) := by
              rw [List.drop_eq_getElem_cons hlt]
              rw [List.getElem?_eq_getElem hlt] at hd1
              cases hd1
              rfl
            rw [hdrop] at hcl
            simp only [dloop] at hcl
            cases e5 : F d w'.st with
            | stuck => rw [e5] at hcl; cases hcl
            | exc y s2 => rw [e5] at hcl; cases hcl
            | ok ysi s2 =>
              rw [e5] at hcl
              simp only at hcl
              cases e6 : dloop F (ds.drop (i + 1)) s2 with
              | stuck => rw [e6] at hcl; cases hcl
              | exc y s3 => rw [e6] at hcl; cases hcl
              | ok rest' s3 =>
                rw [e6] at hcl
                cases hcl
                rw [← hF] at e5
                unfold turnY at e5
                cases e7 : bindT t d (undefs u.js ρ) with
                | none => rw [e7] at e5; cases e5
                | some ρ2 =>
                  rw [e7] at e5
                  simp only at e5
                  obtain ⟨σ2, s2', o2, l2, go2⟩ := tgt_ok (τ := wipe σ (t.js ++ u.js)) hK (s1'.wipeL u.js) hd2 e7 (by rw [wipeL_length]; exact hj) (vs := t.js ++ u.js) (fun _ h => List.mem_append_left _ h) (by rw [wipe_length, wipeL_length]) fun i hi => by
                    rw [wipe_get, wipeL_get]
                    have : (i ∈ t.js ++ u.js) ↔ i ∈ u.js := by simp [hi]
                    simp only [this]
                  have s3' := s2'.step mk.st
                  refine go2 _ w' mk.st _ ⟨wipe_eq (fun i hi => ?_) (by rw [l2, wipeL_length]), ρ2, w', s3', ?_⟩
                  · rw [List.mem_append, not_or] at hi
                    rw [o2 i hi.1, wipeL_get, if_neg hi.2]
                  show ∀ H3 w3, w3.st = w'.st → Step T H2 w' H3 w3 → _
                  intro H3 w3 hw3 t3
                  rw [if_pos rfl]
                  refine ⟨ρ2, w3, s3'.step t3, ?_⟩
                  rw [hw3]
                  cases e8 : evE cf jt ρ2 w'.st with
                  | stuck => rw [e8] at e5; cases e5
                  | exc y s4 => rw [e8] at e5; cases e5
                  | ok x2 s4 =>
                    rw [e8] at e5
                    simp only at e5 ⊢
                    cases e9 : walkC jt ρ2 x2 with
                    | none => rw [e9] at e5; cases e5
                    | some ds2 =>
                      rw [e9] at e5
                      simp only at e5 ⊢
                      intro J1 H4 w4 vs2 I2 hw4 t4 hW2 hI2 hd3
                      have mk4 := (mk.keep k1 t3).keep k1 t4
                      refine in_go (tail := rest') hK k1 s2' mk4 hW2 hI2 hd3 (by rw [l2, wipeL_length]; exact hu) (by rw [hw4]; exact e5) (by rw [List.append_assoc, hacc]; exact hz) fun H5 w5 m5 hw5 g5 x5 => ?_
                      exact ⟨hlt, w5, acc ++ ysi, rest', m5, ((eG.trans t3.exG).trans t4.exG).trans g5, fun i x h => x5 i x (t4.sx i x (t3.sx i x (eS i x h))), by rw [hw5]; exact e6, by rw [List.append_assoc]; exact hacc⟩
        · have ei : i = ds.length := by omega
          subst ei
          rw [List.drop_length] at hcl
          simp only [dloop] at hcl
          cases hcl
          rw [List.append_nil] at hacc
          subst hacc
          exact .inl ⟨by rw [← hlen]; exact hW.stop H' hIH, mk_got s.ok tt mk rfl h⟩
theorem re_comp2 {t u : Tgt} {it jt ic ie : IE} {tg tg1 : Expr} {ifs : List Expr} {scope : Scope} {own : List (Str × Nat)} {pos : Pos} (hK : T.K = X.K) (hc : X.calm = true) (hN : X.N.Nodup) (hj : ∀ j ∈ t.js, j < X.N.length) (hu : ∀ j ∈ u.js, j < X.N.length) (hi : PI X tg iter (RF T cf W B it)) (ok : BlkOk X.N X.env.scope scope own) (ho : own.map (·.2) = t.js ++ u.js)
    (hg : ∀ (s : Shared) (H : Hp) (C : Addr) (cl : List (Str × Addr)) (fp : List Addr), PG (X.blk s H scope (compEnvC scope cl C X.env) fp) tg (gTgt X.K t))
    (ht : ∀ (s : Shared) (H : Hp) (C : Addr) (cl : List (Str × Addr)) (fp : List Addr), PTs (X.blk s H scope (compEnvC scope cl C X.env) fp) [] (RT T cf W0 B (.con (.bl true))))
    (hi1 : ∀ (s : Shared) (H : Hp) (C : Addr) (cl : List (Str × Addr)) (fp : List Addr), PI (X.blk s H scope (compEnvC scope cl C X.env) fp) tg1 iter1 (RF T cf W0 B jt))
    (hg1 : ∀ (s : Shared) (H : Hp) (C : Addr) (cl : List (Str × Addr)) (fp : List Addr), PG (X.blk s H scope (compEnvC scope cl C X.env) fp) tg1 (gTgt X.K u))
    (ht1 : ∀ (s : Shared) (H : Hp) (C : Addr) (cl : List (Str × Addr)) (fp : List Addr), PTs (X.blk s H scope (compEnvC scope cl C X.env) fp) ifs (RT T cf W0 B ic))
    (he : ∀ (s : Shared) (H : Hp) (C : Addr) (cl : List (Str × Addr)) (fp : List Addr), PE (X.blk s H scope (compEnvC scope cl C X.env) fp) elt (RE T cf W0 B ie)) (hs : ∀ x, foldedSetIterable iter X.env x = pure x) (hs1 : ∀ env x, foldedSetIterable iter1 env x = pure x) :
    PE X (.ListComp elt [⟨tg, iter, [], 0⟩, ⟨tg1, iter1, ifs, 0⟩] scope pos) (RE T cf W B (.comp2 t it u jt ic ie)) := by
  refine PE.impL (pe_lc2 hc hN hi ok (vs1 := u.js) (fun i h => by rw [ho]; exact List.mem_append_right _ h) hg ht hi1 hg1 ht1 he hs hs1) fun σ H Q hl h => ?_
  rw [ho]
  exact lc2_read hK (by rw [hl]; exact hj) (by rw [hl]; exact hu) h
end
end Q

set_option maxRecDepth 100000
set_option maxHeartbeats 1000000
namespace Q
open PySem PySem.Spec PyProof.Rows L2
section
variable {prog : Program} {w : World} {A : Around} {E : Value → Shared → Prop} {s : Shared}
/-! ### sorted(t), of a tuple of ints -/
theorem collect_tup {l : Addr} {vs : List Value} {Q : List Value → Shared → Prop} (hl : IsTup s.heap l vs.toArray)
    (h : Q vs { s with heap := (s.heap.push (seqObj "list" #[] 0)).update s.heap.objs.size (Obj.mapSeq (· ++ vs.toArray)) }) (hz : vs.length ≤ sizeLine) : wpAny (model prog w) A (collect (.ref l)) Q E s := by
  obtain ⟨o, ho, hc, n, hd⟩ := hl
  unfold collect
  apply wpAny_bind
  apply wpAny_runValue
  apply codeAny_builtin entry_proto_collect'
  show wpAny _ _ (do again (.builtin "list.__iadd__" ⟨[← newList [], .ref l], []⟩)) _ _ s
  apply wpAny_bind
  apply wpAny_newList
  · apply wpAny_pure
    refine ⟨Code.quiet_builtin _ (by decide +kernel), ?_⟩
    apply codeAny_builtin entry_list_iadd'
    show wpAny _ _ (Builtin.List.listExtendWith (.ref s.heap.objs.size) (.ref l) (.ref s.heap.objs.size)) _ _ { s with heap := s.heap.push (seqObj "list" #[] 0) }
    have new : (s.heap.push (seqObj "list" #[] 0)).get? s.heap.objs.size = some (seqObj "list" #[] 0) := Heap.get?_push_size _ rfl
    have old := Heap.get?_push_of_some (seqObj "list" #[] 0) ho
    unfold Builtin.List.listExtendWith
    apply wpAny_bind
    refine wpAny_typeOf (T := "tuple") ⟨o, old, hc⟩ ?_
    rw [if_pos (by rw [show (Value.type "tuple" == Value.type "tuple") = true from rfl, Bool.or_true])]
    apply wpAny_bind
    apply listItems_at old hd
    apply wpAny_bind
    apply listItems_at (xs := #[]) (n := 0) new rfl
    rw [if_neg (by simp)]
    apply wpAny_bind
    refine listUpdate_at (xs := #[]) (n := 0) new rfl ?_ (Nat.zero_le _) (by show (#[] ++ vs.toArray).size ≤ sizeLine + 1; rw [Array.size_append, List.size_toArray, List.size_toArray, List.length_nil]; omega)
    apply wpAny_pure
    show wpAny (model prog w) A (do
        let o ← load s.heap.objs.size
        match o.data with
        | .seq xs _ => pure xs.toList
        | _ => unsupported "internal:collect") Q E { s with heap := (s.heap.push (seqObj "list" #[] 0)).update s.heap.objs.size (Obj.mapSeq (· ++ vs.toArray)) }
    apply wpAny_bind
    refine wpAny_load (get?_update_seq new _) ?_
    show wpAny _ _ (pure ((#[] : Array Value) ++ vs.toArray).toList) Q E _
    have e : ((#[] : Array Value) ++ vs.toArray).toList = vs := by simp
    rw [e]
    exact wpAny_pure h
  · exact Nat.zero_le _
theorem sorted_tupI {l : Addr} {vs : List Value} {ns : List Int} {Q : Value → Shared → Prop} (hl : IsTup s.heap l vs.toArray) (hz : vs.length ≤ sizeLine) (hi : IntsAre vs ns)
    (h : ∀ out : List Value, SrtO.Srtd SrtO.ltIv out → SrtO.Stb SrtO.ltIv out vs → Q (.ref (s.heap.objs.size + 1)) { s with heap := sortedAll s.heap vs out.toArray }) : wpAny (model prog w) A (call (.builtin "sorted") [.ref l]) Q E s := by
  refine Calls.call_function_entry kind_sorted plain_sorted entry_sorted (args_sorted1 _) ?_
  unfold Builtin.«sorted»
  apply wpAny_bind (m := checkCount "sorted" 1 1 _)
  apply wpAny_pure
  apply wpAny_bind
  refine collect_tup hl ?_ hz
  apply wpAny_bind
  refine wpAny_newList ?_ hz
  generalize hH : (s.heap.push (seqObj "list" #[] 0)).update s.heap.objs.size (Obj.mapSeq (· ++ vs.toArray)) = h1
  have sz : h1.objs.size = s.heap.objs.size + 1 := by rw [← hH, Heap.size_update, size_push']
  have new : (h1.push (seqObj "list" vs.toArray 0)).get? h1.objs.size = some (seqObj "list" vs.toArray 0) := Heap.get?_push_size _ rfl
  apply wpAny_bind
  apply wpAny_holding
  refine wpAny_call_entry slot_list_sort ⟨_, new, rfl⟩ entry_list_sort ?_ (args_list_sort _)
  refine SrtO.list_sort_ord SrtO.swo_int new hz (fun h2 => SrtO.ints_sortable hi h2) fun out hs hb => ⟨_, rfl, ?_⟩
  apply wpAny_pure
  refine ⟨_, rfl, ?_⟩
  have := h out hs hb
  unfold sortedAll at this
  rw [hH, ← sz] at this
  exact this
/-! ### t[::-1], of a tuple -/
theorem back_places (n : Nat) : Builtin.Slice.sliceAdjust none none (-1) (n : Int) = ((n : Int) - 1, -1) ∧ Builtin.Slice.slicePlaces ((n : Int) - 1) (-1) (-1) = n := by
  constructor
  · rfl
  · unfold Builtin.Slice.slicePlaces
    rw [if_neg (by decide)]
    split
    · have : ((n : Int) - 1 - -1 - 1) / (- -1) = (n : Int) - 1 := by
        rw [show (- -1 : Int) = 1 from rfl, Int.ediv_one]
        omega
      rw [this]
      omega
    · omega
theorem back_pick (xs : Array Value) : ((List.range xs.size).filterMap fun (m : Nat) => xs[((xs.size : Int) - 1 + (m : Int) * -1).toNat]?).toArray = xs.toList.reverse.toArray := by
  have e : (fun (m : Nat) => xs[((xs.size : Int) - 1 + (m : Int) * -1).toNat]?) = (fun i => xs[i]?) ∘ fun m => xs.size - 1 - m := by
    funext m
    have : ((xs.size : Int) - 1 + (m : Int) * -1).toNat = xs.size - 1 - m := by omega
    rw [this]
    rfl
  rw [e, ← List.filterMap_map, PySem.W.krv_range, List.filterMap_reverse, PySem.W.krv_all]
theorem applied_back {sl : Addr} {vs : Value} {n : Nat} {Q : Int × Int × Nat → Shared → Prop} (hs : s.heap.IsSliceOf sl .none .none vs) (ps : IsPart vs (some (-1))) (h : Q ((n : Int) - 1, -1, n) s) : wpAny (model prog w) A (Builtin.Slice.sliceApplied (.ref sl) (pure (n : Int))) Q E s := by
  obtain ⟨o, ho, hc, hd⟩ := hs
  obtain ⟨e1, e2⟩ := back_places n
  unfold Builtin.Slice.sliceApplied Builtin.Slice.sliceFields
  apply wpAny_bind
  apply wpAny_bind
  apply wpAny_field ho hd (x := .none) rfl
  apply wpAny_bind
  apply wpAny_field ho hd (x := .none) rfl
  apply wpAny_bind
  apply wpAny_field ho hd (x := vs) rfl
  apply wpAny_pure
  apply wpAny_bind
  apply HT.slicePart_ ps
  show wpAny _ _ (if ((-1 : Int) == 0) = true then _ else _) _ _ s
  rw [if_neg (by decide)]
  apply wpAny_bind
  apply HT.slicePart_ .none
  apply wpAny_bind
  apply HT.slicePart_ .none
  apply wpAny_bind
  apply wpAny_pure
  show wpAny _ _ (match Builtin.Slice.sliceAdjust none none (-1) (n : Int) with | (lo, hi) => pure (lo, (-1 : Int), Builtin.Slice.slicePlaces lo hi (-1))) _ _ s
  rw [e1]
  show wpAny _ _ (pure (((n : Int) - 1), (-1 : Int), Builtin.Slice.slicePlaces ((n : Int) - 1) (-1) (-1))) _ _ s
  rw [e2]
  exact wpAny_pure h
theorem item_back {t sl : Addr} {items : Array Value} {vs : Value} {Q : Value → Shared → Prop} (ht : IsTup s.heap t items) (hs : s.heap.IsSliceOf sl .none .none vs) (ps : IsPart vs (some (-1)))
    (h : Q (.ref s.heap.objs.size) { s with heap := s.heap.push { cls := .type "tuple", data := .seq items.toList.reverse.toArray } }) (hz : items.size ≤ sizeLine) : wpAny (model prog w) A (getItem (.ref t) (.ref sl)) Q E s := by
  have fits : sizeOk (.seq items.toList.reverse.toArray) := by
    show items.toList.reverse.toArray.size ≤ sizeLine
    rw [List.size_toArray, List.length_reverse, Array.length_toList]
    exact hz
  have hT : s.TypeIs (.ref sl) "slice" := by
    obtain ⟨o, ho, hc, _⟩ := hs
    exact ⟨o, ho, hc⟩
  unfold getItem
  apply wpAny_holding
  apply wpAny_bind
  refine wpAny_sequenceKey ht.typeIs (by decide) ?_
  apply wpAny_bind
  refine wpAny_callSpecial?_slot (name := Str.ofString "__getitem__") ht.typeIs slot_tuple_getitem (wpAny_call_entry slot_tuple_getitem ht.typeIs entry_tuple_getitem ?_ (args_tuple_getitem _ _))
  show wpAny _ _ (Builtin.Tuple.tupleItemsOf (.ref t) >>= _) _ _ s
  apply wpAny_bind
  apply tupleItemsOf_ ht
  apply wpAny_bind
  apply wpAny_typeOf hT
  rw [if_pos (by decide)]
  apply wpAny_bind
  apply applied_back hs ps
  have no : ¬ ((((items.size : Nat) : Int) - 1 == 0 && (-1 : Int) == 1 && items.size == items.size) = true) := by
    intro q
    rw [Bool.and_eq_true, Bool.and_eq_true] at q
    exact absurd q.1.2 (by decide)
  show wpAny _ _ (if (((items.size : Nat) : Int) - 1 == 0 && (-1 : Int) == 1 && items.size == items.size) = true then _ else _) _ _ s
  rw [if_neg no, back_pick]
  refine wpAny_bind (m := Builtin.Tuple.tupleExact _) (wpAny_newObj_type ?_ fits)
  exact wpAny_pure ⟨_, rfl, wpAny_pure h⟩
end
section
variable {X : Cx} {T : Tabs} {cf : CF} {W : WX} {B : Base}
def tRevS (K : PySem.W.Frag) (te : TE) : TE := fun σ H Q => te σ H fun x H1 => ∃ a xs, x = V.ref a ∧ ((SqL K H1 a xs ∧ ∀ p, H1 p = none → Q (.ref p) (upd H1 p (.lst xs.reverse))) ∨ (SqT K H1 a xs ∧ ∀ p, H1 p = none → Q (.ref p) (upd H1 p (.tup xs.reverse))))
theorem pe_revS {e : Expr} {te : TE} {k : Nat} {p1 p2 p3 pos : Pos} (he : PE X e te) : PE X (.Subscript e (.Slice none none (some (.UnaryOp .USub (.Constant (.int 1) k p1) p2)) p3) pos) (tRevS X.K te) := by
  refine ⟨fun pins s σ H Q I h => ?_⟩
  refine Subscript_ (thn (he.run pins s σ H _ I h) fun v s1 ⟨x, H1, I1, r1, a, xs, ex, hx⟩ => ?_)
  subst ex
  cases r1
  have minus : PO X (some (.UnaryOp .USub (.Constant (.int 1) k p1) p2)) (tPart (tUn (rU fun i => .int (-i)) (tC (.int 1)))) := po_some (pe_un un_neg pe_int)
  refine wpAny_Slice ?_
  refine thn (po_none.run pins s1 σ H1 (fun o H2 => o = none ∧ H2 = H1) I1 ⟨rfl, rfl⟩) fun v1 s2 ⟨o1, H2, I2, q1, e1, e1'⟩ => ?_
  subst e1 e1'
  refine thn (po_none.run pins s2 σ H2 (fun o H3 => o = none ∧ H3 = H2) I2 ⟨rfl, rfl⟩) fun v2 s3 ⟨o2, H3, I3, q2, e2, e2'⟩ => ?_
  subst e2 e2'
  refine thn (minus.run pins s3 σ H3 (fun o H4 => o = some (-1) ∧ H4 = H3) I3 ⟨1, rfl, -1, rfl, rfl, rfl⟩) fun v3 s4 ⟨o3, H4, I4, q3, e3, e3'⟩ => ?_
  subst e3 e3'
  have I5 : Inv X pins σ H4 { s4 with heap := s4.heap.push { cls := .type "slice", data := .fields #[v1, v2, v3] } } := I4.kept (t' := s4.toks) fun b ob q => Heap.get?_push_of_some _ q
  show wpAny (model X.prog X.w) X.A (subscriptTail e (.Slice none none (some (.UnaryOp .USub (.Constant (.int 1) k p1) p2)) p3) (.ref a) (.ref s4.heap.objs.size)) (EP X pins σ Q) X.xe { s4 with heap := s4.heap.push { cls := .type "slice", data := .fields #[v1, v2, v3] } }
  have hn := I5.hok.fresh (Nat.le_refl _)
  rcases hx with ⟨hx, q⟩ | ⟨hx, q⟩
  · obtain ⟨its, r, ht, hz⟩ := I5.list hx
    have hl := r.length
    refine tail_any (ops := [.ref a, .ref s4.heap.objs.size]) ht.isList.typeIs (PySem.slot_list_getitem.lookup) ?_ (by with_unfolding_all rfl)
    refine wpAny_getItem_list_slice ht.isList (Heap.IsSliceOf.new _ v1 v2 v3) q1 q2 q3 (by decide) ?_ (by rw [List.size_toArray]; omega)
    rw [PySem.W.krv_pick]
    refine ⟨.ref _, _, I5.laid (t' := s4.toks) (o := .lst xs.reverse) (fun b ob q => Heap.get?_push_of_some _ q) (Nat.le_refl _) ?_, rfl, q _ hn⟩
    exact ⟨by rw [List.length_reverse]; exact hz, _, 0, r.reverse, Heap.get?_push_size _ rfl⟩
  · obtain ⟨its, r, ht, hz⟩ := I5.tuple hx
    have hl := r.length
    cases q1
    cases q2
    refine tail_any (ops := [.ref a, .ref s4.heap.objs.size]) ht.typeIs (slot_tuple_getitem.lookup) ?_ (by with_unfolding_all rfl)
    refine item_back ht (Heap.IsSliceOf.new _ .none .none v3) q3 ?_ (by rw [List.size_toArray]; omega)
    refine ⟨.ref _, _, I5.laid (t' := s4.toks) (o := .tup xs.reverse) (fun b ob q => Heap.get?_push_of_some _ q) (Nat.le_refl _) ?_, rfl, q _ hn⟩
    exact ⟨by rw [List.length_reverse]; exact hz, its.reverse, r.reverse, ⟨_, Heap.get?_push_size _ rfl, rfl, 0, rfl⟩⟩
theorem CRs_rev {S : List Addr} {G : Hp} : ∀ {vs : List V} {ds : List Q.D}, DVs T S G vs ds → DVs T S G vs.reverse ds.reverse
  | _, _, .nil => .nil
  | _, _, .cons h hs => by
    rw [List.reverse_cons, List.reverse_cons]
    exact (CRs_rev hs).append (.cons h .nil)
theorem re_rev {e : Expr} {ia : IE} (hK : T.K = X.K) (hp : PE X e (tRevS X.K (RE T cf W B ia))) : PE X e (RE T cf W B (.rev ia)) := by
  refine PE.imp hp fun σ H Q h => ?_
  obtain ⟨ρ, w, s, h⟩ := h
  refine RE.one s ?_
  simp only [evE] at h
  cases e1 : evE cf ia ρ w.st with
  | stuck => rw [e1] at h; exact h
  | exc x st' => rw [e1] at h; exact h
  | ok cx s1 =>
    rw [e1] at h
    simp only at h ⊢
    intro v H1 w1 fx hw1 t1 c1 fr1
    subst hw1
    cases e2 : revC cx with
    | none => rw [e2] at h; exact h.elim
    | some z =>
      rw [e2] at h
      have h' : Got T H1 w1 w1.st z Q := Got.next s.ok t1 h
      unfold revC at e2
      split at e2
      · cases e2
        obtain ⟨a, vs, rfl, h1, h2⟩ := c1.tup rfl
        exact ⟨a, vs, rfl, .inr ⟨SqT.of (t1.ok.ex _ _ h1), fun p hp => got_tup t1.ok hp (CRs_rev h2) h'⟩⟩
      · cases e3 : lstItems cx with
        | none => rw [e3] at e2; cases e2
        | some ds =>
          rw [e3] at e2
          cases e2
          obtain ⟨a, vs, rfl, h1, h2⟩ := c1.lst t1.ok.ex e3
          exact ⟨a, vs, rfl, .inl ⟨SqL.of h1, fun p hp => got_lst t1.ok hp (CRs.of_imm (CRs_rev h2)) (own_imms _) h'⟩⟩
/-! ### sorted, of a tuple of ints, too -/
theorem crq_sorted2 (hK : T.K = X.K) : CallR X (.builtin "sorted") (rBI T .sorted) := by
  intro pins s σ H xs us Q I r h
  obtain ⟨w, cs, fp, c, k, hc, e, q⟩ := h
  simp only [biC] at e
  unfold bSorted at e
  split at e
  · rename_i ds
    cases e2 : intsD ds with
    | none => rw [e2] at e; cases e
    | some ns =>
      rw [e2] at e
      cases e
      obtain ⟨v, rfl, h1⟩ := hc.one
      obtain ⟨a, vs, rfl, h2, h3⟩ := h1.tup rfl
      obtain ⟨rfl, _⟩ := ints_of h3 e2
      obtain ⟨its, rv, hl, hz⟩ := I.tuple (SqT.of (k.ex _ _ h2))
      rw [Vals.ref1 r]
      have hi := rv.ints
      refine sorted_tupI hl (by rw [← rv.length]; exact hz) hi fun out h1 h2 => ?_
      obtain ⟨k1, k2, k3⟩ := SrtO.ints_out hi h1 h2
      obtain ⟨ep, he'⟩ := PyProof.Rows.sortedAll_at s.heap its out.toArray
      have hlen : ((out.map SrtO.iv).map V.int).length ≤ sizeLine := by
        rw [List.length_map, k2.length_eq]
        rw [List.length_map] at hz
        exact hz
      have hns : out.map SrtO.iv = sortZ id ns := List.Perm.eq_of_pairwise (fun _ _ _ _ a b => Int.le_antisymm a b) k3 (sortZ_rises (f := id) ns) (k2.trans (sortZ_perm ns).symm)
      refine ⟨.ref _, upd H (s.heap.objs.size + 1) (.lst ((out.map SrtO.iv).map V.int)), I.laid (t' := s.toks) (fun _ _ => PyProof.Rows.sortedAll_old) (Nat.le_succ _) ⟨hlen, out, ep, vals_of_ints k1, he'⟩, rfl, ?_⟩
      rw [hns]
      exact got_lst k (I.hok.fresh (Nat.le_succ _)) (CRs.of_imm (dvs_int _)) (own_imms _) q
  · exact crq_sorted hK pins s σ H xs us Q I r ⟨w, _, fp, c, k, hc, e, q⟩
end
end Q

set_option maxRecDepth 100000
set_option maxHeartbeats 1000000
namespace Q
open PySem L2
/-! ### what stands in the text: small looks -/
def notStar : Expr → Bool
  | .Starred _ _ => false
  | _ => true
def noStars : List Expr → Bool
  | [] => true
  | e :: es => notStar e && noStars es
def baseOk : Expr → Bool
  | .Call (.Name _ _) [] [] _ => false
  | _ => true
def notSlice : Expr → Bool
  | .Slice _ _ _ _ => false
  | _ => true
def notSet : Expr → Bool
  | .Set _ _ _ => false
  | _ => true
def plainT : Expr → Bool
  | .Name _ _ => true
  | .Call _ _ _ _ => true
  | .Attribute _ _ _ => true
  | .Subscript _ _ _ => true
  | .Constant _ _ _ => true
  | _ => false
def noComp : Expr → Bool
  | .ListComp _ _ _ _ => false
  | .SetComp _ _ _ _ => false
  | .DictComp _ _ _ _ _ => false
  | _ => true
section
variable {env : Env} {e o v a b c : Expr} {es : List Expr} {pos apos : Pos} {m x : Str} {whole : Sem Value}
theorem star_cons (h : notStar e = true) : starEach (e :: es) env = (false, eval e env) :: starEach es env := by
  cases e <;> first | (cases h; done) | rfl
theorem star_any : ∀ {es : List Expr}, noStars es = true → (backTo pos (starEach es env)).any (·.1) = false
  | [], _ => rfl
  | e :: es, h => by
    rw [noStars, Bool.and_eq_true] at h
    rw [star_cons h.1]
    exact star_any (es := es) h.2
theorem star_all : ∀ {es : List Expr}, noStars es = true → (backTo pos (starEach es env)).all (fun x => !x.1) = true
  | [], _ => rfl
  | e :: es, h => by
    rw [noStars, Bool.and_eq_true] at h
    rw [star_cons h.1]
    exact star_all (es := es) h.2
theorem base_ok (h : baseOk o = true) : attributeBase o m env whole = whole := by
  unfold attributeBase
  split
  · cases h
  · rfl
theorem plain_ix (h : notSlice b = true) : PlainIx b := fun o i => by
  cases b <;> first | (cases h; done) | rfl
theorem plain_t (h : plainT e = true) : ∀ whole, isTrue e env whole = (do let v ← whole; standAt e.pos; holding [v] (truthy v)) := fun whole => by
  cases e <;> first | (cases h; done) | rfl
theorem no_swap {t : Option Expr} {l : Nat} (h : noComp e = true) : swapsWith e t l env = pure false := by
  cases e <;> first | (cases h; done) | rfl
theorem no_fold (h : notSet e = true) : ∀ x, foldedSetIterable e env x = pure x := fun x => by
  cases e <;> first | (cases h; done) | rfl
theorem no_mark {op : CmpOp} (h : notSet b = true) : behindInMarks op b = false := by
  cases b <;> first | (cases h; done) | rfl
theorem no_mark2 {op op' : CmpOp} (h : notSet c = true) : lastMarks [op, op'] [b, c] = false := no_mark h
theorem ht_ok (hb : baseOk o = true) (hs : noStars es = true) (hn : es.length < 30) (hl : (apos.endLine == pos.line) = true) :
    eval (.Call (.Attribute o m apos) es [] pos) env = (do
      let ov ← eval o env
      standAt apos.atName
      let (f, first) ← holding [ov] (getMethod ov m (do return (← importBound o env).getD true))
      callWith pos f first (backTo pos (starEach es env)) (backToKw pos (keywordEach [] env))) := by
  show (do
    let ov ← attributeBase o m env (eval o env)
    standAt apos.atName
    methodCall o m apos pos env ov (es.length + 0) (backTo pos (starEach es env)) (backToKw pos (keywordEach [] env))) = _
  rw [base_ok hb]
  have few : methodCallForm (es.length + 0) (backTo pos (starEach es env)) (backToKw pos (keywordEach [] env)) = true := by
    unfold methodCallForm
    rw [star_all hs]
    show (true && true && decide (es.length + 0 + 0 < 30)) = true
    rw [decide_eq_true (by omega)]
    rfl
  unfold methodCall
  rw [few]
  have hp : methodCallPos true o env apos pos = pure pos := by
    unfold methodCallPos
    rw [if_pos (by rw [hl]; rfl)]
  rw [hp]
  rfl
end
def relS (scope sc : Scope) : Scope := { scope with names := scope.names.map fun (n, k) => if (k == .free && sc.kind == .function && sc.names.lookup n == some .cell) then (n, .cell) else (n, k) }
theorem relS_eq {scope : Scope} {env : Env} {cl : List (Str × Addr)} {C : Addr} : (compEnvC scope cl C env).scope = relS scope env.scope := rfl
def visB (sc : Scope) (x : Str) : Bool := match sc.names.lookup x with
  | some .local => true
  | some .cell => true
  | some .free => true
  | _ => false
def locB (sc : Scope) (x : Str) : Bool := match sc.names.lookup x with
  | some .local => true
  | some .cell => true
  | _ => false
def glB (sc : Scope) (x : Str) : Bool := match sc.names.lookup x with
  | some .globalImplicit => true
  | _ => false
theorem vis_ok {sc : Scope} {x : Str} (h : visB sc x = true) : Vis sc x := by
  unfold visB at h
  unfold Vis
  split at h <;> first | (cases h; done) | simp [*]
theorem loc_ok {sc : Scope} {x : Str} (h : locB sc x = true) : L2.Loc sc x := by
  unfold locB at h
  unfold L2.Loc
  split at h <;> first | (cases h; done) | simp [*]
theorem gl_ok {X : Cx} {sc : Scope} {x : Str} (hs : X.env.scope = sc) (h : glB sc x = true) : Gl X x := by
  unfold glB at h
  unfold Gl Env.kindOf
  rw [hs]
  split at h <;> first | (cases h; done) | assumption
def blkB (N : List Str) (sc scope : Scope) (own : List (Str × Nat)) : Bool :=
  decide (scope.kind = .function) && scope.names.all (fun y => decide (scope.names.lookup y.1 = some y.2)) && own.all (fun p => decide (N[p.2]? = some p.1)) &&
  scope.names.all (fun y => decide (y.2 ≠ .free) || decide (sc.names.lookup y.1 = some .cell) || decide (sc.names.lookup y.1 = some .free)) &&
  scope.names.all (fun y => !(decide (y.2 = .local) || decide (y.2 = .cell)) || (own.map (·.1)).contains y.1 || !N.contains y.1)
theorem blk_ok {N : List Str} {sc scope : Scope} {own : List (Str × Nat)} (h : blkB N sc scope own = true) : BlkOk N sc scope own := by
  unfold blkB at h
  simp only [Bool.and_eq_true, List.all_eq_true, decide_eq_true_eq, Bool.or_eq_true, Bool.not_eq_true', List.contains_eq_mem] at h
  obtain ⟨⟨⟨⟨h1, h2⟩, h3⟩, h4⟩, h5⟩ := h
  refine ⟨h1, h2, h3, fun y hy hf => ?_, fun y hy hl => ?_⟩
  · rcases h4 y hy with (q | q) | q
    · exact absurd hf q
    · exact .inl q
    · exact .inr q
  · rcases h5 y hy with (q | q) | q
    · rw [Bool.or_eq_false_iff] at q
      rcases hl with z | z
      · rw [z] at q; cases q.1
      · rw [z] at q; cases q.2
    · exact .inl q
    · exact .inr (by simpa using q)
end Q

set_option maxRecDepth 100000
set_option maxHeartbeats 1000000
namespace Q
open PySem L2
/-! ### what the text's names are -/
inductive FK where
  | glob
  | meth (c : Nat)
  | init (c : Nat)
  deriving DecidableEq
structure Gs where
  fn : List (Str × Nat × FK)
  cl : List (Str × List Str)
  ex : List (Str × List Str)
  gv : List (Str × D)
def bnames : List Str := ["len", "int", "abs", "tuple", "list", "all", "any", "min", "max", "range", "isinstance", "bool", "str", "ValueError", "sorted", "set"]
structure GF (P : Program) (w : World) (K : PySem.W.Frag) (mg : Str → Option Value) (base : Heap) (T : Tabs) (g : Gs) (cf : CF) (k : Nat) : Prop where
  hK : T.K = K
  F : TF T
  bn : ∀ x ∈ bnames, mg x = none
  len : ∀ {f x n q}, g.fn[f]? = some (x, n, q) → ∀ cs st, cs.length ≠ n → cf f cs st = .stuck
  call : ∀ {f x n}, g.fn[f]? = some (x, n, .glob) → ∃ fa fd ps, mg x = some (.ref fa) ∧ PySem.W.keepIn K (.ref fa) = true ∧ Binds K fd ps [] ∧ FnOk P w K mg base (L2.CX P w) k fa fd ps (spF T cf f n)
  meth : ∀ {f x n c}, g.fn[f]? = some (x, n, .meth c) → ∃ C ns fa fd ps, T.cls c = some (C, ns) ∧ x ∉ ns ∧ Meth K C x fa ∧ Binds K fd ps [] ∧ FnOk P w K mg base (L2.CX P w) k fa fd ps (spF T cf f n)
  new : ∀ {f x n c}, g.fn[f]? = some (x, n, .init c) → ∃ C ns fa fd ps y, g.cl[c]? = some (y, ns) ∧ T.cls c = some (C, ns) ∧ mg y = some (.ref C) ∧ Mk K C fa ∧ Binds K fd ps [] ∧ FnOk P w K mg base (L2.CX P w) k fa fd ps (spI T cf c f n)
  cls : ∀ {c x ns}, g.cl[c]? = some (x, ns) → ∃ C, T.cls c = some (C, ns) ∧ mg x = some (.ref C)
  exc : ∀ {c x ns}, g.ex[c]? = some (x, ns) → ∃ A, T.exc c = some (A, ns) ∧ mg x = some (.ref A) ∧ PySem.W.keepIn K (.ref A) = true ∧ PySem.W.subIn K (.ref A) (.type "BaseException") = some true ∧ PySem.W.typeIn K (.ref A) = some (.type "type") ∧
    (ns = [] → PySem.W.excIn K A [.type "ValueError", .type "Exception", .type "BaseException", .type "object"] "ValueError.__new__" = true)
  exi : ∀ {c x n}, g.ex[c]? = some (x, [n]) → ∃ A fI fd ps, T.exc c = some (A, [n]) ∧ mg x = some (.ref A) ∧ OexC K A ∧ PySem.W.findIn K (.ref A) "__init__" = some (some (.ref fI)) ∧ PySem.W.typeIn K (.ref fI) = some (.type "function") ∧ Binds K fd ps [] ∧
    FnOk P w K mg base (L2.CX P w) k fI fd ps (spX A n) ∧ XfC K A ∧ PySem.W.findIn K (.ref A) n = some none
  gv : ∀ {x d}, (x, d) ∈ g.gv → ∃ v u, mg x = some u ∧ RelV v u ∧ ∀ S H, DV T S H v d
structure CtxE (X : Cx) (T : Tabs) (g : Gs) (cf : CF) (k : Nat) (N : List Str) (sc : Scope) (W : WX) : Prop where
  hs : X.env.scope = sc
  hN : X.N = N
  nd : N.Nodup
  calm : X.calm = true
  gf : GF X.prog X.w X.K X.mg X.base T g cf k
  room : Room (k + 1) X.A
  pass : ∀ σ, PassesAt (L2.CX X.prog X.w) X σ (WE W σ)
theorem pass0 {X : Cx} {σ : L2.St} : PassesAt (L2.CX X.prog X.w) X σ (WE W0 σ) := fun _ _ _ _ _ _ h => by
  obtain ⟨_, _, _, _, _, _, _, _, _, _, _, _, z⟩ := h
  exact z.elim
theorem CtxE.blk {X : Cx} {T : Tabs} {g : Gs} {cf : CF} {k : Nat} {N : List Str} {sc : Scope} {W : WX} (c : CtxE X T g cf k N sc W) {s : Shared} {H : Hp} {scope : Scope} {cl : List (Str × Addr)} {C : Addr} {fp : List Addr} :
    CtxE (X.blk s H scope (compEnvC scope cl C X.env) fp) T g cf k N (relS scope sc) W0 :=
  ⟨by rw [← c.hs]; rfl, c.hN, c.nd, c.calm, c.gf, c.room, fun _ => pass0⟩
/-! ### targets of the match -/
inductive Tg where
  | e (t : Bool) (e : Expr)
  | as (es : List Expr)
  | r (e : Expr)
def isBoolOp : Expr → Bool
  | .BoolOp _ _ _ => true
  | _ => false
def Snd (X : Cx) (T : Tabs) (cf : CF) (W : WX) (B : Base) (ie : IE) : Tg → Prop
  | .e false e => PE X e (RE T cf W B ie)
  | .e true e => PT X e (RT T cf W B ie) ∧ (isBoolOp e = true → PW X e (RT T cf W B ie))
  | .as es => PA X es (RA T cf W B ie)
  | .r e => isRange ie = true ∧ (∀ tg, PI X tg e (RI T cf W B ie)) ∧ (∀ tg, PI X tg e (RF T cf W B ie)) ∧ PRg X e (RR T cf W B ie)
abbrev Rec := Scope → Tg → Bool
def SndAll (T : Tabs) (g : Gs) (cf : CF) (k : Nat) (N : List Str) (ie : IE) (r : Rec) : Prop := ∀ {X sc W B tg}, CtxE X T g cf k N sc W → r sc tg = true → Snd X T cf W B ie tg
section
variable {X : Cx} {T : Tabs} {g : Gs} {cf : CF} {k : Nat} {N : List Str} {sc : Scope} {W : WX} {B : Base} {ie ia ib ic : IE} {ra rb rc : Rec} {tg : Tg} {e a b : Expr} {es : List Expr} {x : Str} {pos : Pos}
theorem CtxE.hK (c : CtxE X T g cf k N sc W) : T.K = X.K := c.gf.hK
theorem CtxE.units (c : CtxE X T g cf k N sc W) : X.A.units + 64 < cLine := by
  have := c.room.un
  omega
theorem CtxE.units5 (c : CtxE X T g cf k N sc W) : X.A.units + 65 < cLine := by
  have := c.room.un
  omega
-- a value, as a value or as a test
theorem snd_e {t : Bool} (c : CtxE X T g cf k N sc W) (hp : plainT e = true) (h : PE X e (RE T cf W B ie)) : Snd X T cf W B ie (.e t e) := by
  cases t with
  | false => exact h
  | true => exact ⟨rt_truth c.hK h (plain_t hp), fun q => by cases e <;> first | (cases q; done) | (cases hp; done)⟩
/-! names -/
def nameOk (x : Str) : Bool := !(x == ("__debug__" : Str)) && !(x == ("__classdict__" : Str))
theorem nameOk_ok (h : nameOk x = true) : (x == ("__debug__" : Str)) = false ∧ (x == ("__classdict__" : Str)) = false := by
  unfold nameOk at h
  rw [Bool.and_eq_true] at h
  simpa using h
def mVar (N : List Str) (i : Nat) (sc : Scope) : Tg → Bool
  | .e _ (.Name x _) => decide (N[i]? = some x) && visB sc x && nameOk x
  | _ => false
theorem pe_slot {i : Nat} (c : CtxE X T g cf k N sc W) (h : (decide (N[i]? = some x) && visB sc x && nameOk x) = true) : PE X (.Name x pos) (tVar i) := by
  simp only [Bool.and_eq_true, decide_eq_true_eq] at h
  exact pe_var (by rw [c.hN]; exact h.1.1) (by rw [c.hs]; exact vis_ok h.1.2) (nameOk_ok h.2).1 (nameOk_ok h.2).2
theorem mVar_ok {i : Nat} : SndAll T g cf k N (.var i) (mVar N i) := fun {X sc W B tg} c h => by
  unfold mVar at h
  split at h
  · simp only [Bool.and_eq_true, decide_eq_true_eq] at h
    exact snd_e c rfl (re_var (by rw [c.hN]; exact h.1.1) (by rw [c.hs]; exact vis_ok h.1.2) (nameOk_ok h.2).1 (nameOk_ok h.2).2)
  · cases h
/-! constants -/
mutual
def eqDD : D → D → Bool
  | .non, .non => true
  | .bl a, .bl b => a == b
  | .int a, .int b => decide (a = b)
  | .str a, .str b => decide (a = b)
  | .tup a, .tup b => eqDs a b
  | _, _ => false
def eqDs : List D → List D → Bool
  | [], [] => true
  | a :: as, b :: bs => eqDD a b && eqDs as bs
  | _, _ => false
end
mutual
theorem eqDD_ok : ∀ {a b : D}, eqDD a b = true → a = b
  | .non, b, h => by cases b <;> first | rfl | (simp only [eqDD] at h; cases h)
  | .bl a, b, h => by cases b <;> first | (simp only [eqDD, beq_iff_eq] at h; rw [h]) | (simp only [eqDD] at h; cases h)
  | .int a, b, h => by cases b <;> first | (simp only [eqDD, decide_eq_true_eq] at h; rw [h]) | (simp only [eqDD] at h; cases h)
  | .str a, b, h => by cases b <;> first | (simp only [eqDD, decide_eq_true_eq] at h; rw [h]) | (simp only [eqDD] at h; cases h)
  | .tup a, b, h => by cases b <;> first | (simp only [eqDD] at h; rw [eqDs_ok h]; done) | (simp only [eqDD] at h; cases h)
  | .lst a, b, h => by cases b <;> (simp only [eqDD] at h; cases h)
  | .scr a, b, h => by cases b <;> (simp only [eqDD] at h; cases h)
  | .ins _ a, b, h => by cases b <;> (simp only [eqDD] at h; cases h)
  | .sref _, b, h => by cases b <;> (simp only [eqDD] at h; cases h)
theorem eqDs_ok : ∀ {a b : List D}, eqDs a b = true → a = b
  | [], b, h => by cases b <;> first | rfl | (simp only [eqDs] at h; cases h)
  | a :: as, b, h => by
    cases b with
    | nil => simp only [eqDs] at h; cases h
    | cons b bs =>
      simp only [eqDs, Bool.and_eq_true] at h
      rw [eqDD_ok h.1, eqDs_ok h.2]
end
def conB (d : D) : Const → Bool
  | .int i => eqDD d (.int i)
  | .str s => eqDD d (.str s)
  | .bool b => eqDD d (.bl b)
  | .none => eqDD d .non
  | _ => false
def mCon (d : D) (_ : Scope) : Tg → Bool
  | .e _ (.Constant c _ _) => conB d c
  | _ => false
theorem mCon_ok {d : D} : SndAll T g cf k N (.con d) (mCon d) := fun {X sc W B tg} c h => by
  unfold mCon at h
  split at h
  · unfold conB at h
    split at h
    · cases eqDD_ok h; exact snd_e c rfl (re_con pe_int fun _ _ => .int _)
    · cases eqDD_ok h; exact snd_e c rfl (re_con pe_str fun _ _ => .str _)
    · cases eqDD_ok h; exact snd_e c rfl (re_con pe_bl fun _ _ => .bl _)
    · cases eqDD_ok h; exact snd_e c rfl (re_con pe_non fun _ _ => .non)
    · cases h
  · cases h
def mGlob (g : Gs) (y : Str) (d : D) (sc : Scope) : Tg → Bool
  | .e _ (.Name x _) => decide (x = y) && glB sc x && nameOk x && g.gv.any fun p => decide (p.1 = y) && eqDD p.2 d
  | _ => false
theorem mGlob_ok {y : Str} {d : D} : SndAll T g cf k N (.glob y d) (mGlob g y d) := fun {X sc W B tg} c h => by
  unfold mGlob at h
  split at h
  · simp only [Bool.and_eq_true, decide_eq_true_eq, List.any_eq_true] at h
    obtain ⟨⟨⟨rfl, h2⟩, h3⟩, ⟨x', d'⟩, h4, h5, h6⟩ := h
    cases eqDD_ok h6
    cases h5
    obtain ⟨v, u, q1, q2, q3⟩ := c.gf.gv h4
    exact snd_e c rfl (re_glob (pe_glob (gl_ok c.hs h2) q1 q2 (nameOk_ok h3).1) q3)
  · cases h
/-! operators -/
def binOk : Op → Operator → Bool
  | .add, .Add => true
  | .sub, .Sub => true
  | .mul, .Mult => true
  | .fdiv, .FloorDiv => true
  | .mod, .Mod => true
  | .pow, .Pow => true
  | _, _ => false
def cmpOk : Op → CmpOp → Bool
  | .eq, .Eq => true
  | .ne, .NotEq => true
  | .lt, .Lt => true
  | .le, .LtE => true
  | .gt, .Gt => true
  | .ge, .GtE => true
  | .is_, .Is => true
  | .isnot, .IsNot => true
  | .in_, .In => true
  | .notin, .NotIn => true
  | _, _ => false
theorem bin_opr {o : Op} {op : Operator} (h : binOk o op = true) : OpR X (binaryOp op) (rB T o) := by
  unfold binOk at h
  split at h
  · exact opr_add
  · exact opr_sub
  · exact opr_mul
  · exact opr_fdiv
  · exact opr_mod
  · exact opr_pow
  · cases h
theorem cmp_opr {o : Op} {op : CmpOp} (c : CtxE X T g cf k N sc W) (h : cmpOk o op = true) : OpR X (compareOp op) (rB T o) := by
  unfold cmpOk at h
  split at h
  · exact opr_eq c.units c.hK
  · exact opr_ne c.units c.hK
  · exact opr_lt
  · exact opr_le
  · exact opr_gt
  · exact opr_ge
  · exact opr_is
  · exact opr_isnot
  · exact opr_in c.units5 c.hK
  · exact opr_notin c.units5 c.hK
  · cases h
theorem bin_read {o : Op} {σ : L2.St} {H : Hp} {Q : VK} (h : RE T cf W B (.bin o ia ib) σ H Q) : tOp (rB T o) (RE T cf W B ia) (RE T cf W B ib) σ H Q := by
  obtain ⟨ρ, w, s, h⟩ := h
  refine RE.two (f := fun v u H2 => rB T o v u H2 Q) s ?_
  simp only [evE] at h
  cases e1 : evE cf ia ρ w.st with
  | stuck => rw [e1] at h; exact h
  | exc x st' => rw [e1] at h; exact h
  | ok x s1 =>
    rw [e1] at h
    simp only at h ⊢
    cases e2 : evE cf ib ρ s1 with
    | stuck => rw [e2] at h; exact h
    | exc x st' => rw [e2] at h; exact h
    | ok y s2 =>
      rw [e2] at h
      simp only at h ⊢
      cases e3 : binC o x y with
      | none => rw [e3] at h; exact h.elim
      | some z =>
        rw [e3] at h
        intro v u H' w' fx fy hw t c1 c2 fr
        refine ⟨w', x, y, fx, fy, z, t.ok, c1, c2, e3, ?_⟩
        intro v2 H2 w2 fp hw2 t2 c3 f3
        exact h v2 H2 w2 fp (hw2.trans hw) (Step.trans s.ok t t2) c3 (f3.back fun a ha => t.dom s.ok ha)
def isCmp : Op → Bool
  | .add => false | .sub => false | .mul => false | .fdiv => false | .mod => false | .pow => false
  | _ => true
def mBin (o : Op) (ra rb : Rec) (sc : Scope) : Tg → Bool
  | .e t (.BinOp x op y _) => !t && binOk o op && ra sc (.e false x) && rb sc (.e false y)
  | .e _ (.Compare x [op] [y] _) => cmpOk o op && notSet y && ra sc (.e false x) && rb sc (.e false y)
  | _ => false
theorem cmp_bool {o : Op} {op : CmpOp} (h : cmpOk o op = true) {x y z : Cell} (hz : binC o x y = some z) : ∃ k, z = .imm (.bl k) := by
  have via : ∀ {o : Op}, (∀ a b d, bopD o a b = some d → ∃ k, d = .bl k) → viaD o x y = some z → ∃ k, z = .imm (.bl k) := fun {o} ho hv => by
    unfold viaD at hv
    split at hv
    · rw [Option.map_eq_some_iff] at hv
      obtain ⟨d, h1, rfl⟩ := hv
      obtain ⟨k, rfl⟩ := ho _ _ _ h1
      exact ⟨k, rfl⟩
    · cases hv
  unfold cmpOk at h
  split at h <;> first | (cases h; done) | skip
  · exact via (fun a b d q => by simp only [bopD, Option.map_eq_some_iff] at q; obtain ⟨k, _, rfl⟩ := q; exact ⟨k, rfl⟩) hz
  · exact via (fun a b d q => by simp only [bopD, Option.map_eq_some_iff] at q; obtain ⟨k, _, rfl⟩ := q; exact ⟨_, rfl⟩) hz
  all_goals
    refine via (fun a b d q => ?_) hz
    simp only [bopD] at q
    repeat' split at q
    all_goals first | (cases q; done) | (cases q; exact ⟨_, rfl⟩) | (rw [Option.map_eq_some_iff] at q; obtain ⟨k, _, rfl⟩ := q; exact ⟨_, rfl⟩)
theorem mBin_ok {o : Op} (ha : SndAll T g cf k N ia ra) (hb : SndAll T g cf k N ib rb) : SndAll T g cf k N (.bin o ia ib) (mBin o ra rb) := fun {X sc W B tg} c h => by
  unfold mBin at h
  split at h
  · rename_i t x op y p
    simp only [Bool.and_eq_true, Bool.not_eq_true'] at h
    obtain ⟨⟨⟨rfl, h1⟩, h2⟩, h3⟩ := h
    exact PE.imp (pe_op (bin_opr h1) (ha (B := B) c h2) (hb (B := B) c h3)) fun σ H Q q => bin_read q
  · rename_i t x op y p
    simp only [Bool.and_eq_true] at h
    obtain ⟨⟨⟨h1, h4⟩, h2⟩, h3⟩ := h
    cases t with
    | false => exact PE.imp (pe_cmpR (cmp_opr c h1) (ha (B := B) c h2) (hb (B := B) c h3) (no_mark h4)) fun σ H Q q => bin_read q
    | true =>
      refine ⟨rt_cmp (pt_cmpR (cmp_opr c h1) (ha (B := B) c h2) (hb (B := B) c h3) (no_mark h4)) (fun σ H Q q => bin_read q) fun ρ st z s1 e => ?_, fun q => by cases q⟩
      simp only [evE] at e
      cases e1 : evE cf ia ρ st with
      | ok u s2 =>
        rw [e1] at e
        simp only at e
        cases e2 : evE cf ib ρ s2 with
        | ok v s3 =>
          rw [e2] at e
          simp only at e
          cases e3 : binC o u v with
          | none => rw [e3] at e; cases e
          | some r =>
            rw [e3] at e
            cases e
            exact cmp_bool h1 e3
        | exc _ _ => rw [e2] at e; cases e
        | stuck => rw [e2] at e; cases e
      | exc _ _ => rw [e1] at e; cases e
      | stuck => rw [e1] at e; cases e
  · cases h
end
end Q

set_option maxRecDepth 100000
set_option maxHeartbeats 1000000
namespace Q
open PySem L2
section
variable {T : Tabs} {g : Gs} {cf : CF} {k : Nat} {N : List Str} {ie ia ib ic : IE} {ra rb rc : Rec}
/-! places, chains, signs -/
def mIx (ra rb : Rec) (sc : Scope) : Tg → Bool
  | .e _ (.Subscript x y _) => notSlice y && ra sc (.e false x) && rb sc (.e false y)
  | _ => false
theorem mIx_ok (ha : SndAll T g cf k N ia ra) (hb : SndAll T g cf k N ib rb) : SndAll T g cf k N (.ix ia ib) (mIx ra rb) := fun {X sc W B tg} c h => by
  unfold mIx at h
  split at h
  · simp only [Bool.and_eq_true] at h
    exact snd_e c rfl (re_ix c.hK (ha (B := B) c h.1.2) (hb (B := B) c h.2) (plain_ix h.1.1))
  · cases h
theorem chn_read {o1 o2 : Op} {W : WX} {B : Base} {σ : L2.St} {H : Hp} {Q : VK} (h : RE T cf W B (.chn o1 o2 ia ib ic) σ H Q) : tChain (rB T o1) (rB T o2) (RE T cf W B ia) (RE T cf W B ib) (RE T cf W B ic) σ H Q := chn_rd h
def mChn (o1 o2 : Op) (ra rb rc : Rec) (sc : Scope) : Tg → Bool
  | .e _ (.Compare x [p1, p2] [y, z] _) => cmpOk o1 p1 && cmpOk o2 p2 && notSet z && ra sc (.e false x) && rb sc (.e false y) && rc sc (.e false z)
  | _ => false
theorem chn_bool {o1 o2 : Op} {p2 : CmpOp} (h : cmpOk o2 p2 = true) {ρ : Ev} {st s1 : Store} {z : Cell} (e : evE cf (.chn o1 o2 ia ib ic) ρ st = .ok z s1) : ∃ k, z = .imm (.bl k) := by
  simp only [evE] at e
  split at e
  · split at e
    · split at e
      · split at e
        · split at e
          · rename_i q
            cases e
            exact cmp_bool h q
          · cases e
        · rename_i q
          exact (q _ _ e).elim
      · cases e
        exact ⟨_, rfl⟩
      · cases e
    · rename_i q
      exact (q _ _ e).elim
  · rename_i q
    exact (q _ _ e).elim
theorem mChn_ok {o1 o2 : Op} (ha : SndAll T g cf k N ia ra) (hb : SndAll T g cf k N ib rb) (hc : SndAll T g cf k N ic rc) : SndAll T g cf k N (.chn o1 o2 ia ib ic) (mChn o1 o2 ra rb rc) := fun {X sc W B tg} c h => by
  unfold mChn at h
  split at h
  · rename_i t x p1 p2 y z p
    simp only [Bool.and_eq_true] at h
    obtain ⟨⟨⟨⟨⟨h1, h2⟩, h3⟩, h4⟩, h5⟩, h6⟩ := h
    cases t with
    | false => exact PE.imp (pe_chain (cmp_opr c h1) (cmp_opr c h2) (ha (B := B) c h4) (hb (B := B) c h5) (hc (B := B) c h6) (no_mark2 h3)) fun σ H Q q => chn_read q
    | true => exact ⟨rt_cmp (pt_chain (cmp_opr c h1) (cmp_opr c h2) (ha (B := B) c h4) (hb (B := B) c h5) (hc (B := B) c h6) (no_mark2 h3)) (fun σ H Q q => chn_read q) fun ρ st z s1 e => chn_bool h2 e, fun q => by cases q⟩
  · cases h
def mKp (ra : Rec) (sc : Scope) : Tg → Bool
  | .e false e => ra sc (.e false e)
  | _ => false
theorem mKp_ok (ha : SndAll T g cf k N ia ra) : SndAll T g cf k N (.kp ia) (mKp ra) := fun {X sc W B tg} c h => by
  unfold mKp at h
  split at h
  · exact re_kp (ha (B := B) c h)
  · cases h
def mNeg (ra : Rec) (sc : Scope) : Tg → Bool
  | .e false (.UnaryOp .USub x _) => ra sc (.e false x)
  | _ => false
theorem mNeg_ok (ha : SndAll T g cf k N ia ra) : SndAll T g cf k N (.neg ia) (mNeg ra) := fun {X sc W B tg} c h => by
  unfold mNeg at h
  split at h
  · exact re_neg (ha (B := B) c h)
  · cases h
/-! not, and, or -/
def mNot (ra : Rec) (sc : Scope) : Tg → Bool
  | .e t (.UnaryOp .Not x _) => ra sc (.e t x)
  | _ => false
theorem mNot_ok (ha : SndAll T g cf k N ia ra) : SndAll T g cf k N (.not ia) (mNot ra) := fun {X sc W B tg} c h => by
  unfold mNot at h
  split at h
  · rename_i t x p
    cases t with
    | false => exact re_not c.hK (ha (B := B) c h)
    | true => exact ⟨rt_not (ha (B := B) c h).1, fun q => by cases q⟩
  · cases h
def mBool (op : BoolOp) (ra rb : Rec) (sc : Scope) : Tg → Bool
  | .e t (.BoolOp o (x :: y :: r) p) => decide (o = op) && ra sc (.e t x) && (match r with | [] => rb sc (.e t y) | z :: r => rb sc (.e t (.BoolOp o (y :: z :: r) p)))
  | _ => false
theorem mAnd_ok (ha : SndAll T g cf k N ia ra) (hb : SndAll T g cf k N ib rb) : SndAll T g cf k N (.and ia ib) (mBool .And ra rb) := fun {X sc W B tg} c h => by
  unfold mBool at h
  split at h
  · rename_i t o x y r p
    simp only [Bool.and_eq_true, decide_eq_true_eq] at h
    obtain ⟨⟨rfl, h1⟩, h2⟩ := h
    cases t with
    | false =>
      refine re_and c.hK (ha (B := B) c h1) ?_
      cases r with
      | nil => exact pe_one (hb (B := B) c h2)
      | cons z r => exact hb (B := B) c h2
    | true =>
      have k : PW X (.BoolOp .And (x :: y :: r) p) (RT T cf W B (.and ia ib)) := by
        refine rt_and (ha (B := B) c h1).1 ?_
        cases r with
        | nil => exact pw_and1 (hb (B := B) c h2).1
        | cons z r => exact (hb (B := B) c h2).2 rfl
      exact ⟨k.pt, fun _ => k⟩
  · cases h
theorem mOr_ok (ha : SndAll T g cf k N ia ra) (hb : SndAll T g cf k N ib rb) : SndAll T g cf k N (.or ia ib) (mBool .Or ra rb) := fun {X sc W B tg} c h => by
  unfold mBool at h
  split at h
  · rename_i t o x y r p
    simp only [Bool.and_eq_true, decide_eq_true_eq] at h
    obtain ⟨⟨rfl, h1⟩, h2⟩ := h
    cases t with
    | false =>
      refine re_or c.hK (ha (B := B) c h1) ?_
      cases r with
      | nil => exact pe_one (hb (B := B) c h2)
      | cons z r => exact hb (B := B) c h2
    | true =>
      have k : PW X (.BoolOp .Or (x :: y :: r) p) (RT T cf W B (.or ia ib)) := by
        refine rt_or (ha (B := B) c h1).1 ?_
        cases r with
        | nil => exact pw_or1 (hb (B := B) c h2).1
        | cons z r => exact (hb (B := B) c h2).2 rfl
      exact ⟨k.pt, fun _ => k⟩
  · cases h
def mIte (rc ra rb : Rec) (sc : Scope) : Tg → Bool
  | .e false (.IfExp t x y _) => rc sc (.e true t) && ra sc (.e false x) && rb sc (.e false y)
  | _ => false
theorem mIte_ok (hc : SndAll T g cf k N ic rc) (ha : SndAll T g cf k N ia ra) (hb : SndAll T g cf k N ib rb) : SndAll T g cf k N (.ite ic ia ib) (mIte rc ra rb) := fun {X sc W B tg} c h => by
  unfold mIte at h
  split at h
  · simp only [Bool.and_eq_true] at h
    exact re_ite (hc (B := B) c h.1.1).1 (ha (B := B) c h.1.2) (hb (B := B) c h.2)
  · cases h
/-! rows of expressions -/
def mNil (_ : Scope) : Tg → Bool
  | .as [] => true
  | _ => false
theorem mNil_ok : SndAll T g cf k N .nil mNil := fun {X sc W B tg} c h => by
  unfold mNil at h
  split at h
  · exact ra_nil
  · cases h
def mCons (ra rb : Rec) (sc : Scope) : Tg → Bool
  | .as (x :: xs) => notStar x && ra sc (.e false x) && rb sc (.as xs)
  | _ => false
theorem mCons_ok (ha : SndAll T g cf k N ia ra) (hb : SndAll T g cf k N ib rb) : SndAll T g cf k N (.cons ia ib) (mCons ra rb) := fun {X sc W B tg} c h => by
  unfold mCons at h
  split at h
  · simp only [Bool.and_eq_true] at h
    exact ra_cons (ha (B := B) c h.1.2) (hb (B := B) c h.2) (star_cons h.1.1)
  · cases h
def mTup (ra : Rec) (sc : Scope) : Tg → Bool
  | .e false (.Tuple es _ _) => ra sc (.as es)
  | _ => false
theorem mTup_ok (ha : SndAll T g cf k N ia ra) : SndAll T g cf k N (.tup ia) (mTup ra) := fun {X sc W B tg} c h => by
  unfold mTup at h
  split at h
  · exact re_tup (ha (B := B) c h)
  · cases h
def mLst (ra : Rec) (sc : Scope) : Tg → Bool
  | .e false (.List es _) => ra sc (.as es)
  | _ => false
theorem mLst_ok (ha : SndAll T g cf k N ia ra) : SndAll T g cf k N (.lst ia) (mLst ra) := fun {X sc W B tg} c h => by
  unfold mLst at h
  split at h
  · exact re_lst (ha (B := B) c h)
  · cases h
theorem mNref_ok (ha : SndAll T g cf k N ia ra) : SndAll T g cf k N (.nref ia) (mLst ra) := fun {X sc W B tg} c h => by
  unfold mLst at h
  split at h
  · exact re_nref (ha (B := B) c h)
  · cases h
/-! slices -/
def isNP : IE → Bool
  | .nopart => true
  | _ => false
def mPart (i : IE) (r : Rec) (sc : Scope) : Option Expr → Bool
  | none => isNP i
  | some e => !isNP i && r sc (.e false e)
def mSlc (il ih : IE) (ra rl rh : Rec) (sc : Scope) : Tg → Bool
  | .e _ (.Subscript x (.Slice l h none _) _) => ra sc (.e false x) && mPart il rl sc l && mPart ih rh sc h
  | _ => false
theorem mPart_ok {X : Cx} {sc : Scope} {W : WX} {B : Base} {o : Option Expr} (c : CtxE X T g cf k N sc W) (ha : SndAll T g cf k N ia ra) (h : mPart ia ra sc o = true) : PO X o (RO T cf W B ia) := by
  unfold mPart at h
  split at h
  · cases ia <;> first | (cases h; done) | exact ro_none
  · rw [Bool.and_eq_true] at h
    exact ro_some (fun z => by subst z; cases h.1) (ha (B := B) c h.2)
theorem mSlc_ok {rl rh : Rec} {il ih : IE} (ha : SndAll T g cf k N ia ra) (hl : SndAll T g cf k N il rl) (hh : SndAll T g cf k N ih rh) : SndAll T g cf k N (.slc ia il ih) (mSlc il ih ra rl rh) := fun {X sc W B tg} c h => by
  unfold mSlc at h
  split at h
  · simp only [Bool.and_eq_true] at h
    exact snd_e c rfl (re_slc c.hK (ha (B := B) c h.1.1) (mPart_ok c hl h.1.2) (mPart_ok c hh h.2))
  · cases h
/-! fields -/
def mFld (g : Gs) (ci j : Nat) (ra : Rec) (sc : Scope) : Tg → Bool
  | .e _ (.Attribute x f _) => baseOk x && (match g.cl[ci]? with | some (_, ns) => decide (ns[j]? = some f) | none => false) && ra sc (.e false x)
  | _ => false
theorem mFld_ok {ci j : Nat} (ha : SndAll T g cf k N ia ra) : SndAll T g cf k N (.fld ia ci j) (mFld g ci j ra) := fun {X sc W B tg} c h => by
  unfold mFld at h
  split at h
  · simp only [Bool.and_eq_true] at h
    obtain ⟨⟨h1, h2⟩, h3⟩ := h
    split at h2
    · rename_i q
      obtain ⟨C, q1, q2⟩ := c.gf.cls q
      exact snd_e c rfl (re_fld c.gf.F c.hK q1 (of_decide_eq_true h2) (ha (B := B) c h3) (base_ok h1))
    · cases h2
  · cases h
/-! calls -/
theorem ra_tnil {X : Cx} {W : WX} {B : Base} {es : List Expr} {σ : L2.St} {H : Hp} {Q : List V → Hp → Prop} (h : RA T cf W B .nil σ H Q) : Q [] H := by
  obtain ⟨ρ, w, s, h⟩ := h
  simp only [evE] at h
  exact h [] H w [] rfl (Step.refl s.ok) .nil Fr.nil
def isNil : IE → Bool
  | .nil => true
  | _ => false
def mCall (g : Gs) (f : Nat) (ia : IE) (ra : Rec) (sc : Scope) : Tg → Bool
  | .e _ (.Call (.Name x _) es [] _) => (match g.fn[f]? with | some (y, _, .glob) => decide (y = x) | _ => false) && glB sc x && nameOk x && noStars es && ra sc (.as es) && (match es with | [] => isNil ia | _ => true)
  | _ => false
theorem CtxE.room0 {X : Cx} {sc : Scope} {W : WX} (c : CtxE X T g cf k N sc W) : Room k X.A := c.room.mono (Nat.le_succ k)
theorem mCall_ok {f : Nat} (ha : SndAll T g cf k N ia ra) : SndAll T g cf k N (.call f ia) (mCall g f ia ra) := fun {X sc W B tg} c h => by
  unfold mCall at h
  split at h
  · rename_i t x p es pos
    simp only [Bool.and_eq_true] at h
    obtain ⟨⟨⟨⟨⟨h1, h2⟩, h3⟩, h4⟩, h5⟩, h6⟩ := h
    split at h1
    · rename_i y n q
      obtain rfl := of_decide_eq_true h1
      obtain ⟨fa, fd, ps, q1, q2, q3, q4⟩ := c.gf.call q
      refine snd_e c rfl (re_call (c.gf.len q) ?_)
      cases es with
      | nil =>
        cases ia <;> first | (cases h6; done) | skip
        exact PE.imp (pe_callS0 q4 c.room0 (gl_ok c.hs h2) q1 q2 q3 c.pass (nameOk_ok h3).1) fun σ H Q q => ra_tnil (X := X) (es := []) q
      | cons e es =>
        rw [noStars, Bool.and_eq_true] at h4
        exact pe_callS q4 c.room0 (gl_ok c.hs h2) q1 q2 q3 c.pass (ha (B := B) c h5) (nameOk_ok h3).1 (star_cons h4.1) (star_any h4.2)
    · cases h1
  · cases h
def isMeth (g : Gs) (f ci : Nat) (m : Str) : Bool := match g.fn[f]? with
  | some (y, _, .meth c) => decide (y = m) && decide (c = ci)
  | _ => false
def mMeth (g : Gs) (ci f : Nat) (ia : IE) (ro ra : Rec) (sc : Scope) : Tg → Bool
  | .e _ (.Call (.Attribute o m apos) es [] pos) => isMeth g f ci m && baseOk o && noStars es && decide (es.length < 30) && (apos.endLine == pos.line) && ro sc (.e false o) && ra sc (.as es) && (match es with | [] => isNil ia | _ => true)
  | _ => false
theorem mMeth_ok {ci f : Nat} {io : IE} {ro : Rec} (ho : SndAll T g cf k N io ro) (ha : SndAll T g cf k N ia ra) : SndAll T g cf k N (.meth ci f io ia) (mMeth g ci f ia ro ra) := fun {X sc W B tg} c h => by
  unfold mMeth at h
  split at h
  · rename_i t o m apos es pos
    simp only [Bool.and_eq_true, decide_eq_true_eq] at h
    obtain ⟨⟨⟨⟨⟨⟨⟨h1, h2⟩, h3⟩, h4⟩, h5⟩, h6⟩, h7⟩, h8⟩ := h
    unfold isMeth at h1
    split at h1
    · rename_i y n c' q
      simp only [Bool.and_eq_true, decide_eq_true_eq] at h1
      obtain ⟨rfl, rfl⟩ := h1
      obtain ⟨C, ns, fa, fd, ps, q1, q2, q3, q4, q5⟩ := c.gf.meth q
      have cC : Cls X.K C := by rw [← c.hK]; exact c.gf.F.cl q1
      refine snd_e c rfl (re_meth q1 q2 (c.gf.len q) ?_)
      cases es with
      | nil =>
        cases ia <;> first | (cases h8; done) | skip
        refine PE.imp (pe_methS0 (ho (B := B) c h6) cC q3 q5 c.room0 q4 c.pass (ht_ok h2 h3 h4 h5)) fun σ H Q q => ?_
        obtain ⟨ρ, w, s, q⟩ := q
        refine ⟨ρ, w, s, ?_⟩
        cases e1 : evE cf io ρ w.st with
        | ok x st' =>
          rw [e1] at q
          intro v H' w' fp hw t cr fr
          obtain ⟨a, dx, fs, z1, z2, z3, z4⟩ := q v H' w' fp hw t cr fr
          exact ⟨a, dx, fs, z1, z2, z3, ra_tnil (X := X) (es := []) z4⟩
        | exc x st' => rw [e1] at q; exact q
        | stuck => rw [e1] at q; exact q
      | cons e es =>
        have h3' := h3
        rw [noStars, Bool.and_eq_true] at h3'
        exact pe_methS (ho (B := B) c h6) cC q3 q5 c.room0 q4 c.pass (ha (B := B) c h7) (star_cons h3'.1) (star_any h3'.2) (ht_ok h2 h3 h4 h5)
    · cases h1
  · cases h
def mNew (g : Gs) (ci f : Nat) (ra : Rec) (sc : Scope) : Tg → Bool
  | .e _ (.Call (.Name x _) (e :: es) [] _) => (match g.fn[f]?, g.cl[ci]? with | some (_, _, .init c), some (y, _) => decide (c = ci) && decide (y = x) | _, _ => false) && glB sc x && nameOk x && noStars (e :: es) && ra sc (.as (e :: es))
  | _ => false
theorem mNew_ok {ci f : Nat} (ha : SndAll T g cf k N ia ra) : SndAll T g cf k N (.new ci f ia) (mNew g ci f ra) := fun {X sc W B tg} c h => by
  unfold mNew at h
  split at h
  · rename_i t x p e es pos
    simp only [Bool.and_eq_true] at h
    obtain ⟨⟨⟨⟨h1, h2⟩, h3⟩, h4⟩, h5⟩ := h
    split at h1
    · rename_i z n c' y ns q1 q2
      simp only [Bool.and_eq_true, decide_eq_true_eq] at h1
      obtain ⟨rfl, rfl⟩ := h1
      obtain ⟨C, ns', fa, fd, ps, y', r1, r2, r3, r4, r5, r6⟩ := c.gf.new q1
      rw [q2] at r1
      cases r1
      rw [noStars, Bool.and_eq_true] at h4
      exact snd_e c rfl (re_new r2 (c.gf.len q1) (pe_makeS r4 r6 c.room (gl_ok c.hs h2) r3 r5 c.pass (ha (B := B) c h5) (nameOk_ok h3).1 (star_cons h4.1) (star_any h4.2)))
    · cases h1
  · cases h
/-! builtins -/
theorem boot_abs : bootBuiltins "abs" = some (.builtin "abs") := by decide +kernel
theorem boot_min : bootBuiltins "min" = some (.builtin "min") := by decide +kernel
theorem boot_max : bootBuiltins "max" = some (.builtin "max") := by decide +kernel
theorem boot_all : bootBuiltins "all" = some (.builtin "all") := by decide +kernel
theorem boot_any : bootBuiltins "any" = some (.builtin "any") := by decide +kernel
theorem boot_isi : bootBuiltins "isinstance" = some (.builtin "isinstance") := by decide +kernel
theorem boot_int : bootBuiltins "int" = some (.type "int") := by decide +kernel
theorem boot_list : bootBuiltins "list" = some (.type "list") := by decide +kernel
theorem boot_tuple : bootBuiltins "tuple" = some (.type "tuple") := by decide +kernel
theorem boot_str : bootBuiltins "str" = some (.type "str") := by decide +kernel
theorem boot_bool : bootBuiltins "bool" = some (.type "bool") := by decide +kernel
theorem boot_len : bootBuiltins "len" = some (.builtin "len") := by decide +kernel
theorem boot_sorted : bootBuiltins "sorted" = some (.builtin "sorted") := by decide +kernel
theorem boot_VE : bootBuiltins "ValueError" = some (.type "ValueError") := by decide +kernel
def biName : BI → Str
  | .len => "len" | .int => "int" | .abs => "abs" | .tuple => "tuple" | .list => "list" | .all => "all" | .any => "any" | .min2 => "min" | .max2 => "max" | .sorted => "sorted" | .min1 => "min" | .max1 => "max" | .sset => "sorted" | .lset => "len"
def biN : BI → Nat
  | .min2 => 2
  | .max2 => 2
  | _ => 1
-- sorted(set(x)), len(set(x))
def isSet : BI → Bool
  | .sset => true
  | .lset => true
  | _ => false
def mSet (b : BI) (ra : Rec) (sc : Scope) : Tg → Bool
  | .e _ (.Call (.Name x _) [.Call (.Name y _) [a] [] _] [] _) => decide (x = biName b) && decide (y = "set") && glB sc x && glB sc y && notStar a && ra sc (.as [a])
  | _ => false
theorem mSet_ok {b : BI} (hb : isSet b = true) (ha : SndAll T g cf k N ia ra) : SndAll T g cf k N (.bi b ia) (mSet b ra) := fun {X sc W B tg} c h => by
  unfold mSet at h
  split at h
  · rename_i t x p y p2 a pos2 pos
    simp only [Bool.and_eq_true, decide_eq_true_eq] at h
    obtain ⟨⟨⟨⟨⟨rfl, rfl⟩, h1⟩, h2⟩, h3⟩, h4⟩ := h
    have G1 := gl_ok c.hs h1
    have G2 := gl_ok c.hs h2
    have A := ha (B := B) (W := W) c h4
    have S1 := star_cons (es := []) (env := X.env) h3
    refine snd_e c rfl (re_bi rfl ?_ A)
    intro t A
    cases b <;> first | (cases hb; done) | skip
    · exact pe_sset c.calm c.hK G1 (c.gf.bn _ (by decide)) G2 (c.gf.bn _ (by decide)) A S1
    · exact pe_lset c.calm c.hK G1 (c.gf.bn _ (by decide)) G2 (c.gf.bn _ (by decide)) A S1
  · cases h
def mBi (b : BI) (ra : Rec) (sc : Scope) : Tg → Bool
  | .e _ (.Call (.Name x _) (e :: es) [] _) => !isSet b && decide (x = biName b) && decide (es.length + 1 = biN b) && glB sc x && noStars (e :: es) && ra sc (.as (e :: es))
  | _ => false
theorem mBi_ok {b : BI} (ha : SndAll T g cf k N ia ra) : SndAll T g cf k N (.bi b ia) (mBi b ra) := fun {X sc W B tg} c h => by
  unfold mBi at h
  split at h
  · rename_i t x p e es pos
    simp only [Bool.and_eq_true, decide_eq_true_eq] at h
    obtain ⟨⟨⟨⟨⟨h0, rfl⟩, h1⟩, h2⟩, h3⟩, h4⟩ := h
    rw [noStars, Bool.and_eq_true] at h3
    have G := gl_ok c.hs h2
    have S1 := star_cons (es := es) (env := X.env) h3.1
    have S2 := star_any (env := X.env) (pos := pos) h3.2
    have A := ha (B := B) (W := W) c h4
    refine snd_e c rfl (re_bi rfl ?_ A)
    intro t A
    cases b with
    | sset => cases h0
    | lset => cases h0
    | len => exact pe_callB (cr_len c.hK) G (c.gf.bn _ (by decide)) boot_len A (by decide) (by decide) S1 S2
    | int => exact pe_callTy cr_int G (c.gf.bn _ (by decide)) boot_int A (by decide) (by decide) S1 S2
    | abs => exact pe_callB cr_abs G (c.gf.bn _ (by decide)) boot_abs A (by decide) (by decide) S1 S2
    | tuple => exact pe_callTy cr_tuple G (c.gf.bn _ (by decide)) boot_tuple A (by decide) (by decide) S1 S2
    | list => exact pe_callTy (cr_list c.hK) G (c.gf.bn _ (by decide)) boot_list A (by decide) (by decide) S1 S2
    | all => exact pe_callB (crq_all c.calm c.hK) G (c.gf.bn _ (by decide)) boot_all A (by decide) (by decide) S1 S2
    | any => exact pe_callB (crq_any c.calm c.hK) G (c.gf.bn _ (by decide)) boot_any A (by decide) (by decide) S1 S2
    | min2 => exact pe_callB (cr_min2 c.calm) G (c.gf.bn _ (by decide)) boot_min A (by decide) (by decide) S1 S2
    | max2 => exact pe_callB (cr_max2 c.calm) G (c.gf.bn _ (by decide)) boot_max A (by decide) (by decide) S1 S2
    | sorted => exact pe_callB (crq_sorted2 c.hK) G (c.gf.bn _ (by decide)) boot_sorted A (by decide) (by decide) S1 S2
    | min1 => exact pe_callB (crq_min1 c.calm) G (c.gf.bn _ (by decide)) boot_min A (by decide) (by decide) S1 S2
    | max1 => exact pe_callB (crq_max1 c.calm) G (c.gf.bn _ (by decide)) boot_max A (by decide) (by decide) S1 S2
  · cases h
def mBS (b : BI) (ra : Rec) : Rec := if isSet b then mSet b ra else mBi b ra
theorem mBS_ok {b : BI} (ha : SndAll T g cf k N ia ra) : SndAll T g cf k N (.bi b ia) (mBS b ra) := by
  unfold mBS
  split
  · rename_i h
    exact mSet_ok h ha
  · exact mBi_ok ha
/-! ranges -/
def mRng1 (ra : Rec) (sc : Scope) : Tg → Bool
  | .r (.Call (.Name x _) [a] [] _) => decide (x = "range") && glB sc x && notStar a && ra sc (.e false a)
  | _ => false
theorem mRng1_ok (ha : SndAll T g cf k N ia ra) : SndAll T g cf k N (.range1 ia) (mRng1 ra) := fun {X sc W B tg} c h => by
  unfold mRng1 at h
  split at h
  · simp only [Bool.and_eq_true, decide_eq_true_eq] at h
    obtain ⟨⟨⟨rfl, h1⟩, h2⟩, h3⟩ := h
    have G := gl_ok c.hs h1
    have M := c.gf.bn "range" (by decide)
    have S1 := star_cons (es := []) (env := X.env) h2
    exact ⟨rfl, fun tg => ri_rng1 G M (ha (B := B) c h3) S1 S1, fun tg => rf_rng1 G M (ha (B := B) c h3) S1 S1, rr_1 G M (ha (B := B) c h3) S1⟩
  · cases h
def mRng2 (ra rb : Rec) (sc : Scope) : Tg → Bool
  | .r (.Call (.Name x _) [a, b] [] _) => decide (x = "range") && glB sc x && notStar a && notStar b && ra sc (.e false a) && rb sc (.e false b)
  | _ => false
theorem mRng2_ok (ha : SndAll T g cf k N ia ra) (hb : SndAll T g cf k N ib rb) : SndAll T g cf k N (.range2 ia ib) (mRng2 ra rb) := fun {X sc W B tg} c h => by
  unfold mRng2 at h
  split at h
  · rename_i x p a b pos
    simp only [Bool.and_eq_true, decide_eq_true_eq] at h
    obtain ⟨⟨⟨⟨⟨rfl, h1⟩, h2⟩, h3⟩, h4⟩, h5⟩ := h
    have G := gl_ok c.hs h1
    have M := c.gf.bn "range" (by decide)
    have S2 := star_cons (es := []) (env := X.env) h3
    have S1 := star_cons (es := [b]) (env := X.env) h2
    have S12 : starEach [a, b] X.env = [(false, eval a X.env), (false, eval b X.env)] := by rw [S1, S2]; rfl
    exact ⟨rfl, fun tg => ri_rng2 G M (ha (B := B) c h4) (hb (B := B) c h5) S1 S2 S12 S2, fun tg => rf_rng2 G M (ha (B := B) c h4) (hb (B := B) c h5) S1 S2 S12 S2, rr_2 G M (ha (B := B) c h4) (hb (B := B) c h5) S1 S2 (star_any (by rw [noStars, h3]; rfl))⟩
  · cases h
def mLrange (b : Bool) (ra : Rec) (sc : Scope) : Tg → Bool
  | .e _ (.Call (.Name x _) [a] [] _) => decide (x = if b then "tuple" else "list") && glB sc x && notStar a && ra sc (.r a)
  | _ => false
theorem mLrange_ok {b : Bool} (ha : SndAll T g cf k N ia ra) : SndAll T g cf k N (.lrange b ia) (mLrange b ra) := fun {X sc W B tg} c h => by
  unfold mLrange at h
  split at h
  · simp only [Bool.and_eq_true, decide_eq_true_eq] at h
    obtain ⟨⟨⟨h0, h1⟩, h2⟩, h3⟩ := h
    have G := gl_ok c.hs h1
    obtain ⟨r1, _, _, r2⟩ := ha (B := B) (W := W) c h3
    have S1 := star_cons (es := []) (env := X.env) h2
    refine snd_e c rfl (re_lrange (k := b) rfl r1 ?_)
    cases b with
    | true =>
      subst h0
      exact pe_tupRg c.calm G (c.gf.bn _ (by decide)) r2 S1
    | false =>
      subst h0
      exact pe_listRg c.calm G (c.gf.bn _ (by decide)) r2 S1
  · cases h
end
end Q

set_option maxRecDepth 100000
set_option maxHeartbeats 1000000
namespace Q
open PySem L2
section
variable {T : Tabs} {g : Gs} {cf : CF} {k : Nat} {N : List Str} {ie ia ib ic : IE} {ra rb rc : Rec}
/-! isinstance -/
def tyName (g : Gs) : Ty → Option Str
  | .int => some "int"
  | .str => some "str"
  | .bool => some "bool"
  | .tuple => some "tuple"
  | .list => some "list"
  | .valueError => some "ValueError"
  | .c j => (g.cl[j]?).map (·.1)
  | .x j => (g.ex[j]?).map (·.1)
  | .none => none
def tyOk (g : Gs) (sc : Scope) (t : Ty) : Expr → Bool
  | .Name x _ => glB sc x && nameOk x && decide (tyName g t = some x)
  | _ => false
theorem ty_pe {X : Cx} {sc : Scope} {W : WX} {t : Ty} {e : Expr} (c : CtxE X T g cf k N sc W) (h : tyOk g sc t e = true) : ∃ cv u, t.val T = some u ∧ ClsV cv u ∧ PE X e (tC cv) := by
  unfold tyOk at h
  split at h
  · rename_i x p
    simp only [Bool.and_eq_true, decide_eq_true_eq] at h
    obtain ⟨⟨h1, h2⟩, h3⟩ := h
    have G := gl_ok c.hs h1
    have D := (nameOk_ok h2).1
    cases t with
    | int => cases h3; exact ⟨_, _, rfl, .ty "int", pe_bltn G (c.gf.bn _ (by decide)) boot_int rfl (by decide) D⟩
    | str => cases h3; exact ⟨_, _, rfl, .ty "str", pe_bltn G (c.gf.bn _ (by decide)) boot_str rfl (by decide) D⟩
    | bool => cases h3; exact ⟨_, _, rfl, .ty "bool", pe_bltn G (c.gf.bn _ (by decide)) boot_bool rfl (by decide) D⟩
    | tuple => cases h3; exact ⟨_, _, rfl, .ty "tuple", pe_bltn G (c.gf.bn _ (by decide)) boot_tuple rfl (by decide) D⟩
    | list => cases h3; exact ⟨_, _, rfl, .ty "list", pe_bltn G (c.gf.bn _ (by decide)) boot_list rfl (by decide) D⟩
    | valueError => cases h3; exact ⟨_, _, rfl, .ty "ValueError", pe_bltn G (c.gf.bn _ (by decide)) boot_VE rfl (by decide) D⟩
    | none => cases h3
    | c j =>
      simp only [tyName, Option.map_eq_some_iff] at h3
      obtain ⟨⟨y, ns⟩, h4, rfl⟩ := h3
      obtain ⟨C, q1, q2⟩ := c.gf.cls h4
      exact ⟨_, _, by simp only [Ty.val, q1]; rfl, .own C, pe_glob G q2 rfl D⟩
    | x j =>
      simp only [tyName, Option.map_eq_some_iff] at h3
      obtain ⟨⟨y, ns⟩, h4, rfl⟩ := h3
      obtain ⟨C, q1, q2, _⟩ := c.gf.exc h4
      exact ⟨_, _, by simp only [Ty.val, q1]; rfl, .own C, pe_glob G q2 rfl D⟩
  · cases h
def tysOk (g : Gs) (sc : Scope) : List Ty → List Expr → Bool
  | [], [] => true
  | t :: ts, e :: es => tyOk g sc t e && notStar e && tysOk g sc ts es
  | _, _ => false
theorem tys_pe {X : Cx} {sc : Scope} {W : WX} (c : CtxE X T g cf k N sc W) : ∀ {ts : List Ty} {es : List Expr}, tysOk g sc ts es = true → ∃ cvs us, ts.mapM (Ty.val T) = some us ∧ Paired ClsV cvs us ∧ PA X es (fun _ H Q => Q cvs H) ∧ cvs.length = es.length
  | [], [], _ => ⟨[], [], rfl, .nil, pa_nil, rfl⟩
  | [], _ :: _, h => by cases h
  | _ :: _, [], h => by cases h
  | t :: ts, e :: es, h => by
    simp only [tysOk, Bool.and_eq_true] at h
    obtain ⟨cv, u, q1, q2, q3⟩ := ty_pe c h.1.1
    obtain ⟨cvs, us, r1, r2, r3, r4⟩ := tys_pe c h.2
    refine ⟨cv :: cvs, u :: us, ?_, .cons q2 r2, pa_cons q3 r3 (star_cons h.1.2), by rw [List.length_cons, List.length_cons, r4]⟩
    rw [List.mapM_cons, q1, r1]
    rfl
def mIsi (g : Gs) (ts : List Ty) (ra : Rec) (sc : Scope) : Tg → Bool
  | .e _ (.Call (.Name f _) [x, ty] [] _) => decide (f = "isinstance") && glB sc f && notStar x && notStar ty && ra sc (.e false x) &&
    (match ty with
      | .Tuple es _ _ => tysOk g sc ts es && decide (es.length ≤ 30)
      | _ => match ts with
        | [t] => tyOk g sc t ty
        | _ => false)
  | _ => false
theorem mIsi_ok {ts : List Ty} (ha : SndAll T g cf k N ia ra) : SndAll T g cf k N (.isi ia ts) (mIsi g ts ra) := fun {X sc W B tg} c h => by
  unfold mIsi at h
  split at h
  · rename_i t f p x ty pos
    simp only [Bool.and_eq_true, decide_eq_true_eq] at h
    obtain ⟨⟨⟨⟨⟨rfl, h1⟩, h2⟩, h3⟩, h4⟩, h5⟩ := h
    have G := gl_ok c.hs h1
    have M := c.gf.bn "isinstance" (by decide)
    have S2 := star_cons (es := []) (env := X.env) h3
    have S1 := star_cons (es := [ty]) (env := X.env) h2
    have Z : (backTo pos (starEach [ty] X.env)).any (·.1) = false := star_any (by rw [noStars, h3]; rfl)
    refine snd_e c rfl ?_
    split at h5
    · rename_i es k2 p2
      simp only [Bool.and_eq_true, decide_eq_true_eq] at h5
      obtain ⟨cvs, us, r1, r2, r3, r4⟩ := tys_pe c h5.1
      refine re_isiT c.gf.F c.hK r1 r2 (by rw [r4, sizeLine_eq]; omega) (ha (B := B) c h4) fun {ta} A => ?_
      exact pe_callB call_isiT G M boot_isi (pa_cons A (pa_cons (pe_tup r3) pa_nil S2) S1) (by decide) (by decide) S1 Z
    · split at h5
      · obtain ⟨cv, u, r1, r2, r3⟩ := ty_pe c h5
        refine re_isi1 c.gf.F c.hK r1 r2 (ha (B := B) c h4) fun {ta} A => ?_
        exact pe_callB call_isi G M boot_isi (pa_cons A (pa_cons r3 pa_nil S2) S1) (by decide) (by decide) S1 Z
      · cases h5
  · cases h
/-! comprehensions -/
def mIter (it : IE) (r : Rec) (sc : Scope) (iter : Expr) : Bool := notSet iter && (if isRange it then r sc (.r iter) else r sc (.e false iter))
theorem mIter_ri {X : Cx} {sc : Scope} {W : WX} {B : Base} {iter tg : Expr} (c : CtxE X T g cf k N sc W) (ha : SndAll T g cf k N ia ra) (h : mIter ia ra sc iter = true) : PI X tg iter (RI T cf W B ia) := by
  unfold mIter at h
  rw [Bool.and_eq_true] at h
  have h2 := h.2
  split at h2
  · exact (ha (B := B) c h2).2.1 tg
  · exact ri_seq c.hK (ha (B := B) c h2)
def isTT : IE → Bool
  | .con (.bl true) => true
  | _ => false
def mIfs (ic : IE) (rc : Rec) (sc : Scope) : List Expr → Bool
  | [] => isTT ic
  | [t] => rc sc (.e true t)
  | _ => false
theorem mIfs_ok {X : Cx} {sc : Scope} {W : WX} {B : Base} {ifs : List Expr} (c : CtxE X T g cf k N sc W) (ha : SndAll T g cf k N ic rc) (h : mIfs ic rc sc ifs = true) : PTs X ifs (RT T cf W B ic) := by
  unfold mIfs at h
  split at h
  · unfold isTT at h
    split at h
    · exact rts_nil
    · cases h
  · exact rts_one (ha (B := B) c h).1
  · cases h
def cvarB (N : List Str) (scope sc : Scope) (x : Str) (j : Nat) : Bool := decide (N[j]? = some x) && (decide ((relS scope sc).names.lookup x = some .local) || (decide ((relS scope sc).names.lookup x = some .cell) && (scope.names.lookup x == some .cell)))
theorem cvar_ok {X : Cx} {sc scope : Scope} {W : WX} {x : Str} {j : Nat} {tp : Pos} (c : CtxE X T g cf k N sc W) (h : cvarB N scope sc x j = true) {s : Shared} {H : Hp} {C : Addr} {cl : List (Str × Addr)} {fp : List Addr} : PG (X.blk s H scope (compEnvC scope cl C X.env) fp) (.Name x tp) (gName j) := by
  unfold cvarB at h
  simp only [Bool.and_eq_true, Bool.or_eq_true, decide_eq_true_eq] at h
  obtain ⟨h1, h2⟩ := h
  have hs : (X.blk s H scope (compEnvC scope cl C X.env) fp).env.scope = relS scope sc := by rw [← c.hs]; rfl
  refine pg_name (X := X.blk s H scope (compEnvC scope cl C X.env) fp) (by show X.N.Nodup; rw [c.hN]; exact c.nd) (by show X.N[j]? = some x; rw [c.hN]; exact h1) ?_ ?_
  · unfold L2.Loc
    rw [hs]
    rcases h2 with q | q
    · exact .inl q
    · exact .inr q.1
  · rw [hs]
    rcases h2 with q | q
    · exact .inr q
    · exact .inl q.2
def mComp (N : List Str) (j : Nat) (it ic : IE) (ri rc re : Rec) (sc : Scope) : Tg → Bool
  | .e false (.ListComp elt [⟨.Name x _, iter, ifs, 0⟩] scope _) => cvarB N scope sc x j && blkB N sc scope [(x, j)] && mIter it ri sc iter && mIfs ic rc (relS scope sc) ifs && re (relS scope sc) (.e false elt)
  | _ => false
theorem mComp_ok {j : Nat} {it ie : IE} {ri re : Rec} (hi : SndAll T g cf k N it ri) (hc : SndAll T g cf k N ic rc) (he : SndAll T g cf k N ie re) : SndAll T g cf k N (.comp j it ic ie) (mComp N j it ic ri rc re) := fun {X sc W B tg} c h => by
  unfold mComp at h
  split at h
  · rename_i elt x tp iter ifs scope pos
    simp only [Bool.and_eq_true] at h
    obtain ⟨⟨⟨⟨h1, h2⟩, h3⟩, h4⟩, h5⟩ := h
    have hx : X.N[j]? = some x := by
      unfold cvarB at h1
      rw [Bool.and_eq_true, decide_eq_true_eq] at h1
      rw [c.hN]
      exact h1.1
    have hS : notSet iter = true := by
      unfold mIter at h3
      rw [Bool.and_eq_true] at h3
      exact h3.1
    exact re_comp c.calm (by rw [c.hN]; exact c.nd) hx (mIter_ri c hi h3) (by rw [c.hN, c.hs]; exact blk_ok h2) (fun s H C cl fp => cvar_ok c h1)
      (fun s H C cl fp => mIfs_ok c.blk hc h4) (fun s H C cl fp => he (B := B) c.blk h5) (no_fold hS)
  · cases h
/-! comprehensions with tuples, with two clauses -/
def mFor (N : List Str) (it : IE) (r : Rec) (sc : Scope) (iter : Expr) : Bool := notSet iter && (match it with
  | .var i => mVar N i sc (.e false iter)
  | _ => if isRange it then r sc (.r iter) else r sc (.e false iter))
theorem mFor_rf {X : Cx} {sc : Scope} {W : WX} {B : Base} {iter tg : Expr} (c : CtxE X T g cf k N sc W) (ha : SndAll T g cf k N ia ra) (h : mFor N ia ra sc iter = true) : PI X tg iter (RF T cf W B ia) := by
  unfold mFor at h
  rw [Bool.and_eq_true] at h
  have h2 := h.2
  split at h2
  · rename_i i
    unfold mVar at h2
    split at h2
    · rename_i hq
      cases hq
      exact rf_var c.hK (pe_slot c h2)
    · cases h2
  · rename_i hv
    split at h2
    · exact (ha (B := B) c h2).2.2.1 tg
    · exact rf_seq hv c.hK (ha (B := B) c h2)
theorem mFor_set {sc : Scope} {iter : Expr} (h : mFor N ia ra sc iter = true) : notSet iter = true := by
  unfold mFor at h
  rw [Bool.and_eq_true] at h
  exact h.1
def cvarsB (N : List Str) (scope sc : Scope) : List Nat → List Expr → Bool
  | [], [] => true
  | i :: is, .Name x _ :: es => cvarB N scope sc x i && cvarsB N scope sc is es
  | _, _ => false
theorem cvars_ok {X : Cx} {sc scope : Scope} {W : WX} (c : CtxE X T g cf k N sc W) {s : Shared} {H : Hp} {C : Addr} {cl : List (Str × Addr)} {fp : List Addr} : ∀ {is : List Nat} {es : List Expr}, cvarsB N scope sc is es = true →
    PGs (X.blk s H scope (compEnvC scope cl C X.env) fp) es (gNames is) ∧ (assignEach es (X.blk s H scope (compEnvC scope cl C X.env) fp).env).length = is.length ∧ (assignEach es (X.blk s H scope (compEnvC scope cl C X.env) fp).env).findIdx? (·.1) = none ∧ ∀ j ∈ is, j < X.N.length
  | [], [], _ => ⟨pgs_nil, rfl, rfl, fun _ z => nomatch z⟩
  | [], _ :: _, h => by simp only [cvarsB] at h; cases h
  | i :: is, [], h => by simp only [cvarsB] at h; cases h
  | i :: is, e :: es, h => by
    cases e <;> first | (simp only [cvarsB] at h; cases h; done) | skip
    rename_i x px
    simp only [cvarsB, Bool.and_eq_true] at h
    obtain ⟨r1, r2, r3, r4⟩ := cvars_ok c (s := s) (H := H) (C := C) (cl := cl) (fp := fp) h.2
    have hi : X.N[i]? = some x := by
      have := h.1
      unfold cvarB at this
      rw [Bool.and_eq_true, decide_eq_true_eq] at this
      rw [c.hN]
      exact this.1
    refine ⟨pgs_cons (cvar_ok c h.1) r1 rfl, ?_, ?_, fun j hj => ?_⟩
    · show (assignEach es _).length + 1 = is.length + 1
      rw [r2]
    · show List.findIdx? _ ((false, _) :: assignEach es _) = none
      rw [List.findIdx?_cons, r3]
      rfl
    · rcases List.mem_cons.mp hj with rfl | hj
      · exact (List.getElem?_eq_some_iff.mp hi).1
      · exact r4 j hj
-- a target: its names
def tgtB (N : List Str) (scope sc : Scope) : Tgt → Expr → Bool
  | .n j, .Name x _ => cvarB N scope sc x j
  | .t js, .Tuple es _ _ => cvarsB N scope sc js es
  | _, _ => false
theorem tgtB_ok {X : Cx} {sc scope : Scope} {W : WX} {t : Tgt} {tg : Expr} (c : CtxE X T g cf k N sc W) (h : tgtB N scope sc t tg = true) {s : Shared} {H : Hp} {C : Addr} {cl : List (Str × Addr)} {fp : List Addr} :
    PG (X.blk s H scope (compEnvC scope cl C X.env) fp) tg (gTgt X.K t) ∧ ∀ j ∈ t.js, j < X.N.length := by
  unfold tgtB at h
  split at h
  · rename_i j x p
    refine ⟨cvar_ok c h, fun i hi => ?_⟩
    have := h
    unfold cvarB at this
    rw [Bool.and_eq_true, decide_eq_true_eq] at this
    simp only [Tgt.js, List.mem_singleton] at hi
    subst hi
    rw [c.hN]
    exact (List.getElem?_eq_some_iff.mp this.1).1
  · rename_i js es k2 p
    obtain ⟨r1, r2, r3, r4⟩ := cvars_ok c (s := s) (H := H) (C := C) (cl := cl) (fp := fp) h
    exact ⟨pg_tup (X := X.blk s H scope (compEnvC scope cl C X.env) fp) c.calm r1 r2 r3, r4⟩
  · cases h
def tgNames (N : List Str) (t : Tgt) : List (Str × Nat) := t.js.map fun j => (N.getD j "", j)
theorem tgNames_js (N : List Str) (t : Tgt) : (tgNames N t).map (·.2) = t.js := by
  unfold tgNames
  rw [List.map_map]
  exact List.map_id _
def mCompt (N : List Str) (t : Tgt) (it ic : IE) (ri rc re : Rec) (sc : Scope) : Tg → Bool
  | .e false (.ListComp elt [⟨tg, iter, ifs, 0⟩] scope _) => tgtB N scope sc t tg && blkB N sc scope (tgNames N t) && mFor N it ri sc iter && mIfs ic rc (relS scope sc) ifs && re (relS scope sc) (.e false elt)
  | _ => false
theorem mCompt_ok {t : Tgt} {it ie : IE} {ri re : Rec} (hi : SndAll T g cf k N it ri) (hc : SndAll T g cf k N ic rc) (he : SndAll T g cf k N ie re) : SndAll T g cf k N (.compt t it ic ie) (mCompt N t it ic ri rc re) := fun {X sc W B tg} c h => by
  unfold mCompt at h
  split at h
  · rename_i elt tg iter ifs scope pos
    simp only [Bool.and_eq_true] at h
    obtain ⟨⟨⟨⟨h1, h2⟩, h3⟩, h4⟩, h5⟩ := h
    exact re_compt c.hK c.calm (by rw [c.hN]; exact c.nd) (tgtB_ok c h1 (s := X.s_0) (H := fun _ => none) (C := 0) (cl := []) (fp := [])).2 (mFor_rf c hi h3) (by rw [c.hN, c.hs]; exact blk_ok h2) (tgNames_js N t) (fun s H C cl fp => (tgtB_ok c h1).1)
      (fun s H C cl fp => mIfs_ok c.blk hc h4) (fun s H C cl fp => he (B := B) c.blk h5) (no_fold (mFor_set h3))
  · cases h
def mComp2 (N : List Str) (t : Tgt) (it : IE) (u : Tgt) (jt ic : IE) (ri rj rc re : Rec) (sc : Scope) : Tg → Bool
  | .e false (.ListComp elt [⟨tg, iter, [], 0⟩, ⟨tg1, iter1, ifs, 0⟩] scope _) => tgtB N scope sc t tg && tgtB N scope sc u tg1 && blkB N sc scope (tgNames N t ++ tgNames N u) && mFor N it ri sc iter && mFor N jt rj (relS scope sc) iter1 && mIfs ic rc (relS scope sc) ifs && re (relS scope sc) (.e false elt)
  | _ => false
theorem mComp2_ok {t u : Tgt} {it jt ie : IE} {ri rj re : Rec} (hi : SndAll T g cf k N it ri) (hj : SndAll T g cf k N jt rj) (hc : SndAll T g cf k N ic rc) (he : SndAll T g cf k N ie re) : SndAll T g cf k N (.comp2 t it u jt ic ie) (mComp2 N t it u jt ic ri rj rc re) := fun {X sc W B tg} c h => by
  unfold mComp2 at h
  split at h
  · rename_i elt tg iter tg1 iter1 ifs scope pos
    simp only [Bool.and_eq_true] at h
    obtain ⟨⟨⟨⟨⟨⟨h1, h0⟩, h2⟩, h3⟩, h6⟩, h4⟩, h5⟩ := h
    exact re_comp2 c.hK c.calm (by rw [c.hN]; exact c.nd) (tgtB_ok c h1 (s := X.s_0) (H := fun _ => none) (C := 0) (cl := []) (fp := [])).2 (tgtB_ok c h0 (s := X.s_0) (H := fun _ => none) (C := 0) (cl := []) (fp := [])).2 (mFor_rf c hi h3) (by rw [c.hN, c.hs]; exact blk_ok h2)
      (by rw [List.map_append, tgNames_js, tgNames_js]) (fun s H C cl fp => (tgtB_ok c h1).1) (fun s H C cl fp => rts_nil) (fun s H C cl fp => mFor_rf c.blk hj h6) (fun s H C cl fp => (tgtB_ok c h0).1)
      (fun s H C cl fp => mIfs_ok c.blk hc h4) (fun s H C cl fp => he (B := B) c.blk h5) (no_fold (mFor_set h3)) (fun env => no_fold (mFor_set h6))
  · cases h
def mNever (_ : Scope) : Tg → Bool
  | .r _ => false
  | _ => true
theorem mNever_ok : SndAll T g cf k N .never mNever := fun {X sc W B tg} c h => by
  cases tg with
  | e t e =>
    cases t with
    | false => exact re_never
    | true => exact ⟨rt_never, fun _ => ⟨fun wh pins s σ H Q I h => by
        obtain ⟨ρ, w, s, h⟩ := h
        exact h.elim⟩⟩
  | as es => exact ra_never
  | r e => cases h
/-! x[::-1] -/
def mRev (ra : Rec) (sc : Scope) : Tg → Bool
  | .e _ (.Subscript a (.Slice none none (some (.UnaryOp .USub (.Constant (.int 1) _ _) _)) _) _) => ra sc (.e false a)
  | _ => false
theorem mRev_ok (ha : SndAll T g cf k N ia ra) : SndAll T g cf k N (.rev ia) (mRev ra) := fun {X sc W B tg} c h => by
  unfold mRev at h
  split at h
  · exact snd_e c rfl (re_rev c.hK (pe_revS (ha (B := B) c h)))
  · cases h
/-! l.index(x) -/
def mIndex (ra rb : Rec) (sc : Scope) : Tg → Bool
  | .e _ (.Call (.Attribute o m ap) [y] [] cp) => decide (m = "index") && baseOk o && notStar y && (ap.endLine == cp.line) && ra sc (.e false o) && rb sc (.e false y)
  | _ => false
theorem mIndex_ok (ha : SndAll T g cf k N ia ra) (hb : SndAll T g cf k N ib rb) : SndAll T g cf k N (.index ia ib) (mIndex ra rb) := fun {X sc W B tg} c h => by
  unfold mIndex at h
  split at h
  · rename_i t o m ap y cp
    simp only [Bool.and_eq_true, decide_eq_true_eq] at h
    obtain ⟨⟨⟨⟨⟨rfl, h1⟩, h2⟩, h3⟩, h4⟩, h5⟩ := h
    have S1 := star_cons (es := []) (env := X.env) h2
    refine snd_e c rfl (re_index c.hK (pe_bm PySem.F.plainAttrs_list PySem.F.slot_list_index PySem.F.type_list_index (mt_indexD c.units5) (ha (B := B) c h4) (pa_cons (hb (B := B) c h5) pa_nil S1) (base_ok h1) ?_ h3 S1 rfl))
    rw [star_all (by rw [noStars, h2]; rfl)]
    rfl
  · cases h
/-! == by an own __eq__ -/
def eqmB (g : Gs) (es : List (Nat × Nat)) : Bool := es.all fun p => match g.fn[p.2]? with
  | some (x, n, .meth c) => decide (x = "__eq__") && decide (n = 2) && decide (c = p.1)
  | _ => false
theorem lookup_mem {es : List (Nat × Nat)} {c f : Nat} (h : es.lookup c = some f) : (c, f) ∈ es := by
  induction es with
  | nil => cases h
  | cons p es ih =>
    rw [List.lookup_cons] at h
    split at h
    · rename_i q
      cases h
      rw [beq_iff_eq] at q
      subst q
      exact List.mem_cons_self
    · exact List.mem_cons_of_mem _ (ih h)
def mEqm (g : Gs) (es : List (Nat × Nat)) (ra rb : Rec) (sc : Scope) : Tg → Bool
  | .e _ (.Compare x [op] [y] _) => decide (op = .Eq) && eqmB g es && notSet y && ra sc (.e false x) && rb sc (.e false y)
  | _ => false
theorem mEqm_ok {es : List (Nat × Nat)} (ha : SndAll T g cf k N ia ra) (hb : SndAll T g cf k N ib rb) : SndAll T g cf k N (.eqm es ia ib) (mEqm g es ra rb) := fun {X sc W B tg} c h => by
  unfold mEqm at h
  split at h
  · rename_i t x op y p
    simp only [Bool.and_eq_true, decide_eq_true_eq] at h
    obtain ⟨⟨⟨⟨rfl, h1⟩, h4⟩, h2⟩, h3⟩ := h
    have O : OpS X (compareOp .Eq) (rEqm T cf W es) := ops_eqm c.gf.F c.hK c.units c.room0 c.pass fun ci f e => by
      have q := List.all_eq_true.mp h1 (ci, f) (lookup_mem e)
      simp only at q
      split at q
      · rename_i x n c' z
        simp only [Bool.and_eq_true, decide_eq_true_eq] at q
        obtain ⟨⟨rfl, rfl⟩, rfl⟩ := q
        obtain ⟨C, ns, fa, fd, ps, q1, q2, q3, q4, q5⟩ := c.gf.meth z
        exact ⟨⟨C, ns, fa, fd, ps, q1, q3.at_, q3.fn, q4, q5⟩, c.gf.len z⟩
      · cases q
    cases t with
    | false => exact PE.imp (pe_cmpS O (ha (B := B) c h2) (hb (B := B) c h3) (no_mark h4)) fun σ H Q q => eqm_read q
    | true => exact ⟨rt_cmp (pt_cmpS O (ha (B := B) c h2) (hb (B := B) c h3) (no_mark h4)) (fun σ H Q q => eqm_read q) fun ρ st z s1 e => eqm_bool e, fun q => by cases q⟩
  · cases h
/-! ### all together -/
def mt (g : Gs) (N : List Str) : IE → Rec
  | .var i => mVar N i
  | .con d => mCon d
  | .glob x d => mGlob g x d
  | .bin o a b => mBin o (mt g N a) (mt g N b)
  | .ix a b => mIx (mt g N a) (mt g N b)
  | .chn o1 o2 a b c => mChn o1 o2 (mt g N a) (mt g N b) (mt g N c)
  | .neg a => mNeg (mt g N a)
  | .kp a => mKp (mt g N a)
  | .not a => mNot (mt g N a)
  | .and a b => mBool .And (mt g N a) (mt g N b)
  | .or a b => mBool .Or (mt g N a) (mt g N b)
  | .ite c a b => mIte (mt g N c) (mt g N a) (mt g N b)
  | .nil => mNil
  | .cons a b => mCons (mt g N a) (mt g N b)
  | .tup a => mTup (mt g N a)
  | .lst a => mLst (mt g N a)
  | .nref a => mLst (mt g N a)
  | .slc a lo hi => mSlc lo hi (mt g N a) (mt g N lo) (mt g N hi)
  | .fld a c j => mFld g c j (mt g N a)
  | .call f a => mCall g f a (mt g N a)
  | .meth c f o a => mMeth g c f a (mt g N o) (mt g N a)
  | .new c f a => mNew g c f (mt g N a)
  | .bi b a => mBS b (mt g N a)
  | .nopart => fun _ _ => false
  | .range1 a => mRng1 (mt g N a)
  | .range2 a b => mRng2 (mt g N a) (mt g N b)
  | .lrange b a => mLrange b (mt g N a)
  | .isi a ts => mIsi g ts (mt g N a)
  | .comp j it c e => mComp N j it c (mt g N it) (mt g N c) (mt g N e)
  | .compt t it c e => mCompt N t it c (mt g N it) (mt g N c) (mt g N e)
  | .comp2 t it u jt c e => mComp2 N t it u jt c (mt g N it) (mt g N jt) (mt g N c) (mt g N e)
  | .eqm es a b => mEqm g es (mt g N a) (mt g N b)
  | .index a b => mIndex (mt g N a) (mt g N b)
  | .rev a => mRev (mt g N a)
  | .never => mNever
theorem mt_ok : ∀ ie : IE, SndAll T g cf k N ie (mt g N ie)
  | .var i => mVar_ok
  | .con d => mCon_ok
  | .glob x d => mGlob_ok
  | .bin o a b => mBin_ok (mt_ok a) (mt_ok b)
  | .ix a b => mIx_ok (mt_ok a) (mt_ok b)
  | .chn o1 o2 a b c => mChn_ok (mt_ok a) (mt_ok b) (mt_ok c)
  | .neg a => mNeg_ok (mt_ok a)
  | .kp a => mKp_ok (mt_ok a)
  | .not a => mNot_ok (mt_ok a)
  | .and a b => mAnd_ok (mt_ok a) (mt_ok b)
  | .or a b => mOr_ok (mt_ok a) (mt_ok b)
  | .ite c a b => mIte_ok (mt_ok c) (mt_ok a) (mt_ok b)
  | .nil => mNil_ok
  | .cons a b => mCons_ok (mt_ok a) (mt_ok b)
  | .tup a => mTup_ok (mt_ok a)
  | .lst a => mLst_ok (mt_ok a)
  | .nref a => mNref_ok (mt_ok a)
  | .slc a lo hi => mSlc_ok (mt_ok a) (mt_ok lo) (mt_ok hi)
  | .fld a c j => mFld_ok (mt_ok a)
  | .call f a => mCall_ok (mt_ok a)
  | .meth c f o a => mMeth_ok (mt_ok o) (mt_ok a)
  | .new c f a => mNew_ok (mt_ok a)
  | .bi b a => mBS_ok (mt_ok a)
  | .nopart => fun _ h => by cases h
  | .range1 a => mRng1_ok (mt_ok a)
  | .range2 a b => mRng2_ok (mt_ok a) (mt_ok b)
  | .lrange b a => mLrange_ok (mt_ok a)
  | .isi a ts => mIsi_ok (mt_ok a)
  | .comp j it c e => mComp_ok (mt_ok it) (mt_ok c) (mt_ok e)
  | .compt t it c e => mCompt_ok (mt_ok it) (mt_ok c) (mt_ok e)
  | .comp2 t it u jt c e => mComp2_ok (mt_ok it) (mt_ok jt) (mt_ok c) (mt_ok e)
  | .eqm es a b => mEqm_ok (mt_ok a) (mt_ok b)
  | .index a b => mIndex_ok (mt_ok a) (mt_ok b)
  | .rev a => mRev_ok (mt_ok a)
  | .never => mNever_ok
end
end Q

set_option maxRecDepth 100000
set_option maxHeartbeats 1000000
namespace Q
open PySem L2
structure CtxS (X : Cx) (T : Tabs) (g : Gs) (cf : CF) (k : Nat) (N : List Str) (sc : Scope) (W : WX) : Prop where
  e : CtxE X T g cf k N sc W
  fn : ∀ x, X.fn x = true
  tk : Takes X W
  own : PassesOwn (model X.prog X.w) X.A X.env X.xe
  kind : sc.kind = .function
  stk : X.stack = X.env :: X.outer
  frm : X.env.frame = some X.env.locals
inductive STg where
  | s (st : Stmt)
  | ss (sts : List Stmt)
abbrev SRec := Scope → STg → Bool
def SndS (X : Cx) (T : Tabs) (cf : CF) (fu : Nat) (W : WX) (B : Base) (i : IS) : STg → Prop
  | .s st => PS X st (RS T cf fu W B i)
  | .ss sts => PSs X sts (RS T cf fu W B i)
def SndSA (T : Tabs) (g : Gs) (cf : CF) (k : Nat) (N : List Str) (fu : Nat) (i : IS) (r : SRec) : Prop := ∀ {X sc W tg}, CtxS X T g cf k N sc W → r sc tg = true → ∀ B, SndS X T cf fu W B i tg
section
variable {T : Tabs} {g : Gs} {cf : CF} {k : Nat} {N : List Str} {fu : Nat} {ie ia ib ic : IE} {i1 i2 : IS} {ra rb rc re : Rec} {r1 r2 : SRec}
/-! rows -/
def sSkip (_ : Scope) : STg → Bool
  | .ss [] => true
  | .s (.Pass _) => true
  | .s (.Expr (.Constant (.str _) _ _) _) => true
  | _ => false
theorem sSkip_ok : SndSA T g cf k N fu .skip sSkip := fun {X sc W tg} c h B => by
  unfold sSkip at h
  split at h
  · exact rs_skip
  · exact rs_pass
  · exact rs_doc
  · cases h
def isFrz : IS → Bool
  | .frz _ => true
  | _ => false
def sSeq (i : IS) (r1 r2 : SRec) (sc : Scope) : STg → Bool
  | .ss sts => if isFrz i then r2 sc (.ss sts) else match sts with
    | st :: sts => r1 sc (.s st) && r2 sc (.ss sts)
    | [] => false
  | _ => false
theorem sSeq_ok (h1 : SndSA T g cf k N fu i1 r1) (h2 : SndSA T g cf k N fu i2 r2) : SndSA T g cf k N fu (.seq i1 i2) (sSeq i1 r1 r2) := fun {X sc W tg} c h B => by
  unfold sSeq at h
  split at h
  · split at h
    · rename_i hz
      cases i1 <;> first | (cases hz; done) | skip
      exact rs_ghost (fun σ H D q => frz_ok q) (h2 c h B)
    · split at h
      · rw [Bool.and_eq_true] at h
        exact rs_seq (h1 c h.1 B) (h2 c h.2 B)
      · cases h
  · cases h
def sNever (_ : Scope) (_ : STg) : Bool := true
theorem sNever_ok : SndSA T g cf k N fu .never sNever := fun {X sc W tg} c h B => by
  cases tg with
  | s st => exact rs_never
  | ss sts => exact rss_never
/-! an expression -/
def sDrop (re : Rec) (sc : Scope) : STg → Bool
  | .s (.Expr e _) => noComp e && re sc (.e false e)
  | _ => false
theorem sDrop_ok (he : SndAll T g cf k N ie re) : SndSA T g cf k N fu (.drop ie) (sDrop re) := fun {X sc W tg} c h B => by
  unfold sDrop at h
  split at h
  · rw [Bool.and_eq_true] at h
    exact rs_drop (fun {te} A => ps_expr A (no_swap h.1)) (he (B := B) c.e h.2)
  · cases h
/-! names -/
def slotB (N : List Str) (sc : Scope) (x : Str) (i : Nat) : Bool := decide (N[i]? = some x) && locB sc x && nameOk x
theorem slot_ok {X : Cx} {sc : Scope} {W : WX} {x : Str} {i : Nat} {p : Pos} (c : CtxS X T g cf k N sc W) (h : slotB N sc x i = true) : X.N[i]? = some x ∧ PG X (.Name x p) (gName i) := by
  unfold slotB at h
  simp only [Bool.and_eq_true, decide_eq_true_eq] at h
  have hN : X.N[i]? = some x := by rw [c.e.hN]; exact h.1.1
  exact ⟨hN, pg_name (by rw [c.e.hN]; exact c.e.nd) hN (by rw [c.e.hs]; exact loc_ok h.1.2) (.inl (c.fn x))⟩
-- does a comprehension at a name stand at once
def swVal (sc scope : Scope) (t : Str) (p vp : Pos) : Bool := sc.names.lookup t == some .local && p.line == vp.line && !(scope.names.any fun (n, k) => n == t && (k == .local || k == .cell))
theorem swVal_ok {env : Env} {elt : Expr} {gs : List Comprehension} {scope : Scope} {pos p : Pos} {t : Str} {l : Nat} (hk : env.scope.kind = .function) : swapsWith (.ListComp elt gs scope pos) (some (.Name t p)) l env = pure (swVal env.scope scope t p pos) := by
  show (pure (env.blockKind == .function && env.kindOf t == some .local && p.line == pos.line && !(scope.names.any fun (n, k) => n == t && (k == .local || k == .cell))) : Sem Bool) = _
  have : env.blockKind = .function := by
    unfold Env.blockKind
    split
    · rfl
    · exact hk
  rw [this]
  rfl
theorem sole {t e : Expr} {l : Nat} {env : Env} (h : swapsWith e (some t) l env = pure false) : swapsWithSole [t] e l env = pure false := by
  unfold swapsWithSole
  exact h
theorem sw_name {x : Str} {p : Pos} {env : Env} (e : Expr) : swappedStores [.Name x p] e env = pure none := by
  cases e <;> rfl
def sAsg (N : List Str) (i : Nat) (ie : IE) (re : Rec) (rk : Rec × Rec × Rec × Rec) (sc : Scope) : STg → Bool
  | .s (.Assign [.Name x px] e _) => slotB N sc x i && (match e with
    | .ListComp elt gs scope pos => if swVal sc scope x px pos then
        (match ie with
          | .comp j it ic ib => (match gs with
            | [⟨.Name y _, iter, ifs, 0⟩] => cvarB N scope sc y j && blkB N sc scope [(y, j)] && mIter it rk.1 sc iter && mIfs ic rk.2.1 (relS scope sc) ifs && rk.2.2.1 (relS scope sc) (.e false elt)
            | _ => false)
          | .compt t it ic ib => (match gs with
            | [⟨tg, iter, ifs, 0⟩] => tgtB N scope sc t tg && blkB N sc scope (tgNames N t) && mFor N it rk.1 sc iter && mIfs ic rk.2.1 (relS scope sc) ifs && rk.2.2.1 (relS scope sc) (.e false elt)
            | _ => false)
          | .comp2 t it u jt ic ib => (match gs with
            | [⟨tg, iter, [], 0⟩, ⟨tg1, iter1, ifs, 0⟩] => tgtB N scope sc t tg && tgtB N scope sc u tg1 && blkB N sc scope (tgNames N t ++ tgNames N u) && mFor N it rk.1 sc iter && mFor N jt rk.2.2.2 (relS scope sc) iter1 && mIfs ic rk.2.1 (relS scope sc) ifs && rk.2.2.1 (relS scope sc) (.e false elt)
            | _ => false)
          | _ => false)
      else re sc (.e false e)
    | _ => noComp e && re sc (.e false e))
  | _ => false
def subRecs (g : Gs) (N : List Str) : IE → Rec × Rec × Rec × Rec
  | .comp _ it c e => (mt g N it, mt g N c, mt g N e, mNever)
  | .compt _ it c e => (mt g N it, mt g N c, mt g N e, mNever)
  | .comp2 _ it _ jt c e => (mt g N it, mt g N c, mt g N e, mt g N jt)
  | _ => (mNever, mNever, mNever, mNever)
theorem sAsg_ok {i : Nat} : SndSA T g cf k N fu (.asg i ie) (sAsg N i ie (mt g N ie) (subRecs g N ie)) := fun {X sc W tg} c h B => by
  have he : SndAll T g cf k N ie (mt g N ie) := mt_ok ie
  unfold sAsg at h
  split at h
  · rename_i x px e pos
    rw [Bool.and_eq_true] at h
    obtain ⟨h1, h2⟩ := h
    obtain ⟨hx, hg⟩ := slot_ok (p := px) c h1
    have kd : X.env.scope.kind = .function := by rw [c.e.hs]; exact c.kind
    split at h2
    · rename_i elt gs scope vp
      split at h2
      · rename_i hsw
        split at h2
        · rename_i j it ic ib
          split at h2
          · rename_i y tp iter ifs
            simp only [Bool.and_eq_true] at h2
            obtain ⟨⟨⟨⟨q1, q2⟩, q3⟩, q4⟩, q5⟩ := h2
            have hj : X.N[j]? = some y := by
              unfold cvarB at q1
              rw [Bool.and_eq_true, decide_eq_true_eq] at q1
              rw [c.e.hN]
              exact q1.1
            have hS : notSet iter = true := by
              have := q3
              unfold mIter at this
              rw [Bool.and_eq_true] at this
              exact this.1
            have hl : X.env.scope.names.lookup x = some .local := by
              have := hsw
              unfold swVal at this
              simp only [Bool.and_eq_true] at this
              rw [c.e.hs]
              exact eq_of_beq this.1.1
            have hjl : j < X.N.length := (List.getElem?_eq_some_iff.mp hj).1
            refine rs_asg hx (ps_setLc (own := [(y, j)]) c.e.calm (by rw [c.e.hN]; exact c.e.nd) hx hl (by rw [swVal_ok kd, c.e.hs, hsw]) (mIter_ri (B := B) c.e (mt_ok it) q3) (by rw [c.e.hN, c.e.hs]; exact blk_ok q2) (fun s H C cl fp => cvar_ok c.e q1)
              (fun s H C cl fp => mIfs_ok (B := B) c.e.blk (mt_ok ic) q4) (fun s H C cl fp => mt_ok ib (B := B) c.e.blk q5) (no_fold hS)) fun σ H Q hl q => lc_read (by rw [hl]; exact hjl) q
          · cases h2
        · rename_i t it ic ib
          split at h2
          · rename_i tg iter ifs
            simp only [Bool.and_eq_true] at h2
            obtain ⟨⟨⟨⟨q1, q2⟩, q3⟩, q4⟩, q5⟩ := h2
            have hl : X.env.scope.names.lookup x = some .local := by
              have := hsw
              unfold swVal at this
              simp only [Bool.and_eq_true] at this
              rw [c.e.hs]
              exact eq_of_beq this.1.1
            have hj := (tgtB_ok c.e q1 (s := X.s_0) (H := fun _ => none) (C := 0) (cl := []) (fp := [])).2
            refine rs_asg hx (ps_setLc (own := tgNames N t) c.e.calm (by rw [c.e.hN]; exact c.e.nd) hx hl (by rw [swVal_ok kd, c.e.hs, hsw]) (mFor_rf (B := B) c.e (mt_ok it) q3) (by rw [c.e.hN, c.e.hs]; exact blk_ok q2) (fun s H C cl fp => (tgtB_ok c.e q1).1)
              (fun s H C cl fp => mIfs_ok (B := B) c.e.blk (mt_ok ic) q4) (fun s H C cl fp => mt_ok ib (B := B) c.e.blk q5) (no_fold (mFor_set q3))) fun σ H Q hl q => by rw [tgNames_js]; exact lct_read c.e.hK (by rw [hl]; exact hj) q
          · cases h2
        · rename_i t it u jt ic ib
          split at h2
          · rename_i tg iter tg1 iter1 ifs
            simp only [Bool.and_eq_true] at h2
            obtain ⟨⟨⟨⟨⟨⟨q1, q0⟩, q2⟩, q3⟩, q6⟩, q4⟩, q5⟩ := h2
            have hl : X.env.scope.names.lookup x = some .local := by
              have := hsw
              unfold swVal at this
              simp only [Bool.and_eq_true] at this
              rw [c.e.hs]
              exact eq_of_beq this.1.1
            have hj := (tgtB_ok c.e q1 (s := X.s_0) (H := fun _ => none) (C := 0) (cl := []) (fp := [])).2
            have hu := (tgtB_ok c.e q0 (s := X.s_0) (H := fun _ => none) (C := 0) (cl := []) (fp := [])).2
            refine rs_asg hx (ps_setLc2 (own := tgNames N t ++ tgNames N u) (vs1 := u.js) c.e.calm (by rw [c.e.hN]; exact c.e.nd) hx hl (by rw [swVal_ok kd, c.e.hs, hsw]) (mFor_rf (B := B) c.e (mt_ok it) q3) (by rw [c.e.hN, c.e.hs]; exact blk_ok q2)
              (fun i hi => by rw [List.map_append, tgNames_js, tgNames_js]; exact List.mem_append_right _ hi) (fun s H C cl fp => (tgtB_ok c.e q1).1) (fun s H C cl fp => rts_nil) (fun s H C cl fp => mFor_rf (B := B) c.e.blk (mt_ok jt) q6) (fun s H C cl fp => (tgtB_ok c.e q0).1)
              (fun s H C cl fp => mIfs_ok (B := B) c.e.blk (mt_ok ic) q4) (fun s H C cl fp => mt_ok ib (B := B) c.e.blk q5) (no_fold (mFor_set q3)) (fun env => no_fold (mFor_set q6))) fun σ H Q hl q => by rw [List.map_append, tgNames_js, tgNames_js]; exact lc2_read c.e.hK (by rw [hl]; exact hj) (by rw [hl]; exact hu) q
          · cases h2
        · cases h2
      · rename_i hsw
        exact rs_asg hx (ps_asg (he (B := B) c.e h2) hg (sole (by rw [swVal_ok kd, c.e.hs]; rw [Bool.not_eq_true] at hsw; rw [hsw])) rfl rfl) fun σ H Q _ q => q
    · rw [Bool.and_eq_true] at h2
      exact rs_asg hx (ps_asg (he (B := B) c.e h2.2) hg (sole (no_swap h2.1)) (sw_name e) rfl) fun σ H Q _ q => q
  · cases h
/-! two at once; a tuple into names -/
def namesB (N : List Str) (sc : Scope) : List Nat → List Expr → Bool
  | [], [] => true
  | i :: is, .Name x _ :: es => slotB N sc x i && namesB N sc is es
  | _, _ => false
theorem names_ok {X : Cx} {sc : Scope} {W : WX} (c : CtxS X T g cf k N sc W) : ∀ {is : List Nat} {es : List Expr}, namesB N sc is es = true → PGs X es (gNames is) ∧ (assignEach es X.env).length = is.length ∧ (assignEach es X.env).findIdx? (·.1) = none ∧ ∀ j ∈ is, j < X.N.length
  | [], [], _ => ⟨pgs_nil, rfl, rfl, fun _ z => nomatch z⟩
  | [], _ :: _, h => by simp only [namesB] at h; cases h
  | i :: is, [], h => by simp only [namesB] at h; cases h
  | i :: is, e :: es, h => by
    cases e <;> first | (simp only [namesB] at h; cases h; done) | skip
    simp only [namesB, Bool.and_eq_true] at h
    obtain ⟨q1, q2⟩ := slot_ok c h.1
    obtain ⟨r1, r2, r3, r4⟩ := names_ok c h.2
    refine ⟨pgs_cons q2 r1 rfl, ?_, ?_, fun j hj => ?_⟩
    · show (assignEach es X.env).length + 1 = is.length + 1
      rw [r2]
    · show List.findIdx? _ ((false, _) :: assignEach es X.env) = none
      rw [List.findIdx?_cons, r3]
      rfl
    · rcases List.mem_cons.mp hj with rfl | hj
      · exact (List.getElem?_eq_some_iff.mp q1).1
      · exact r4 j hj
def notTup : Expr → Bool
  | .Tuple _ _ _ => false
  | _ => true
def swNone (sc : Scope) (ts vs : List Expr) : Bool :=
  let names := ts.filterMap fun
    | .Name id pos => if sc.names.lookup id == some .local && pos.line == (ts.head?.map (·.pos.line)).getD 0 then some id else none
    | _ => none
  !(names.length == ts.length) || vs.all (foldedForSure 8)
def swTail (env : Env) (ts vs : List Expr) : Sem (Option (List Str)) := do
  if !(ts.length == 2 || ts.length == 3) || vs.length != ts.length || env.blockKind != .function then return none
  if vs.any fun | .Starred .. => true | _ => false then return none
  let line := (ts.head?.map (·.pos.line)).getD 0
  let names := ts.filterMap fun
    | .Name id pos => if env.kindOf id == some .local && pos.line == line then some id else none
    | _ => none
  if names.length != ts.length || names.eraseDups.length != names.length then return none
  if vs.all (foldedForSure 8) then return none
  if vs.all (constantsAlone 8) then unsupported "assign.tuple-of-constant-expressions:order-of-the-stores"
  return some names
theorem sw_tail {env : Env} {ts vs : List Expr} {k1 k2 : Nat} {p1 p2 : Pos} : swappedStores [.Tuple ts k1 p1] (.Tuple vs k2 p2) env = swTail env ts vs := rfl
theorem swNone_ok {env : Env} {ts vs : List Expr} {k1 k2 : Nat} {p1 p2 : Pos} (h : swNone env.scope ts vs = true) : swappedStores [.Tuple ts k1 p1] (.Tuple vs k2 p2) env = pure none := by
  rw [sw_tail]
  unfold swTail
  unfold swNone at h
  split
  · rfl
  split
  · rfl
  dsimp only at h ⊢
  rw [Bool.or_eq_true] at h
  split
  · rfl
  · rename_i hn
    rcases h with h | h
    · refine absurd ?_ hn
      rw [Bool.or_eq_true]
      exact .inl h
    · rw [if_pos h]
theorem sw_other {t v : Expr} {env : Env} (h : notTup v = true) : swappedStores [t] v env = pure none := by
  cases v <;> first | (cases h; done) | (cases t <;> rfl)
def parB (sc : Scope) (x y : Str) (px py : Pos) (a b : Expr) : Bool :=
  decide (sc.names.lookup x = some .local) && decide (sc.names.lookup y = some .local) && decide (x ≠ y) && (px.line == py.line) && notStar a && notStar b && !([a, b].all (foldedForSure 8)) && !([a, b].all (constantsAlone 8))
theorem par_ok {env : Env} {x y : Str} {px py p1 p2 : Pos} {a b : Expr} {k1 k2 : Nat} (hk : env.scope.kind = .function) (h : parB env.scope x y px py a b = true) : swappedStores [.Tuple [.Name x px, .Name y py] k1 p1] (.Tuple [a, b] k2 p2) env = pure (some [x, y]) := by
  unfold parB at h
  simp only [Bool.and_eq_true, decide_eq_true_eq, Bool.not_eq_true'] at h
  obtain ⟨⟨⟨⟨⟨⟨⟨h1, h2⟩, h3⟩, h4⟩, h5⟩, h6⟩, h7⟩, h8⟩ := h
  have bk : env.blockKind = .function := by
    unfold Env.blockKind
    split
    · rfl
    · exact hk
  rw [sw_tail]
  unfold swTail
  rw [if_neg (by rw [bk]; simp)]
  have ns : ([a, b].any fun | .Starred .. => true | _ => false) = false := by
    cases a <;> first | (cases h5; done) | (cases b <;> first | (cases h6; done) | rfl)
  rw [if_neg (by rw [ns]; decide)]
  dsimp only
  have nm : (List.filterMap (fun (e : Expr) => match e with
    | .Name id pos => if env.kindOf id == some .local && pos.line == (([Expr.Name x px, Expr.Name y py].head?.map (·.pos.line)).getD 0) then some id else none
    | _ => none) [.Name x px, .Name y py]) = [x, y] := by
    have q1 : (env.kindOf x == some .local) = true := by unfold Env.kindOf; rw [h1]; rfl
    have q2 : (env.kindOf y == some .local) = true := by unfold Env.kindOf; rw [h2]; rfl
    have q3 : (py.line == px.line) = true := by
      rw [beq_iff_eq] at h4 ⊢
      exact h4.symm
    show List.filterMap _ [_, _] = _
    simp only [List.filterMap_cons, List.filterMap_nil, List.head?_cons, Option.map_some, Option.getD_some, q1, q2, Expr.pos, beq_self_eq_true, q3, Bool.and_self, if_true]
  rw [nm]
  have ed : ([x, y] : List Str).eraseDups = [x, y] := by
    have : (y == x) = false := by
      rw [beq_eq_false_iff_ne]
      exact fun z => h3 z.symm
    simp [List.eraseDups_cons, this]
  rw [ed, if_neg (by simp), if_neg (by rw [h7]; decide), if_neg (by rw [h8]; decide)]
end
end Q

set_option maxRecDepth 100000
set_option maxHeartbeats 1000000
namespace Q
open PySem L2
section
variable {T : Tabs} {g : Gs} {cf : CF} {k : Nat} {N : List Str} {fu : Nat} {ie ia ib ic : IE} {i1 i2 : IS} {ra rb rc re : Rec} {r1 r2 : SRec}
def sPar (N : List Str) (i j : Nat) (ra rb : Rec) (sc : Scope) : STg → Bool
  | .s (.Assign [.Tuple [.Name x px, .Name y py] _ _] (.Tuple [a, b] _ _) _) => slotB N sc x i && slotB N sc y j && decide (i ≠ j) && parB sc x y px py a b && ra sc (.e false a) && rb sc (.e false b)
  | _ => false
theorem sPar_ok {i j : Nat} (ha : SndAll T g cf k N ia ra) (hb : SndAll T g cf k N ib rb) : SndSA T g cf k N fu (.par i j ia ib) (sPar N i j ra rb) := fun {X sc W tg} c h B => by
  unfold sPar at h
  split at h
  · rename_i x px y py k1 p1 a b k2 p2 pos
    simp only [Bool.and_eq_true, decide_eq_true_eq] at h
    obtain ⟨⟨⟨⟨⟨h1, h2⟩, h3⟩, h4⟩, h5⟩, h6⟩ := h
    obtain ⟨hx, _⟩ := slot_ok (p := px) c h1
    obtain ⟨hy, _⟩ := slot_ok (p := py) c h2
    have h4' := h4
    unfold parB at h4'
    simp only [Bool.and_eq_true, decide_eq_true_eq] at h4'
    obtain ⟨⟨⟨⟨⟨⟨⟨l1, l2⟩, _⟩, _⟩, sa⟩, sb⟩, _⟩, _⟩ := h4'
    refine rs_par hx hy h3 (ps_par c.e.calm (by rw [c.e.hN]; exact c.e.nd) hx hy h3 (by rw [c.e.hs]; exact l1) (by rw [c.e.hs]; exact l2)
      (pa_cons (ha (B := B) c.e h5) (pa_cons (hb (B := B) c.e h6) pa_nil (star_cons sb)) (star_cons sa)) (par_ok (by rw [c.e.hs]; exact c.kind) (by rw [c.e.hs]; exact h4)))
  · cases h
def sUnp (N : List Str) (js : List Nat) (re : Rec) (sc : Scope) : STg → Bool
  | .s (.Assign [.Tuple ts _ _] v _) => namesB N sc js ts && noComp v && (match v with | .Tuple vs _ _ => swNone sc ts vs | _ => true) && re sc (.e false v)
  | _ => false
theorem sUnp_ok {js : List Nat} (he : SndAll T g cf k N ie re) : SndSA T g cf k N fu (.unp js ie) (sUnp N js re) := fun {X sc W tg} c h B => by
  unfold sUnp at h
  split at h
  · rename_i ts k1 p1 v pos
    simp only [Bool.and_eq_true] at h
    obtain ⟨⟨⟨h1, h2⟩, h3⟩, h4⟩ := h
    obtain ⟨q1, q2, q3, q4⟩ := names_ok c h1
    refine rs_unp q4 (fun {te} A => ps_asg A (pg_tup c.e.calm q1 q2 q3) (sole (no_swap h2)) ?_ rfl) (he (B := B) c.e h4)
    cases v <;> first | exact sw_other rfl | skip
    exact swNone_ok (by rw [c.e.hs]; exact h3)
  · cases h
def sAug (N : List Str) (i : Nat) (o : Op) (re : Rec) (sc : Scope) : STg → Bool
  | .s (.AugAssign (.Name x _) op e _) => slotB N sc x i && binOk o op && decide (o ≠ .pow) && re sc (.e false e)
  | _ => false
theorem sAug_ok {i : Nat} {o : Op} (he : SndAll T g cf k N ie re) : SndSA T g cf k N fu (.aug i o ie) (sAug N i o re) := fun {X sc W tg} c h B => by
  unfold sAug at h
  split at h
  · rename_i x px op e pos
    simp only [Bool.and_eq_true, decide_eq_true_eq] at h
    obtain ⟨⟨⟨h1, h2⟩, h3⟩, h4⟩ := h
    obtain ⟨hx, _⟩ := slot_ok (p := px) c h1
    have hl : L2.Loc X.env.scope x := by
      unfold slotB at h1
      simp only [Bool.and_eq_true] at h1
      rw [c.e.hs]
      exact loc_ok h1.1.2
    have nd : X.N.Nodup := by rw [c.e.hN]; exact c.e.nd
    unfold binOk at h2
    split at h2 <;> first | (cases h2; done) | (exact absurd rfl h3) | skip
    · exact rs_aug hx (fun {te} A => ps_aug nd hx hl A (ip_op iop_add) (.inl (c.fn x))) (fun a b z H Q q hq => by cases q; exact ⟨a, b, rfl, rfl, hq⟩) (he (B := B) c.e h4)
    · exact rs_aug hx (fun {te} A => ps_aug nd hx hl A (ip_op iop_sub) (.inl (c.fn x))) (fun a b z H Q q hq => by cases q; exact ⟨a, b, rfl, rfl, hq⟩) (he (B := B) c.e h4)
    · refine rs_aug hx (fun {te} A => ps_aug nd hx hl A (ip_op iop_mul) (.inl (c.fn x))) (fun a b z H Q q hq => ?_) (he (B := B) c.e h4)
      simp only [augD] at q
      split at q
      · rename_i hz
        cases q
        exact ⟨a, b, rfl, rfl, .inr hz, hq⟩
      · cases q
    · refine rs_aug hx (fun {te} A => ps_aug nd hx hl A (ip_op iop_fdiv) (.inl (c.fn x))) (fun a b z H Q q hq => ?_) (he (B := B) c.e h4)
      simp only [augD] at q
      split at q
      · rename_i hz
        cases q
        exact ⟨a, b, rfl, rfl, hz, hq⟩
      · cases q
    · refine rs_aug hx (fun {te} A => ps_aug nd hx hl A (ip_op iop_mod) (.inl (c.fn x))) (fun a b z H Q q hq => ?_) (he (B := B) c.e h4)
      simp only [augD] at q
      split at q
      · rename_i hz
        cases q
        exact ⟨a, b, rfl, rfl, hz, hq⟩
      · cases q
  · cases h
/-! lists -/
def sApp (N : List Str) (i : Nat) (re : Rec) (sc : Scope) : STg → Bool
  | .s (.Expr (.Call (.Attribute (.Name x _) m ap) [e] [] cp) _) => decide (m = "append") && decide (N[i]? = some x) && visB sc x && nameOk x && notStar e && (ap.endLine == cp.line) && re sc (.e false e)
  | _ => false
theorem sApp_ok {i : Nat} (he : SndAll T g cf k N ie re) : SndSA T g cf k N fu (.app i ie) (sApp N i re) := fun {X sc W tg} c h B => by
  unfold sApp at h
  split at h
  · rename_i x px m ap e cp pos
    simp only [Bool.and_eq_true, decide_eq_true_eq] at h
    obtain ⟨⟨⟨⟨⟨⟨rfl, h1⟩, h2⟩, h3⟩, h4⟩, h5⟩, h6⟩ := h
    have pv : PE X (.Name x px) (tVar i) := pe_slot c.e (by rw [Bool.and_eq_true, Bool.and_eq_true]; exact ⟨⟨decide_eq_true h1, h2⟩, h3⟩)
    have S1 := star_cons (es := []) (env := X.env) h4
    refine rs_app (fun {te} A => ps_expr (pe_bm PySem.F.plainAttrs_list PySem.F.slot_list_append PySem.F.type_list_append mt_append pv (pa_cons A pa_nil S1) rfl ?_ h5 S1 rfl) rfl) (he (B := B) c.e h6)
    rw [star_all (by rw [noStars, h4]; rfl)]
    rfl
  · cases h
def sApop (N : List Str) (i j : Nat) (re : Rec) (sc : Scope) : STg → Bool
  | .s (.Expr (.Call (.Attribute (.Name x _) m ap) [.Call (.Attribute (.Name y _) m2 ap2) [e] [] cp2] [] cp) _) => decide (m = "append") && decide (m2 = "pop") && decide (N[i]? = some x) && visB sc x && nameOk x && decide (N[j]? = some y) && visB sc y && nameOk y && notStar e && (ap.endLine == cp.line) && (ap2.endLine == cp2.line) && re sc (.e false e)
  | _ => false
theorem sApop_ok {i j : Nat} (he : SndAll T g cf k N ie re) : SndSA T g cf k N fu (.apop i j ie) (sApop N i j re) := fun {X sc W tg} c h B => by
  unfold sApop at h
  split at h
  · rename_i x px m ap y py m2 ap2 e cp2 cp pos
    simp only [Bool.and_eq_true, decide_eq_true_eq] at h
    obtain ⟨⟨⟨⟨⟨⟨⟨⟨⟨⟨⟨rfl, rfl⟩, h1⟩, h2⟩, h3⟩, j1⟩, j2⟩, j3⟩, h4⟩, h5⟩, h6⟩, h7⟩ := h
    have pv : PE X (.Name x px) (tVar i) := pe_slot c.e (by rw [Bool.and_eq_true, Bool.and_eq_true]; exact ⟨⟨decide_eq_true h1, h2⟩, h3⟩)
    have pw : PE X (.Name y py) (tVar j) := pe_slot c.e (by rw [Bool.and_eq_true, Bool.and_eq_true]; exact ⟨⟨decide_eq_true j1, j2⟩, j3⟩)
    have S1 := star_cons (es := []) (env := X.env) h4
    refine rs_apop (fun {te} A => ps_expr (pe_bm PySem.F.plainAttrs_list PySem.F.slot_list_append PySem.F.type_list_append mt_append pv
      (pa_cons (pe_bm PySem.F.plainAttrs_list PySem.F.slot_list_pop PySem.F.type_list_pop mt_popAt pw (pa_cons A pa_nil S1) rfl ?_ h6 S1 rfl) pa_nil rfl) rfl rfl h5 rfl rfl) rfl) (he (B := B) c.e h7)
    rw [star_all (by rw [noStars, h4]; rfl)]
    rfl
  · cases h
def sExt (N : List Str) (i : Nat) (re : Rec) (sc : Scope) : STg → Bool
  | .s (.Expr (.Call (.Attribute (.Name x _) m ap) [e] [] cp) _) => decide (m = "extend") && decide (N[i]? = some x) && visB sc x && nameOk x && notStar e && (ap.endLine == cp.line) && re sc (.e false e)
  | _ => false
theorem sExt_ok {i : Nat} (he : SndAll T g cf k N ie re) : SndSA T g cf k N fu (.ext i ie) (sExt N i re) := fun {X sc W tg} c h B => by
  unfold sExt at h
  split at h
  · rename_i x px m ap e cp pos
    simp only [Bool.and_eq_true, decide_eq_true_eq] at h
    obtain ⟨⟨⟨⟨⟨⟨rfl, h1⟩, h2⟩, h3⟩, h4⟩, h5⟩, h6⟩ := h
    have pv : PE X (.Name x px) (tVar i) := pe_slot c.e (by rw [Bool.and_eq_true, Bool.and_eq_true]; exact ⟨⟨decide_eq_true h1, h2⟩, h3⟩)
    have S1 := star_cons (es := []) (env := X.env) h4
    refine rs_ext (fun {te} A => ps_expr (pe_bm PySem.F.plainAttrs_list PySem.F.slot_list_extend PySem.F.type_list_extend mt_extLT pv (pa_cons A pa_nil S1) rfl ?_ h5 S1 rfl) rfl) (he (B := B) c.e h6)
    rw [star_all (by rw [noStars, h4]; rfl)]
    rfl
  · cases h
def sPopi (N : List Str) (i j : Nat) (re : Rec) (sc : Scope) : STg → Bool
  | .s (.Assign [.Name x px] (.Call (.Attribute (.Name y _) m ap) [e] [] cp) _) => slotB N sc x i && decide (m = "pop") && decide (N[j]? = some y) && visB sc y && nameOk y && notStar e && (ap.endLine == cp.line) && re sc (.e false e)
  | _ => false
theorem sPopi_ok {i j : Nat} (he : SndAll T g cf k N ie re) : SndSA T g cf k N fu (.popi i j ie) (sPopi N i j re) := fun {X sc W tg} c h B => by
  unfold sPopi at h
  split at h
  · rename_i x px y py m ap e cp pos
    simp only [Bool.and_eq_true, decide_eq_true_eq] at h
    obtain ⟨⟨⟨⟨⟨⟨⟨h0, rfl⟩, h1⟩, h2⟩, h3⟩, h4⟩, h5⟩, h6⟩ := h
    obtain ⟨hx, hg⟩ := slot_ok (p := px) c h0
    have pv : PE X (.Name y py) (tVar j) := pe_slot c.e (by rw [Bool.and_eq_true, Bool.and_eq_true]; exact ⟨⟨decide_eq_true h1, h2⟩, h3⟩)
    have S1 := star_cons (es := []) (env := X.env) h4
    refine rs_popi hx (fun {te} A => ps_asg (pe_bm PySem.F.plainAttrs_list PySem.F.slot_list_pop PySem.F.type_list_pop mt_popAt pv (pa_cons A pa_nil S1) rfl ?_ h5 S1 rfl) hg (sole (no_swap rfl)) (sw_name _) rfl) (he (B := B) c.e h6)
    rw [star_all (by rw [noStars, h4]; rfl)]
    rfl
  · cases h
def sPopl (N : List Str) (i j : Nat) (sc : Scope) : STg → Bool
  | .s (.Assign [.Name x px] (.Call (.Attribute (.Name y _) m ap) [] [] cp) _) => slotB N sc x i && decide (m = "pop") && decide (N[j]? = some y) && visB sc y && nameOk y && (ap.endLine == cp.line)
  | _ => false
theorem sPopl_ok {i j : Nat} : SndSA T g cf k N fu (.popl i j) (sPopl N i j) := fun {X sc W tg} c h B => by
  unfold sPopl at h
  split at h
  · rename_i x px y py m ap cp pos
    simp only [Bool.and_eq_true, decide_eq_true_eq] at h
    obtain ⟨⟨⟨⟨⟨h0, rfl⟩, h1⟩, h2⟩, h3⟩, h5⟩ := h
    obtain ⟨hx, hg⟩ := slot_ok (p := px) c h0
    have pv : PE X (.Name y py) (tVar j) := pe_slot c.e (by rw [Bool.and_eq_true, Bool.and_eq_true]; exact ⟨⟨decide_eq_true h1, h2⟩, h3⟩)
    exact rs_popl hx (ps_asg (pe_bm0 PySem.F.plainAttrs_list PySem.F.slot_list_pop PySem.F.type_list_pop mt_pop pv rfl h5) hg (sole (no_swap rfl)) (sw_name _) rfl)
  · cases h
def sPopu (N : List Str) (js : List Nat) (j : Nat) (sc : Scope) : STg → Bool
  | .s (.Assign [.Tuple ts _ _] (.Call (.Attribute (.Name y _) m ap) [] [] cp) _) => namesB N sc js ts && decide (m = "pop") && decide (N[j]? = some y) && visB sc y && nameOk y && (ap.endLine == cp.line)
  | _ => false
theorem sPopu_ok {js : List Nat} {j : Nat} : SndSA T g cf k N fu (.popu js j) (sPopu N js j) := fun {X sc W tg} c h B => by
  unfold sPopu at h
  split at h
  · rename_i ts k1 p1 y py m ap cp pos
    simp only [Bool.and_eq_true, decide_eq_true_eq] at h
    obtain ⟨⟨⟨⟨⟨h0, rfl⟩, h1⟩, h2⟩, h3⟩, h5⟩ := h
    obtain ⟨q1, q2, q3, q4⟩ := names_ok c h0
    have pv : PE X (.Name y py) (tVar j) := pe_slot c.e (by rw [Bool.and_eq_true, Bool.and_eq_true]; exact ⟨⟨decide_eq_true h1, h2⟩, h3⟩)
    exact rs_popu q4 (ps_asg (pe_bm0 PySem.F.plainAttrs_list PySem.F.slot_list_pop PySem.F.type_list_pop mt_pop pv rfl h5) (pg_tup c.e.calm q1 q2 q3) (sole (no_swap rfl)) (sw_other rfl) rfl)
  · cases h
theorem asg_sub {X : Cx} {o i : Expr} {p : Pos} (h : notSlice i = true) : ∀ v, assign (.Subscript o i p) X.env v = (do
      let ov ← holding [v] (eval o X.env)
      let iv ← holding [v, ov] (eval i X.env)
      standAt p
      holding [v, ov, iv] (setItem ov iv v)
      release [v, ov, iv] []) := fun v => by
  cases i <;> first | (cases h; done) | rfl
theorem sw_sub {o i e : Expr} {p : Pos} {l : Nat} {env : Env} : swapsWithSole [.Subscript o i p] e l env = pure false := by
  unfold swapsWithSole
  cases e <;> rfl
theorem sw_sub2 {o i e : Expr} {p : Pos} {env : Env} : swappedStores [.Subscript o i p] e env = pure none := by
  cases e <;> rfl
def sSet (N : List Str) (i : Nat) (ra re : Rec) (sc : Scope) : STg → Bool
  | .s (.Assign [.Subscript (.Name x _) s _] e _) => decide (N[i]? = some x) && visB sc x && nameOk x && notSlice s && ra sc (.e false s) && re sc (.e false e)
  | _ => false
theorem sSet_in {X : Cx} {sc : Scope} {W : WX} {B : Base} {tg : STg} {i : Nat} {R : IS} (c : CtxS X T g cf k N sc W) (ha : SndAll T g cf k N ia ra) (he : SndAll T g cf k N ie re) (h : sSet N i ra re sc tg = true)
    (hr : ∀ {st}, PS X st (tAsg (RE T cf W B ie) (gSub (tVar i) (RE T cf W B ia) rSetL)) → PS X st (RS T cf fu W B R)) : SndS X T cf fu W B R tg := by
  unfold sSet at h
  split at h
  · rename_i x px s sp e pos
    simp only [Bool.and_eq_true, decide_eq_true_eq] at h
    obtain ⟨⟨⟨⟨⟨h1, h2⟩, h3⟩, h4⟩, h5⟩, h6⟩ := h
    have pv : PE X (.Name x px) (tVar i) := pe_slot c.e (by rw [Bool.and_eq_true, Bool.and_eq_true]; exact ⟨⟨decide_eq_true h1, h2⟩, h3⟩)
    exact hr (ps_asg (he (B := B) c.e h6) (pg_sub pv (ha (B := B) c.e h5) set_list (asg_sub h4)) sw_sub sw_sub2 rfl)
  · cases h
theorem sSet_ok {i : Nat} (ha : SndAll T g cf k N ia ra) (he : SndAll T g cf k N ie re) : SndSA T g cf k N fu (.set i ia ie) (sSet N i ra re) := fun {X sc W tg} c h B => sSet_in c ha he h rs_set
theorem sSset_ok {i : Nat} (ha : SndAll T g cf k N ia ra) (he : SndAll T g cf k N ie re) : SndSA T g cf k N fu (.sset i ia ie) (sSet N i ra re) := fun {X sc W tg} c h B => sSet_in c ha he h rs_sset
def sSet2 (N : List Str) (i : Nat) (ra rb re : Rec) (sc : Scope) : STg → Bool
  | .s (.Assign [.Subscript (.Subscript (.Name x _) s _) t _] e _) => decide (N[i]? = some x) && visB sc x && nameOk x && notSlice s && notSlice t && ra sc (.e false s) && rb sc (.e false t) && re sc (.e false e)
  | _ => false
theorem sSet2_ok {i : Nat} (ha : SndAll T g cf k N ia ra) (hb : SndAll T g cf k N ib rb) (he : SndAll T g cf k N ie re) : SndSA T g cf k N fu (.set2 i ia ib ie) (sSet2 N i ra rb re) := fun {X sc W tg} c h B => by
  unfold sSet2 at h
  split at h
  · rename_i x px s sp t tp e pos
    simp only [Bool.and_eq_true, decide_eq_true_eq] at h
    obtain ⟨⟨⟨⟨⟨⟨⟨h1, h2⟩, h3⟩, h4⟩, h5⟩, h6⟩, h7⟩, h8⟩ := h
    have pv : PE X (.Name x px) (tVar i) := pe_slot c.e (by rw [Bool.and_eq_true, Bool.and_eq_true]; exact ⟨⟨decide_eq_true h1, h2⟩, h3⟩)
    exact rs_set2 c.e.hK (ps_asg (he (B := B) c.e h8) (pg_sub (pe_ix ix_list pv (ha (B := B) c.e h6) (plain_ix h4)) (hb (B := B) c.e h7) set_list (asg_sub h5)) sw_sub sw_sub2 rfl)
  · cases h
/-! fields -/
def sSetf (g : Gs) (N : List Str) (ci j : Nat) (re : Rec) (sc : Scope) : STg → Bool
  | .s (.Assign [.Attribute (.Name x _) f _] e _) => decide (N[0]? = some x) && visB sc x && nameOk x && (match g.cl[ci]? with | some (_, ns) => decide (ns[j]? = some f) | none => false) && re sc (.e false e)
  | _ => false
theorem sSetf_ok {ci j : Nat} (he : SndAll T g cf k N ie re) : SndSA T g cf k N fu (.setf ci j ie) (sSetf g N ci j re) := fun {X sc W tg} c h B => by
  unfold sSetf at h
  split at h
  · rename_i x px f fp e pos
    simp only [Bool.and_eq_true, decide_eq_true_eq] at h
    obtain ⟨⟨⟨⟨h1, h2⟩, h3⟩, h4⟩, h5⟩ := h
    have pv : PE X (.Name x px) (tVar 0) := pe_slot c.e (by rw [Bool.and_eq_true, Bool.and_eq_true]; exact ⟨⟨decide_eq_true h1, h2⟩, h3⟩)
    split at h4
    · rename_i y ns q
      obtain ⟨C, q1, q2⟩ := c.e.gf.cls q
      have hf := of_decide_eq_true h4
      have F := c.e.gf.F
      refine rs_setf q1 (F.nd q1) hf (by rw [← c.e.hK]; exact F.cl q1) (by rw [← c.e.hK]; exact F.na q1 f (List.mem_of_getElem? hf)) (ps_fld pv (he (B := B) c.e h5) ?_)
      cases e <;> rfl
    · cases h4
  · cases h
/-! ways -/
def sIte (rc : Rec) (r1 r2 : SRec) (sc : Scope) : STg → Bool
  | .s (.If c a b _) => rc sc (.e true c) && r1 sc (.ss a) && r2 sc (.ss b)
  | _ => false
theorem sIte_ok (hc : SndAll T g cf k N ic rc) (h1 : SndSA T g cf k N fu i1 r1) (h2 : SndSA T g cf k N fu i2 r2) : SndSA T g cf k N fu (.ite ic i1 i2) (sIte rc r1 r2) := fun {X sc W tg} c h B => by
  unfold sIte at h
  split at h
  · simp only [Bool.and_eq_true] at h
    exact rs_ite (hc (B := B) c.e h.1.1).1 (h1 c h.1.2 B) (h2 c h.2 B)
  · cases h
def sWhl (rc : Rec) (r1 : SRec) (sc : Scope) : STg → Bool
  | .s (.While c a [] _) => rc sc (.e true c) && r1 sc (.ss a)
  | _ => false
theorem sWhl_ok (hc : SndAll T g cf k N ic rc) (h1 : SndSA T g cf k N fu i1 r1) : SndSA T g cf k N fu (.whl ic i1) (sWhl rc r1) := fun {X sc W tg} c h B => by
  unfold sWhl at h
  split at h
  · simp only [Bool.and_eq_true] at h
    exact rs_whl (fun {tc tb} A A2 => ps_while c.own A A2) (hc (B := B) c.e h.1).1 (h1 c h.2 B)
  · cases h
-- what a for walks
def fIter (N : List Str) (it : IE) (r : Rec) (sc : Scope) (iter : Expr) : Bool := notSet iter && (match it with
  | .var _ => r sc (.e false iter)
  | _ => if isRange it then r sc (.r iter) else r sc (.e false iter))
theorem fIter_ok {X : Cx} {sc : Scope} {W : WX} {B : Base} {iter tg : Expr} (c : CtxS X T g cf k N sc W) (h : fIter N ia (mt g N ia) sc iter = true) : PI X tg iter (RF T cf W B ia) := by
  unfold fIter at h
  rw [Bool.and_eq_true] at h
  have h2 := h.2
  split at h2
  · rename_i i
    have h3 : mVar N i sc (.e false iter) = true := h2
    unfold mVar at h3
    split at h3
    · rename_i hq
      cases hq
      exact rf_var c.e.hK (pe_slot c.e h3)
    · cases h3
  · rename_i hv
    split at h2
    · exact (mt_ok ia (B := B) c.e h2).2.2.1 tg
    · exact rf_seq hv c.e.hK (mt_ok ia (B := B) c.e h2)
def sFor (N : List Str) (j : Nat) (it : IE) (ri : Rec) (r1 : SRec) (sc : Scope) : STg → Bool
  | .s (.For (.Name x _) iter a [] _) => slotB N sc x j && fIter N it ri sc iter && r1 sc (.ss a)
  | _ => false
theorem sFor_ok {j : Nat} (h1 : SndSA T g cf k N fu i1 r1) : SndSA T g cf k N fu (.for_ j ia i1) (sFor N j ia (mt g N ia) r1) := fun {X sc W tg} c h B => by
  unfold sFor at h
  split at h
  · rename_i x px iter a pos
    simp only [Bool.and_eq_true] at h
    obtain ⟨⟨q1, q2⟩, q3⟩ := h
    obtain ⟨hx, hg⟩ := slot_ok (p := px) c q1
    have hS : notSet iter = true := by
      unfold fIter at q2
      rw [Bool.and_eq_true] at q2
      exact q2.1
    exact rs_for (List.getElem?_eq_some_iff.mp hx).1 (fun {wi g tb} A1 A2 A3 => ps_for c.own c.e.calm A1 A2 A3 (no_fold hS)) (fIter_ok c q2) hg fun B => h1 c q3 B
  · cases h
def sFort (N : List Str) (js : List Nat) (it : IE) (ri : Rec) (r1 : SRec) (sc : Scope) : STg → Bool
  | .s (.For (.Tuple ts _ _) iter a [] _) => namesB N sc js ts && fIter N it ri sc iter && r1 sc (.ss a)
  | _ => false
theorem sFort_ok {js : List Nat} (h1 : SndSA T g cf k N fu i1 r1) : SndSA T g cf k N fu (.fort js ia i1) (sFort N js ia (mt g N ia) r1) := fun {X sc W tg} c h B => by
  unfold sFort at h
  split at h
  · rename_i ts k1 px iter a pos
    simp only [Bool.and_eq_true] at h
    obtain ⟨⟨q1, q2⟩, q3⟩ := h
    obtain ⟨n1, n2, n3, n4⟩ := names_ok c q1
    have hS : notSet iter = true := by
      unfold fIter at q2
      rw [Bool.and_eq_true] at q2
      exact q2.1
    exact rs_fort n4 (fun {wi g tb} A1 A2 A3 => ps_for c.own c.e.calm A1 A2 A3 (no_fold hS)) (fIter_ok c q2) (pg_tup c.e.calm n1 n2 n3) fun B => h1 c q3 B
  · cases h
def sRet (re : Rec) (sc : Scope) : STg → Bool
  | .s (.Return (some e) _) => re sc (.e false e)
  | _ => false
theorem sRet_ok (he : SndAll T g cf k N ie re) : SndSA T g cf k N fu (.ret ie) (sRet re) := fun {X sc W tg} c h B => by
  unfold sRet at h
  split at h
  · exact rs_ret (he (B := B) c.e h)
  · cases h
def sRetv (N : List Str) (i : Nat) (sc : Scope) : STg → Bool
  | .s (.Return (some (.Name x _)) _) => decide (N[i]? = some x) && visB sc x && nameOk x
  | _ => false
theorem sRetv_ok {i : Nat} : SndSA T g cf k N fu (.retv i) (sRetv N i) := fun {X sc W tg} c h B => by
  unfold sRetv at h
  split at h
  · exact rs_retv (pe_slot c.e h)
  · cases h
def sRetn (_ : Scope) : STg → Bool
  | .s (.Return none _) => true
  | .s (.Return (some (.Constant .none _ _)) _) => true
  | _ => false
theorem sRetn_ok : SndSA T g cf k N fu .retn sRetn := fun {X sc W tg} c h B => by
  unfold sRetn at h
  split at h
  · exact rs_retn
  · exact rs_retnone pe_non
  · cases h
def sBrk (_ : Scope) : STg → Bool
  | .s (.Break _) => true
  | _ => false
theorem sBrk_ok : SndSA T g cf k N fu .brk sBrk := fun {X sc W tg} c h B => by
  unfold sBrk at h
  split at h
  · exact rs_brk
  · cases h
def sCont (_ : Scope) : STg → Bool
  | .s (.Continue _) => true
  | _ => false
theorem sCont_ok : SndSA T g cf k N fu .cont sCont := fun {X sc W tg} c h B => by
  unfold sCont at h
  split at h
  · exact rs_cont
  · cases h
def sRaiseM (g : Gs) (ci : Nat) (sc : Scope) : STg → Bool
  | .s (.Raise (some (.Call (.Name x _) [.Constant (.str _) _ _] [] _)) none _) => glB sc x && nameOk x && (match g.ex[ci]? with | some (y, []) => decide (y = x) | _ => false)
  | _ => false
theorem sRaiseM_ok {ci : Nat} : SndSA T g cf k N fu (.raiseM ci) (sRaiseM g ci) := fun {X sc W tg} c h B => by
  unfold sRaiseM at h
  split at h
  · simp only [Bool.and_eq_true] at h
    obtain ⟨⟨h1, h2⟩, h3⟩ := h
    split at h3
    · rename_i y q
      obtain rfl := of_decide_eq_true h3
      obtain ⟨A, q1, q2, q3, q4, q5, q6⟩ := c.e.gf.exc q
      exact rs_raiseM (m := .Name "" ⟨0, 0, 0, 0⟩) q1 (ps_raise c.e.calm c.tk (pmk_own PySem.F.excBase_ValueError (q6 rfl) q2 q3 (raises_own q4 q5) (gl_ok c.e.hs h1) (nameOk_ok h2).1))
    · cases h3
  · cases h
/-! try: .. except X: return constant -/
def sTry1 (g : Gs) (r1 : SRec) (ci : Nat) (d : D) (sc : Scope) : STg → Bool
  | .s (.Try body [.ExceptHandler (some (.Name x _)) none [.Return (some (.Constant cst _ _)) _] _] [] [] _) => r1 sc (.ss body) && conB d cst && glB sc x && nameOk x && (match g.ex[ci]? with | some (y, _) => decide (y = x) | none => false)
  | _ => false
def conV : D → V
  | .int i => .int i
  | .str s => .str s
  | .bl b => .bl b
  | _ => .non
theorem con_pe {X : Cx} {d : D} {cst : Const} {kd : Nat} {p : Pos} (h : conB d cst = true) : PE X (.Constant cst kd p) (tC (conV d)) ∧ ∀ (T : Tabs) (S : List Addr) (H : Hp), DV T S H (conV d) d := by
  unfold conB at h
  split at h
  · cases eqDD_ok h; exact ⟨pe_int, fun _ _ _ => .int _⟩
  · cases eqDD_ok h; exact ⟨pe_str, fun _ _ _ => .str _⟩
  · cases eqDD_ok h; exact ⟨pe_bl, fun _ _ _ => .bl _⟩
  · cases eqDD_ok h; exact ⟨pe_non, fun _ _ _ => .non⟩
  · cases h
theorem sTry1_ok {ci : Nat} {d : D} (h1 : SndSA T g cf k N fu i1 r1) : SndSA T g cf k N fu (.try1 i1 ci d) (sTry1 g r1 ci d) := fun {X sc W tg} c h B => by
  unfold sTry1 at h
  split at h
  · rename_i body x np cst kd cp rp hp pos
    simp only [Bool.and_eq_true] at h
    obtain ⟨⟨⟨⟨g1, g2⟩, g3⟩, g4⟩, g5⟩ := h
    split at g5
    · rename_i y ns q
      obtain rfl := of_decide_eq_true g5
      obtain ⟨A, q1, q2, q3, q4, q5, q6⟩ := c.e.gf.exc q
      have hd := (con_pe (X := X) (kd := kd) (p := cp) g2).2
      refine PS.imp (ps_try_only (c := .ref A) (ts := fun _ _ _ D σ H => D.rt (conV d) H) c.stk c.frm ⟨gl_ok c.e.hs g3, (nameOk_ok g4).1, .inl q2⟩ c.tk (tb := fun W' => RS T cf fu W' B i1)
        (fun W' pn xe tk own => h1 (X := X.tr pn xe) ⟨⟨c.e.hs, c.e.hN, c.e.nd, c.e.calm, c.e.gf, c.e.room, fun σ => passAt tk σ⟩, c.fn, tk, own, c.kind, c.stk, c.frm⟩ g1 B)
        (fun a oe cls d' pn hz hf => pss_one (ps_ret (con_pe g2).1))) fun D σ H h => ?_
      obtain ⟨ρ, w, s, h⟩ := h
      refine ⟨ρ, w, s, ?_⟩
      simp only [evS] at h
      cases e : evS cf fu i1 ρ w.st with
      | next ρ' st' => rw [e] at h; exact h
      | brk ρ' st' => rw [e] at h; exact h
      | cont ρ' st' => rw [e] at h; exact h
      | ret v st' => rw [e] at h; exact h
      | stuck => rw [e] at h; exact h
      | exc z ρ' st' =>
        rw [e] at h
        simp only at h ⊢
        intro σ' H' w' cls dd hw s' xr
        obtain ⟨A', ns', t1, rfl, t2⟩ := id xr
        have F := c.e.gf.F
        refine ⟨exSub z.c ci, by rw [← c.e.gf.hK]; exact F.exm t1 q1, fun hb a ha => ?_, fun hb => ?_⟩
        · rw [hb] at h
          exact h (conV d) H' w' [] hw s'.st (.imm (hd _ _ _)) Fr.nil
        · rw [hb] at h
          exact h σ' H' w' _ dd hw s' xr
    · cases g5
  · cases h
/-! raise C(e), the class with its own __init__ -/
theorem passes0 {X : Cx} : Passes (L2.CX X.prog X.w) X (fun _ _ _ => False) := fun _ _ _ _ _ _ _ h => by
  obtain ⟨_, _, _, _, _, _, _, _, _, _, _, _, z⟩ := h
  exact z.elim
def sRaise (g : Gs) (ci : Nat) (ra : Rec) (sc : Scope) : STg → Bool
  | .s (.Raise (some (.Call (.Name x _) (e :: es) [] _)) none _) => glB sc x && nameOk x && noStars (e :: es) && ra sc (.as (e :: es)) && (match g.ex[ci]? with | some (y, [_]) => decide (y = x) | _ => false)
  | _ => false
theorem sRaise_ok {ci : Nat} (ha : SndAll T g cf k N ia ra) : SndSA T g cf k N fu (.raise ci ia) (sRaise g ci ra) := fun {X sc W tg} c h B => by
  unfold sRaise at h
  split at h
  · rename_i x p e es pos pos'
    simp only [Bool.and_eq_true] at h
    obtain ⟨⟨⟨⟨h1, h2⟩, h3⟩, h4⟩, h5⟩ := h
    split at h5
    · rename_i y n q
      obtain rfl := of_decide_eq_true h5
      obtain ⟨A, fI, fd, ps, q1, q2, q3, q4, q5, q6, q7, q8, q9⟩ := c.e.gf.exi q
      rw [noStars, Bool.and_eq_true] at h3
      exact rs_raise1 q1 (fun {ta} pa => ps_raise c.e.calm c.tk (pmk_oex q3 q4 q5 q7 c.e.room q6 .nil passes0 (gl_ok c.e.hs h1) q2 pa (nameOk_ok h2).1 (star_cons h3.1) (star_any h3.2))) (ha (B := B) c.e h4)
    · cases h5
  · cases h
/-! try: .. except X: .. except Y as e: .., each clause returns -/
-- a clause's name
def nmB (N : List Str) (sc : Scope) (y : Str) : Bool := N.contains y && decide (sc.names.lookup y = some .local) && nameOk y
def hx1 (g : Gs) (ci : Nat) (nm : Option Str) : Option D → Expr → Bool
  | some d, .Constant cst _ _ => conB d cst
  | none, .Attribute (.Name x _) f _ => match nm with
    | some y => decide (x = y) && (match g.ex[ci]? with | some (_, [n]) => decide (f = n) | _ => false) && decide (ci ≠ 0)
    | none => false
  | _, _ => false
def hxL (g : Gs) (ci : Nat) (nm : Option Str) : List (Option D) → List Expr → Bool
  | [], [] => true
  | o :: r, e :: es => hx1 g ci nm o e && hxL g ci nm r es
  | _, _ => false
def hxE (g : Gs) (ci : Nat) (nm : Option Str) : HX → Expr → Bool
  | .con d, e => hx1 g ci nm (some d) e
  | .fld, e => hx1 g ci nm none e
  | .tup as, .Tuple es _ _ => hxL g ci nm as es && decide (as.length ≤ 1000)
  | _, _ => false
def hdsB (g : Gs) (N : List Str) (sc : Scope) : List (Nat × HX) → List ExceptHandler → Bool
  | [], [] => true
  | (ci, h) :: r, .ExceptHandler (some (.Name x _)) nm [.Return (some e) _] _ :: hs => glB sc x && nameOk x && (match g.ex[ci]? with | some (y, _) => decide (y = x) | none => false) && (match nm with | some y => nmB N sc y | none => true) && hxE g ci nm h e && hdsB g N sc r hs
  | _, _ => false
def sTryR (g : Gs) (N : List Str) (r1 : SRec) (hs : List (Nat × HX)) (sc : Scope) : STg → Bool
  | .s (.Try body (h0 :: hds) [] [] _) => r1 sc (.ss body) && hdsB g N sc hs (h0 :: hds)
  | _ => false
-- what is known of the exception in a clause
structure HKn (T : Tabs) (ci : Nat) (oi : Option Nat) (a : Addr) (cls : Value) (d : Option Addr) (σ : L2.St) (H : Hp) (w : Wd) (x : Exc) : Prop where
  ok : Ok T H w
  xr : XR T H w x cls d
  sub : exSub x.c ci = true
  at_ : ∀ i, oi = some i → σ[i]? = some (some (.ref a))
def rH1 (T : Tabs) (ci : Nat) (oi : Option Nat) (a : Addr) (cls : Value) (d : Option Addr) (o : Option D) : TE := fun σ H Q => ∃ w x, HKn T ci oi a cls d σ H w x ∧ match o with
  | some dd => ∀ v, DV T w.S w.G v dd → Q v H
  | none => match x.fs with
    | [dd] => ∀ v, DV T w.S w.G v dd → Q v H
    | _ => False
def rHL (T : Tabs) (ci : Nat) (oi : Option Nat) (a : Addr) (cls : Value) (d : Option Addr) (as : List (Option D)) : TA := fun σ H Q => ∃ w x, HKn T ci oi a cls d σ H w x ∧ match hxs x.fs as with
  | some ds => ∀ vs, DVs T w.S w.G vs ds → Q vs H
  | none => False
def rHX (T : Tabs) (ci : Nat) (oi : Option Nat) (a : Addr) (cls : Value) (d : Option Addr) (h : HX) : TS := fun D σ H => ∃ w x, HKn T ci oi a cls d σ H w x ∧ match h.ev x.fs with
  | some dd => Got T H w w.st (.imm dd) fun v H' => D.rt v H'
  | none => False
section
variable {X : Cx} {sc : Scope} {W : WX} {ci : Nat} {nm : Option Str} {oi : Option Nat} {a : Addr} {oe : Obj} {cls : Value} {d : Option Addr} {pn : List (Addr × Obj)}
theorem hx1_ok {o : Option D} {e : Expr} (c : CtxS X T g cf k N sc W) (hnm : ∀ y, nm = some y → ∃ i, oi = some i ∧ X.N[i]? = some y ∧ Vis X.env.scope y ∧ (y == ("__debug__" : Str)) = false ∧ (y == ("__classdict__" : Str)) = false) (h : hx1 g ci nm o e = true) (hz : Zc cls d oe) (hf : ∃ vs, oe.data = .fields vs) :
    PE (X.suite a ((a, oe) :: pn)) e (rH1 T ci oi a cls d o) ∧ ∀ es, starEach (e :: es) (X.suite a ((a, oe) :: pn)).env = (false, eval e (X.suite a ((a, oe) :: pn)).env) :: starEach es (X.suite a ((a, oe) :: pn)).env := by
  unfold hx1 at h
  split at h
  · rename_i dd cst kd p
    obtain ⟨h1, h2⟩ := con_pe (X := X.suite a ((a, oe) :: pn)) (kd := kd) (p := p) h
    refine ⟨PE.imp h1 fun σ H Q q => ?_, fun _ => rfl⟩
    obtain ⟨w, x, hk, q⟩ := q
    exact q _ (h2 _ _ _)
  · rename_i x p f p'
    split at h
    · rename_i y
      simp only [Bool.and_eq_true, decide_eq_true_eq] at h
      obtain ⟨⟨rfl, h2⟩, h3⟩ := h
      split at h2
      · rename_i z n q
        obtain rfl := of_decide_eq_true h2
        obtain ⟨i, rfl, i1, i2, i3, i4⟩ := hnm _ rfl
        obtain ⟨A, fI, fd, ps, q1, q2, q3, q4, q5, q6, q7, q8, q9⟩ := c.e.gf.exi q
        refine ⟨PE.imp (pe_xf (C := A) q8 q9 hz hf (pe_var (X := X.suite a ((a, oe) :: pn)) i1 i2 i3 i4)) fun σ H Q r => ?_, fun _ => rfl⟩
        obtain ⟨w, x, hk, r⟩ := r
        refine ⟨_, hk.at_ i rfl, rfl, ?_⟩
        obtain ⟨A', ns', t1, rfl, t2⟩ := hk.xr
        have hs := hk.sub
        unfold exSub at hs
        rw [Bool.or_eq_true, decide_eq_true_eq, decide_eq_true_eq] at hs
        have hci : x.c = ci := hs.resolve_right h3
        rw [hci, q1] at t1
        cases t1
        refine ⟨rfl, ?_⟩
        rcases t2 with ⟨t3, _, _⟩ | ⟨dd, fs, rfl, t4, t5, t6⟩
        · cases t3
        · obtain ⟨⟨f1, v1⟩, rfl⟩ : ∃ p, fs = [p] := by
            match fs, t5 with
            | [p], _ => exact ⟨p, rfl⟩
          have e1 : f1 = f := List.cons.inj t5 |>.1
          subst e1
          generalize hxf : x.fs = xf at t6 r
          cases t6 with
          | cons k1 k2 =>
          cases k2
          exact ⟨dd, _, v1, rfl, t4, by simp [List.lookup], r v1 k1⟩
      · cases h2
    · cases h
  · cases h
theorem hxL_ok (c : CtxS X T g cf k N sc W) (hnm : ∀ y, nm = some y → ∃ i, oi = some i ∧ X.N[i]? = some y ∧ Vis X.env.scope y ∧ (y == ("__debug__" : Str)) = false ∧ (y == ("__classdict__" : Str)) = false) (hz : Zc cls d oe) (hf : ∃ vs, oe.data = .fields vs) :
    ∀ {as : List (Option D)} {es : List Expr}, hxL g ci nm as es = true → PA (X.suite a ((a, oe) :: pn)) es (rHL T ci oi a cls d as) := by
  intro as
  induction as with
  | nil =>
    intro es h
    cases es with
    | cons e es => cases h
    | nil =>
      refine PA.imp pa_nil fun σ H Q r => ?_
      obtain ⟨w, x, hk, r⟩ := r
      exact r [] .nil
  | cons o as ih =>
    intro es h
    cases es with
    | nil => cases o <;> cases h
    | cons e es =>
      have h' : (hx1 g ci nm o e && hxL g ci nm as es) = true := by cases o <;> exact h
      rw [Bool.and_eq_true] at h'
      obtain ⟨p1, p2⟩ := hx1_ok (pn := pn) (a := a) c hnm h'.1 hz hf
      refine PA.imp (pa_cons p1 (ih h'.2) (p2 es)) fun σ H Q r => ?_
      obtain ⟨w, x, hk, r⟩ := r
      refine ⟨w, x, hk, ?_⟩
      cases o with
      | some dd =>
        intro v hv
        refine ⟨w, x, hk, ?_⟩
        simp only [hxs] at r
        cases e1 : hxs x.fs as with
        | none => rw [e1] at r; exact r
        | some ds =>
          rw [e1] at r
          exact fun vs hvs => r (v :: vs) (.cons hv hvs)
      | none =>
        simp only [hxs] at r
        cases e2 : x.fs with
        | nil => rw [e2] at r; exact r
        | cons d1 rest =>
          cases rest with
          | cons _ _ => rw [e2] at r; exact r
          | nil =>
            rw [e2] at r
            intro v hv
            refine ⟨w, x, hk, ?_⟩
            rw [e2]
            simp only at r
            cases e1 : hxs [d1] as with
            | none => rw [e1] at r; exact r
            | some ds =>
              rw [e1] at r
              exact fun vs hvs => r (v :: vs) (.cons hv hvs)
theorem hxE_ok {h : HX} {e : Expr} {rp : Pos} (c : CtxS X T g cf k N sc W) (hnm : ∀ y, nm = some y → ∃ i, oi = some i ∧ X.N[i]? = some y ∧ Vis X.env.scope y ∧ (y == ("__debug__" : Str)) = false ∧ (y == ("__classdict__" : Str)) = false) (hz : Zc cls d oe) (hf : ∃ vs, oe.data = .fields vs)
    (hh : hxE g ci nm h e = true) : PSs (X.suite a ((a, oe) :: pn)) [.Return (some e) rp] (rHX T ci oi a cls d h) := by
  have one : ∀ {o : Option D} {e : Expr}, hx1 g ci nm o e = true → (∀ D σ H, rHX T ci oi a cls d h D σ H → rH1 T ci oi a cls d o σ H fun v H' => D.rt v H') → PSs (X.suite a ((a, oe) :: pn)) [.Return (some e) rp] (rHX T ci oi a cls d h) := fun {o e} h1 h2 =>
    pss_one (PS.imp (ps_ret (hx1_ok (pn := pn) (a := a) c hnm h1 hz hf).1) fun D σ H r => h2 D σ H r)
  unfold hxE at hh
  split at hh
  · rename_i dd
    refine one hh fun D σ H r => ?_
    obtain ⟨w, x, hk, r⟩ := r
    exact ⟨w, x, hk, fun v hv => r v H w [] rfl (Step.refl hk.ok) (.imm hv) Fr.nil⟩
  · refine one hh fun D σ H r => ?_
    obtain ⟨w, x, hk, r⟩ := r
    refine ⟨w, x, hk, ?_⟩
    simp only [HX.ev] at r
    cases e2 : x.fs with
    | nil => rw [e2] at r; exact r
    | cons d1 rest =>
      cases rest with
      | cons _ _ => rw [e2] at r; exact r
      | nil =>
        rw [e2] at r
        exact fun v hv => r v H w [] rfl (Step.refl hk.ok) (.imm hv) Fr.nil
  · rename_i as es kk p
    rw [Bool.and_eq_true, decide_eq_true_eq] at hh
    refine pss_one (PS.imp (ps_ret (pe_tup (hxL_ok (pn := pn) (a := a) c hnm hz hf hh.1))) fun D' σ H r => ?_)
    obtain ⟨w, x, hk, r⟩ := r
    refine ⟨w, x, hk, ?_⟩
    simp only [HX.ev] at r
    cases e1 : hxs x.fs as with
    | none => rw [e1] at r; exact r
    | some ds =>
      rw [e1] at r
      intro vs hvs
      have hlen : ∀ {as : List (Option D)} {ds : List D}, hxs x.fs as = some ds → ds.length = as.length := by
        intro as
        induction as with
        | nil => intro ds e; cases e; rfl
        | cons o as ih =>
          intro ds e
          cases o with
          | some d0 =>
            simp only [hxs, Option.map_eq_some_iff] at e
            obtain ⟨ds0, e3, rfl⟩ := e
            rw [List.length_cons, List.length_cons, ih e3]
          | none =>
            simp only [hxs] at e
            split at e
            · rename_i d0 e4
              rw [Option.map_eq_some_iff] at e
              obtain ⟨ds0, e3, rfl⟩ := e
              rw [List.length_cons, List.length_cons, ih e3]
            · cases e
      refine ⟨by rw [hvs.length, hlen e1, sizeLine_eq]; omega, fun p hp => ?_⟩
      exact got_tup hk.ok hp hvs r
  · cases hh
end
theorem hds_ok {X : Cx} {sc : Scope} {W : WX} (c : CtxS X T g cf k N sc W) : ∀ {hs : List (Nat × HX)} {hds : List ExceptHandler}, hdsB g N sc hs hds = true →
    ∃ l : List (Value × Option Nat × TSX), HdsR X hds l ∧ ∀ (D : Ends) (σ : L2.St) (H : Hp) (w : Wd) (x : Exc) (cls : Value) (d : Option Addr), Ok T H w → XR T H w x cls d →
      (match findH x.c hs with
        | some h => (match h.ev x.fs with
          | some dd => Got T H w w.st (.imm dd) fun v H' => D.rt v H'
          | none => False)
        | none => W cls d σ H) → wMix X.K W D l cls d σ H := by
  intro hs
  induction hs with
  | nil =>
    intro hds h
    cases hds with
    | cons _ _ => cases h
    | nil => exact ⟨[], .nil, fun D σ H w x cls d ok xr q => q⟩
  | cons p hs ih =>
    intro hds h
    obtain ⟨ci, hx⟩ := p
    unfold hdsB at h
    split at h
    · rename_i z
      cases z
    · rename_i ci' hx' r x np nm e rp hp hs' z
      cases z
      simp only [Bool.and_eq_true] at h
      obtain ⟨⟨⟨⟨⟨g1, g2⟩, g3⟩, g4⟩, g5⟩, g6⟩ := h
      obtain ⟨l, l1, l2⟩ := ih g6
      split at g3
      · rename_i y ns q
        obtain rfl := of_decide_eq_true g3
        obtain ⟨A, q1, q2, q3, q4, q5, q6⟩ := c.e.gf.exc q
        have hn : Names X y (.ref A) := ⟨gl_ok c.e.hs g1, (nameOk_ok g2).1, .inl q2⟩
        have fin : ∀ (oi : Option Nat) (D : Ends) (σ : L2.St) (H : Hp) (w : Wd) (x : Exc) (cls : Value) (d : Option Addr), Ok T H w → XR T H w x cls d →
            (match findH x.c ((ci, hx) :: hs) with
              | some h => (match h.ev x.fs with
                | some dd => Got T H w w.st (.imm dd) fun v H' => D.rt v H'
                | none => False)
              | none => W cls d σ H) → wMix X.K W D ((.ref A, oi, fun a cls d => rHX T ci oi a cls d hx) :: l) cls d σ H := by
          intro oi D σ H w x cls d ok xr hq
          obtain ⟨A', ns', t1, rfl, t2⟩ := id xr
          refine ⟨exSub x.c ci, by rw [← c.e.gf.hK]; exact c.e.gf.F.exm t1 q1, fun hb a ha hlen => ?_, fun hb => ?_⟩
          · simp only [findH, hb, if_true] at hq
            refine ⟨w, x, ⟨ok, xr, hb, fun i e => ?_⟩, hq⟩
            subst e
            show (σ.set i (some (.ref a)))[i]? = _
            rw [List.getElem?_set_self (hlen i rfl)]
          · simp only [findH, hb, Bool.false_eq_true, if_false] at hq
            exact l2 D σ H w x _ d ok xr hq
        cases nm with
        | none => exact ⟨_, .only hn (fun a oe cls d pn hz hf => hxE_ok (nm := none) (oi := none) c (fun y e => by cases e) hz hf g5) l1, fin none⟩
        | some y2 =>
          unfold nmB at g4
          simp only [Bool.and_eq_true, decide_eq_true_eq] at g4
          obtain ⟨⟨k1, k2⟩, k3⟩ := g4
          obtain ⟨i, hi⟩ := List.mem_iff_getElem?.mp (List.contains_iff_mem.mp k1)
          have hi' : X.N[i]? = some y2 := by rw [c.e.hN]; exact hi
          have hv : X.env.scope.names.lookup y2 = some .local := by rw [c.e.hs]; exact k2
          exact ⟨_, .named (by rw [c.e.hN]; exact c.e.nd) hi' hv hn (fun a oe cls d pn hz hf => hxE_ok (nm := some y2) (oi := some i) c (fun y e => by cases e; exact ⟨i, rfl, hi', .inl hv, nameOk_ok k3⟩) hz hf g5) l1, fin (some i)⟩
      · cases g3
    · cases h
theorem sTryR_ok {hs : List (Nat × HX)} (h1 : SndSA T g cf k N fu i1 r1) : SndSA T g cf k N fu (.tryR i1 hs) (sTryR g N r1 hs) := fun {X sc W tg} c h B => by
  unfold sTryR at h
  split at h
  · rename_i body h0 hds pos
    rw [Bool.and_eq_true] at h
    obtain ⟨l, l1, l2⟩ := hds_ok c h.2
    refine PS.imp (ps_try_mix c.stk c.frm c.tk (tb := fun W' => RS T cf fu W' B i1)
      (fun W' pn xe tk own => h1 (X := X.tr pn xe) ⟨⟨c.e.hs, c.e.hN, c.e.nd, c.e.calm, c.e.gf, c.e.room, fun σ => passAt tk σ⟩, c.fn, tk, own, c.kind, c.stk, c.frm⟩ h.1 B) l1) fun D σ H q => ?_
    obtain ⟨ρ, w, s, q⟩ := q
    refine ⟨ρ, w, s, ?_⟩
    simp only [evS] at q
    cases e : evS cf fu i1 ρ w.st with
    | next ρ' st' => rw [e] at q; exact q
    | brk ρ' st' => rw [e] at q; exact q
    | cont ρ' st' => rw [e] at q; exact q
    | ret v st' => rw [e] at q; exact q
    | stuck => rw [e] at q; exact q
    | exc z ρ' st' =>
      rw [e] at q
      simp only at q ⊢
      intro σ' H' w' cls dd hw s' xr
      refine l2 D σ' H' w' z cls dd s'.ok xr ?_
      cases e2 : findH z.c hs with
      | none =>
        rw [e2] at q
        exact q σ' H' w' cls dd hw s' xr
      | some hh =>
        rw [e2] at q
        simp only at q ⊢
        cases e3 : hh.ev z.fs with
        | none => rw [e3] at q; exact q
        | some d0 =>
          rw [e3] at q
          intro v H2 w2 fp hw2 t2 c2 fr
          cases c2 with
          | imm hd => exact q v H2 w2 [] (hw2.trans hw) (Step.trans s'.bk.ok s'.st t2) (.imm hd) Fr.nil
  · cases h
/-! ### all together -/
def ms (g : Gs) (N : List Str) : IS → SRec
  | .skip => sSkip
  | .seq a b => sSeq a (ms g N a) (ms g N b)
  | .drop e => sDrop (mt g N e)
  | .asg i e => sAsg N i e (mt g N e) (subRecs g N e)
  | .par i j a b => sPar N i j (mt g N a) (mt g N b)
  | .unp js e => sUnp N js (mt g N e)
  | .aug i o e => sAug N i o (mt g N e)
  | .app i e => sApp N i (mt g N e)
  | .apop i j e => sApop N i j (mt g N e)
  | .ext i e => sExt N i (mt g N e)
  | .popi i j e => sPopi N i j (mt g N e)
  | .popl i j => sPopl N i j
  | .popu js j => sPopu N js j
  | .set i a e => sSet N i (mt g N a) (mt g N e)
  | .set2 i a b e => sSet2 N i (mt g N a) (mt g N b) (mt g N e)
  | .sset i a e => sSet N i (mt g N a) (mt g N e)
  | .setf c j e => sSetf g N c j (mt g N e)
  | .frz _ => fun _ _ => false
  | .ite c a b => sIte (mt g N c) (ms g N a) (ms g N b)
  | .whl c b => sWhl (mt g N c) (ms g N b)
  | .for_ j it b => sFor N j it (mt g N it) (ms g N b)
  | .fort js it b => sFort N js it (mt g N it) (ms g N b)
  | .ret e => sRet (mt g N e)
  | .retv i => sRetv N i
  | .retn => sRetn
  | .brk => sBrk
  | .cont => sCont
  | .raiseM c => sRaiseM g c
  | .raise c a => sRaise g c (mt g N a)
  | .try1 b c d => sTry1 g (ms g N b) c d
  | .tryR b hs => sTryR g N (ms g N b) hs
  | .never => sNever
theorem ms_ok : ∀ i : IS, SndSA T g cf k N fu i (ms g N i)
  | .skip => sSkip_ok
  | .seq a b => sSeq_ok (ms_ok a) (ms_ok b)
  | .drop e => sDrop_ok (mt_ok e)
  | .asg i e => sAsg_ok
  | .par i j a b => sPar_ok (mt_ok a) (mt_ok b)
  | .unp js e => sUnp_ok (mt_ok e)
  | .aug i o e => sAug_ok (mt_ok e)
  | .app i e => sApp_ok (mt_ok e)
  | .apop i j e => sApop_ok (mt_ok e)
  | .ext i e => sExt_ok (mt_ok e)
  | .popi i j e => sPopi_ok (mt_ok e)
  | .popl i j => sPopl_ok
  | .popu js j => sPopu_ok
  | .set i a e => sSet_ok (mt_ok a) (mt_ok e)
  | .set2 i a b e => sSet2_ok (mt_ok a) (mt_ok b) (mt_ok e)
  | .sset i a e => sSset_ok (mt_ok a) (mt_ok e)
  | .setf c j e => sSetf_ok (mt_ok e)
  | .frz _ => fun _ h _ => by cases h
  | .ite c a b => sIte_ok (mt_ok c) (ms_ok a) (ms_ok b)
  | .whl c b => sWhl_ok (mt_ok c) (ms_ok b)
  | .for_ j it b => sFor_ok (ms_ok b)
  | .fort js it b => sFort_ok (ms_ok b)
  | .ret e => sRet_ok (mt_ok e)
  | .retv i => sRetv_ok
  | .retn => sRetn_ok
  | .brk => sBrk_ok
  | .cont => sCont_ok
  | .raiseM c => sRaiseM_ok
  | .raise c a => sRaise_ok (mt_ok a)
  | .try1 b c d => sTry1_ok (ms_ok b)
  | .tryR b hs => sTryR_ok (ms_ok b)
  | .never => sNever_ok
end
end Q

set_option maxRecDepth 100000
set_option maxHeartbeats 1000000
namespace Q
open PySem L2 PySem.Spec PyProof.Rows
section
variable {T : Tabs} {g : Gs} {cf : CF} {W : Nat} {lev : Nat} {N ps : List Str} {P : Program} {w : World} {K : PySem.W.Frag} {mg : Str → Option Value} {base : Heap} {fn : Fn} {f n : Nat} {x qual : Str} {st : Stmt} {fa : Addr} {fd : FuncData}
def fscB (N P : List Str) (sc : Scope) : Bool :=
  decide (sc.kind = .function) && !sc.isCoroutine && !sc.isGenerator && decide N.Nodup && decide (N.take P.length = P) && P.all (fun x => decide (sc.names.lookup x = some .local) || decide (sc.names.lookup x = some .cell)) && sc.names.all (fun y => decide (y.2 ≠ .free))
theorem fsc_ok {P : List Str} {sc : Scope} (h : fscB N P sc = true) : FnScope N P sc := by
  unfold fscB at h
  simp only [Bool.and_eq_true, decide_eq_true_eq, Bool.not_eq_true', List.all_eq_true, Bool.or_eq_true] at h
  obtain ⟨⟨⟨⟨⟨⟨h1, h2⟩, h3⟩, h4⟩, h5⟩, h6⟩, h7⟩ := h
  exact ⟨h1, h2, h3, h4, h5, h6, h7⟩
-- the def's body is the machine's
def fnB (g : Gs) (fn : Fn) (st : Stmt) (ps N : List Str) : Bool :=
  fscB N ps (defScope st) && decide (ps.length = fn.ps) && decide (N.length = fn.nv) && decide (fn.ps ≤ fn.nv) && ms g N fn.body (defScope st) (.ss (defBody st))
theorem er_undef {B : Base} {S : List Addr} {G H : Hp} : ∀ n : Nat, ER T B S G H (List.replicate n none) (List.replicate n .undef) []
  | 0 => .nil
  | n + 1 => .undef (er_undef n)
theorem er_args {B : Base} {S : List Addr} {G H : Hp} {σ : L2.St} {ρ : Ev} {f : List Addr} (hS : B.w0.S = S) (hG : B.w0.G = G) (hr : ER T B S G H σ ρ f) : ∀ {vs : List V} {cs : List Cell}, CRs T S G B.H0 vs cs [] → cs.all argC = true → ER T B S G H (vs.map some ++ σ) (cs ++ ρ) f := by
  intro vs
  induction vs with
  | nil => intro cs h ha; cases h; exact hr
  | cons v vs ih =>
    intro cs h ha
    generalize hf : ([] : List Addr) = fp at h
    cases h with
    | @cons _ c _ cs f1 fs h hs =>
      rw [List.all_cons, Bool.and_eq_true] at ha
      have e1 : f1 = [] := (List.append_eq_nil_iff.mp hf.symm).1
      have e2 : fs = [] := (List.append_eq_nil_iff.mp hf.symm).2
      subst e1
      subst e2
      have t := ih hs ha.2
      cases c with
      | imm d =>
        cases h with
        | imm hd => exact ER.cons (hd_own rfl) (.imm hd) t
      | bor cs =>
        subst hS
        subst hG
        exact ER.lent h t
      | undef => cases ha.1
      | own _ => cases ha.1
      | obj _ _ => cases ha.1
theorem ctx_of {cdv : Value} {A : Around} {outer : List Env} {s : Shared} {H : Hp} {E : XK} (gf : GF P w K mg base T g cf lev) (S : FnScope N ps (defScope st)) (hr : Room (lev + 1) (A.deeper (envOfC qual (defScope st) s.heap.objs.size fa cdv))) :
    CtxS (cxOf (L2.CX P w) P w K mg base N qual (defScope st) fa cdv A outer s H E) T g cf lev N (defScope st) (fun cls d _ H => E cls d H) := by
  have tk : Takes (cxOf (L2.CX P w) P w K mg base N qual (defScope st) fa cdv A outer s H E) (fun cls d _ H => E cls d H) := takes_of rfl rfl rfl rfl
  exact ⟨⟨rfl, rfl, S.nd, rfl, gf, hr, fun σ => passAt tk σ⟩, fun _ => rfl, tk, passes_of rfl, S.kind, rfl, rfl⟩
theorem fn_run (gf : GF P w K mg base T g cf lev) (F : Fun K x qual st fa fd) (hm : fnB g fn st ps N = true) (hi : fn.init = false) {cf' : CF} (hcf : ∀ cs st, cf' f cs st = runFn cf W fn cs st) :
    FnOk P w K mg base (L2.CX P w) (lev + 2) fa fd ps (spF T cf' f fn.ps) := by
  unfold fnB at hm
  simp only [Bool.and_eq_true, decide_eq_true_eq] at hm
  obtain ⟨⟨⟨⟨h1, h2⟩, h3⟩, h4⟩, h5⟩ := hm
  have S := fsc_ok h1
  refine F.okX S (fun vs H Q E h => h.1.trans h2.symm) fun cdv A outer s H vs Q E hr h => ?_
  obtain ⟨hl, w0, cs, k0, hc, ha, h⟩ := h
  let B : Base := ⟨H, w0, H, w0, .non⟩
  refine ⟨_, ms_ok (fu := W) fn.body (ctx_of gf S hr) h5 B, ?_⟩
  rw [hcf] at h
  have hlc : cs.length = fn.ps := by rw [← hc.length]; exact hl
  unfold runFn at h
  rw [if_pos hlc] at h
  have hst : start N vs = vs.map some ++ List.replicate (fn.nv - fn.ps) none := by
    unfold L2.start
    rw [h3, hl]
  rw [rs_post]
  refine ⟨cs ++ List.replicate (fn.nv - fn.ps) .undef, w0, ⟨⟨k0, k0, Step.refl k0⟩, Step.refl k0, [], ?_, Fr.nil⟩, ?_⟩
  · rw [hst]
    exact er_args (B := B) rfl rfl (er_undef _) hc ha
  · rw [hi] at h
    cases e1 : evS cf W fn.body (cs ++ List.replicate (fn.nv - fn.ps) .undef) w0.st with
    | next ρ' st' =>
      rw [e1] at h
      exact fun σ' H' w' hw s' => h .non H' w' [] hw s'.st (.imm .non) Fr.nil
    | ret c st' =>
      rw [e1] at h
      exact h
    | exc x ρ' st' =>
      rw [e1] at h
      exact fun σ' H' w' cls d hw s' r => h cls d H' w' hw s'.st r
    | brk ρ' st' => rw [e1] at h; exact h.elim
    | cont ρ' st' => rw [e1] at h; exact h.elim
    | stuck => rw [e1] at h; exact h.elim
theorem fn_runI {c : Nat} {y : Str} {ns : List Str} (gf : GF P w K mg base T g cf lev) (F : Fun K x qual st fa fd) (hm : fnB g fn st ps N = true) (hi : fn.init = true) (hcl : g.cl[c]? = some (y, ns)) (hci : fn.ci = c) (hn : ns.length = fn.nf) {cf' : CF} (hcf : ∀ cs st, cf' f cs st = runFn cf W fn cs st) :
    FnOk P w K mg base (L2.CX P w) (lev + 2) fa fd ps (spI T cf' c f fn.ps) := by
  unfold fnB at hm
  simp only [Bool.and_eq_true, decide_eq_true_eq] at hm
  obtain ⟨⟨⟨⟨h1, h2⟩, h3⟩, h4⟩, h5⟩ := hm
  have S := fsc_ok h1
  refine F.okX S (fun vs H Q E h => h.1.trans h2.symm) fun cdv A outer s H vs Q E hr h => ?_
  obtain ⟨hl, xa, dx, C, ns', us, H0, w0, cs, rfl, nx, ndx, hne, rfl, hT, k0, hc, ha, h⟩ := h
  obtain ⟨C', q1, _⟩ := gf.cls hcl
  rw [q1] at hT
  cases hT
  let B : Base := ⟨H0, w0, H0, w0, .ref xa⟩
  refine ⟨_, ms_ok (fu := W) fn.body (ctx_of gf S hr) h5 B, ?_⟩
  rw [hcf] at h
  have hlc : (Cell.obj c [] :: cs).length = fn.ps := by rw [List.length_cons, ← hc.length, ← hl]; rfl
  unfold runFn at h
  rw [if_pos hlc] at h
  have hst : start N (V.ref xa :: us) = (V.ref xa :: us).map some ++ List.replicate (fn.nv - fn.ps) none := by
    unfold L2.start
    rw [h3, hl]
  have t1 : Step T H0 w0 (upd H0 dx (.own xa)) w0 := Step.new k0 ndx
  have nx1 : upd H0 dx (.own xa) xa = none := by rw [upd_ne hne.symm]; exact nx
  have t2 : Step T H0 w0 (upd (upd H0 dx (.own xa)) xa (.ins C dx [])) w0 := Step.trans k0 t1 (Step.new t1.ok nx1)
  have gx : ∀ a, H0 a = none → w0.G a = none ∧ a ∉ w0.S := fun a z => by
    refine ⟨?_, fun m => ?_⟩
    · cases e : w0.G a with
      | none => rfl
      | some o => rw [k0.ex a o e] at z; cases z
    · obtain ⟨o, e⟩ := k0.sdom m
      rw [e] at z; cases z
  rw [rs_post]
  refine ⟨Cell.obj c [] :: cs ++ List.replicate (fn.nv - fn.ps) .undef, w0, ⟨⟨k0, k0, Step.refl k0⟩, t2, [xa, dx] ++ [], ?_, ?_⟩, ?_⟩
  · rw [hst]
    have e := er_args (B := B) rfl rfl (er_undef (T := T) (B := B) (S := w0.S) (G := w0.G) (H := upd (upd H0 dx (.own xa)) xa (.ins C dx [])) (fn.nv - fn.ps)) hc ha
    exact ER.cons (B := B) ⟨rfl, fun _ => rfl⟩ (.obj q1 upd_same (by rw [upd_ne hne, upd_same]) rfl (Nat.zero_le _) .nil) e
  · refine ⟨?_, fun a hm => ?_⟩
    · rw [List.append_nil]
      exact List.nodup_cons.mpr ⟨fun z => hne (List.mem_singleton.mp z).symm, List.nodup_cons.mpr ⟨(fun z => nomatch z), List.nodup_nil⟩⟩
    · rw [List.append_nil] at hm
      rcases List.mem_cons.mp hm with rfl | hm
      · exact ⟨nx, (gx _ nx).1, (gx _ nx).2⟩
      · rw [List.mem_singleton.mp hm]
        exact ⟨ndx, (gx _ ndx).1, (gx _ ndx).2⟩
  · rw [hi] at h
    cases e1 : evS cf W fn.body (Cell.obj c [] :: cs ++ List.replicate (fn.nv - fn.ps) .undef) w0.st with
    | next ρ' st' =>
      rw [e1] at h
      intro σ' H' w' hw s'
      simp only [if_true] at h
      cases e2 : ρ'[0]? with
      | none => rw [e2] at h; exact h.elim
      | some c0 =>
        rw [e2] at h
        cases c0 with
        | obj c' fs =>
          simp only at h
          by_cases hz : c' = fn.ci ∧ fs.length = fn.nf
          · rw [if_pos hz] at h
            simp only at h
            obtain ⟨fp, f1, f2⟩ := s'.f
            obtain ⟨p1, fo, p2, v, r1, r2, r3, _, _⟩ := f1.mut e2 (fun z => nomatch z) (fun _ z => nomatch z) f2.nd
            have hv : v = .ref xa := by
              rcases f1.get e2 with q | ⟨v2, g, q1, q2, q3, q4⟩ | ⟨v2, cs, q1, q2, q3⟩
              · cases q
              · rw [r2] at q1
                cases q1
                exact q2.2 rfl
              · cases q1
            subst hv
            have hfo : ∀ a ∈ fo, a ∈ fp := fun a hm => by rw [r1]; exact List.mem_append_left _ (List.mem_append_right _ hm)
            have t3 := s'.st.freeze (f := fo) fun a hm => f2.nw a (hfo a hm)
            have eF := frozen_ex (G := w'.G) (H := H') fun a hm => (f2.nw a (hfo a hm)).2.1
            cases r3 with
            | @obj _ C2 dx2 _ ns2 vs2 _ u1 u2 u3 u4 u5 u6 =>
            have hlen : vs2.length = fs.length := by rw [← u6.length, List.length_map]
            have hc2 : T.cls c' = some (C, ns) := by rw [hz.1, hci]; exact q1
            rw [hc2] at u1
            cases u1
            refine h H' { w' with G := frozen w'.G H' [xa, dx2] } hw t3 (.ins hc2 ((frozen_in List.mem_cons_self).trans u2) ?_ (u6.mono eF (SExt.refl _)))
            rw [u4]
            exact List.take_of_length_le (by rw [hlen, hz.2, hn]; exact Nat.le_refl _)
          · rw [if_neg hz] at h
            exact h.elim
        | _ => exact h.elim
    | ret c st' => rw [e1] at h; exact h.elim
    | exc x ρ' st' =>
      rw [e1] at h
      exact fun σ' H' w' cls d hw s' r => h cls d H' w' hw s'.st r
    | brk ρ' st' => rw [e1] at h; exact h.elim
    | cont ρ' st' => rw [e1] at h; exact h.elim
    | stuck => rw [e1] at h; exact h.elim
end
end Q

set_option maxRecDepth 100000
set_option maxHeartbeats 1000000
namespace Q
open PySem L2 PySem.Spec PyProof.Rows
-- one def of the text
structure FI where
  x : Str
  kind : FK
  qual : Str
  st : Stmt
  ps : List Str
  N : List Str
  fn : Fn
def gsOf (I : List FI) (cl ex : List (Str × List Str)) (gv : List (Str × D)) : Gs := ⟨I.map fun i => (i.x, i.fn.ps, i.kind), cl, ex, gv⟩
def adrOf (K : PySem.W.Frag) (x : Str) : Option Addr := match PySem.W.nsIn K mainGlobals x with
  | some (some (.ref a)) => some a
  | _ => none
def tabs (K : PySem.W.Frag) (g : Gs) : Tabs := ⟨K, fun c => match g.cl[c]? with | some (y, ns) => (adrOf K y).map fun a => (a, ns) | none => none, fun c => match g.ex[c]? with | some (y, ns) => (adrOf K y).map fun a => (a, ns) | none => none⟩
theorem adr_of {K : PySem.W.Frag} {x : Str} {a : Addr} (h : PySem.W.nsIn K mainGlobals x = some (some (.ref a))) : adrOf K x = some a := by
  unfold adrOf
  rw [h]
theorem adr_inv {K : PySem.W.Frag} {x : Str} {a : Addr} (h : adrOf K x = some a) : PySem.W.nsIn K mainGlobals x = some (some (.ref a)) := by
  unfold adrOf at h
  split at h
  · rename_i q
    cases h
    exact q
  · cases h
theorem tabs_cls {K : PySem.W.Frag} {g : Gs} {c : Nat} {C : Addr} {ns : List Str} (h : (tabs K g).cls c = some (C, ns)) : ∃ x, g.cl[c]? = some (x, ns) ∧ PySem.W.nsIn K mainGlobals x = some (some (.ref C)) := by
  simp only [tabs] at h
  split at h
  · rename_i y ns' q
    rw [Option.map_eq_some_iff] at h
    obtain ⟨a, h1, h2⟩ := h
    cases h2
    exact ⟨y, q, adr_inv h1⟩
  · cases h
theorem tabs_cls_mk {K : PySem.W.Frag} {g : Gs} {c : Nat} {C : Addr} {x : Str} {ns : List Str} (h : g.cl[c]? = some (x, ns)) (a : PySem.W.nsIn K mainGlobals x = some (some (.ref C))) : (tabs K g).cls c = some (C, ns) := by
  simp only [tabs, h, adr_of a]
  rfl
theorem tabs_exc_mk {K : PySem.W.Frag} {g : Gs} {c : Nat} {C : Addr} {x : Str} {ns : List Str} (h : g.ex[c]? = some (x, ns)) (a : PySem.W.nsIn K mainGlobals x = some (some (.ref C))) : (tabs K g).exc c = some (C, ns) := by
  simp only [tabs, h, adr_of a]
  rfl
theorem tabs_exc {K : PySem.W.Frag} {g : Gs} {c : Nat} {C : Addr} {ns : List Str} (h : (tabs K g).exc c = some (C, ns)) : ∃ x, g.ex[c]? = some (x, ns) ∧ PySem.W.nsIn K mainGlobals x = some (some (.ref C)) := by
  simp only [tabs] at h
  split at h
  · rename_i y ns' q
    rw [Option.map_eq_some_iff] at h
    obtain ⟨a, h1, h2⟩ := h
    cases h2
    exact ⟨y, q, adr_inv h1⟩
  · cases h
/-! ### what the written part says, looked up by one computation -/
def clsB (K : PySem.W.Frag) (y : Str) (ns : List Str) : Bool := match adrOf K y with
  | some C => PySem.W.plainGet K C Str.empty && PySem.W.hasDictIn K C && PySem.W.plainOver K C && decide (PySem.W.findIn K (.ref C) "__setattr__" = some (some (.builtin "object.__setattr__"))) && decide ns.Nodup &&
    ns.all (fun f => decide (PySem.W.findIn K (.ref C) f = some none)) && decide (PySem.W.findIn K (.ref C) "__class__" = some (some (.builtin "object.__class__"))) && decide (PySem.W.mroIn K C (.type "object") = some true)
  | none => false
def excB (K : PySem.W.Frag) (y : Str) (ns : List Str) : Bool := match adrOf K y with
  | some A => PySem.W.keepIn K (.ref A) && decide (PySem.W.subIn K (.ref A) (.type "BaseException") = some true) && decide (PySem.W.typeIn K (.ref A) = some (.type "type")) &&
    (!ns.isEmpty || PySem.W.excIn K A [.type "ValueError", .type "Exception", .type "BaseException", .type "object"] "ValueError.__new__")
  | none => false
def tysData (g : Gs) : List Ty := [.int, .str, .bool, .none, .tuple, .list] ++ (List.range g.cl.length).map Ty.c
def tysAll (g : Gs) : List Ty := tysData g ++ [.valueError] ++ (List.range g.ex.length).map Ty.x
def kitsB (K : PySem.W.Frag) (g : Gs) : Bool := (tysData g).all fun t => (tysAll g).all fun u => match t.val (tabs K g), u.val (tabs K g) with
  | some vt, some vu => decide (PySem.W.kitOne K vt vu = some (tyLe t u))
  | _, _ => true
def exmB (K : PySem.W.Frag) (g : Gs) : Bool := (List.range g.ex.length).all fun i => (List.range g.ex.length).all fun j => match (tabs K g).exc i, (tabs K g).exc j with
  | some (A, _), some (B, _) => decide (PySem.W.exmOne K (.ref A) (.ref B) = some (exSub i j))
  | _, _ => true
def bnB (K : PySem.W.Frag) : Bool := bnames.all fun x => decide (PySem.W.nsIn K mainGlobals x = some none)
def gvB (K : PySem.W.Frag) (x : Str) (d : D) : Bool := match PySem.W.nsIn K mainGlobals x, d with
  | some (some (.int i _)), .int j => decide (i = j)
  | some (some (.str s _)), .str t => decide (s = t)
  | some (some .none), .non => true
  | some (some (.bool a)), .bl b => a == b
  | _, _ => false
def baseB (K : PySem.W.Frag) (g : Gs) : Bool :=
  g.cl.all (fun p => clsB K p.1 p.2) && g.ex.all (fun p => excB K p.1 p.2) && (kitsB K g && exmB K g) && bnB K && g.gv.all (fun p => gvB K p.1 p.2) &&
  decide (PySem.W.specialIn K (.builtin "object.__class__") "__get__" = some (some (.builtin "getset_descriptor.__get__"))) && decide (PySem.W.takesIn K (.builtin "object.__class__") = some true)
section
variable {K : PySem.W.Frag} {mg : Str → Option Value} {g : Gs} {h : Heap}
theorem cls_all (hb : g.cl.all (fun p => clsB K p.1 p.2) = true) {c : Nat} {C : Addr} {ns : List Str} (hc : (tabs K g).cls c = some (C, ns)) : Cls K C ∧ ns.Nodup ∧ (∀ f ∈ ns, NoAttr K C f) ∧ PySem.W.findIn K (.ref C) "__class__" = some (some (.builtin "object.__class__")) ∧ PySem.W.mroIn K C (.type "object") = some true := by
  obtain ⟨x, h1, h2⟩ := tabs_cls hc
  have q := List.all_eq_true.mp hb (x, ns) (List.mem_of_getElem? h1)
  simp only [clsB, adr_of h2, Bool.and_eq_true, decide_eq_true_eq, List.all_eq_true] at q
  obtain ⟨⟨⟨⟨⟨⟨⟨q1, q2⟩, q3⟩, q4⟩, q5⟩, q6⟩, q7⟩, q8⟩ := q
  exact ⟨⟨q1, q2, q3, q4⟩, q5, q6, q7, q8⟩
theorem val_data {t : Ty} {v : Value} (hd : t.dat = true) (hv : t.val (tabs K g) = some v) : t ∈ tysData g := by
  unfold tysData
  cases t with
  | c k =>
    refine List.mem_append_right _ (List.mem_map.mpr ⟨k, List.mem_range.mpr ?_, rfl⟩)
    simp only [Ty.val, Option.map_eq_some_iff] at hv
    obtain ⟨⟨C, ns⟩, h1, _⟩ := hv
    obtain ⟨x, h2, _⟩ := tabs_cls h1
    exact (List.getElem?_eq_some_iff.mp h2).1
  | valueError => cases hd
  | x k => cases hd
  | _ => simp
theorem val_all {t : Ty} {v : Value} (hv : t.val (tabs K g) = some v) : t ∈ tysAll g := by
  unfold tysAll
  cases hd : t.dat with
  | true => exact List.mem_append_left _ (List.mem_append_left _ (val_data hd hv))
  | false =>
    cases t <;> first | (cases hd; done) | skip
    · exact List.mem_append_left _ (List.mem_append_right _ List.mem_cons_self)
    · rename_i k
      refine List.mem_append_right _ (List.mem_map.mpr ⟨k, List.mem_range.mpr ?_, rfl⟩)
      simp only [Ty.val, Option.map_eq_some_iff] at hv
      obtain ⟨⟨C, ns⟩, h1, _⟩ := hv
      obtain ⟨x, h2, _⟩ := tabs_exc h1
      exact (List.getElem?_eq_some_iff.mp h2).1
theorem tf_of (hb : baseB K g = true) : TF (tabs K g) := by
  unfold baseB at hb
  simp only [Bool.and_eq_true, decide_eq_true_eq] at hb
  obtain ⟨⟨⟨⟨⟨⟨h1, h2⟩, h3⟩, h4⟩, h5⟩, h6⟩, h7⟩ := hb
  refine ⟨fun {c C ns} hc => (cls_all h1 hc).1, fun {c C ns} hc => (cls_all h1 hc).2.1, fun {c C ns} hc => (cls_all h1 hc).2.2.1, fun {c C ns} hc => (cls_all h1 hc).2.2.2.1, h6, h7, fun {c C ns} hc => (cls_all h1 hc).2.2.2.2, fun {i j A B ns ms} e1 e2 => ?_, fun {t u vt vu} e1 e2 hd => ?_⟩
  · have q := h3.2
    unfold exmB at q
    obtain ⟨x, x1, _⟩ := tabs_exc e1
    obtain ⟨y, y1, _⟩ := tabs_exc e2
    have q := List.all_eq_true.mp (List.all_eq_true.mp q i (List.mem_range.mpr (List.getElem?_eq_some_iff.mp x1).1)) j (List.mem_range.mpr (List.getElem?_eq_some_iff.mp y1).1)
    rw [e1, e2] at q
    exact of_decide_eq_true q
  replace h3 := h3.1
  unfold kitsB at h3
  rw [List.all_eq_true] at h3
  have q := List.all_eq_true.mp (h3 t (val_data hd e1)) u (val_all e2)
  rw [e1, e2] at q
  exact of_decide_eq_true q
-- a def, as the written part has it
def DynF (K : PySem.W.Frag) (mg : Str → Option Value) (g : Gs) (i : FI) : Prop := ∃ y fa fd, Fun K y i.qual i.st fa fd ∧ (∀ us : List Value, us.length = i.ps.length → bindArgs fd ⟨us, []⟩ = pure (i.ps.zip us)) ∧ (match i.kind with
  | .glob => mg i.x = some (.ref fa)
  | .meth c => ∃ C ns, (tabs K g).cls c = some (C, ns) ∧ i.x ∉ ns ∧ Meth K C i.x fa
  | .init c => ∃ C ns y, g.cl[c]? = some (y, ns) ∧ (tabs K g).cls c = some (C, ns) ∧ mg y = some (.ref C) ∧ Mk K C fa)
def stB (g : Gs) (i : FI) : Bool := fnB g i.fn i.st i.ps i.N && (match i.kind with
  | .init c => i.fn.init && decide (i.fn.ci = c) && (match g.cl[c]? with | some (_, ns) => decide (ns.length = i.fn.nf) | none => false)
  | _ => !i.fn.init)
theorem fn_at {I : List FI} {cl ex : List (Str × List Str)} {gv : List (Str × D)} {f n : Nat} {x : Str} {q : FK} (h : (gsOf I cl ex gv).fn[f]? = some (x, n, q)) : ∃ i ∈ I, I[f]? = some i ∧ (I.map (·.fn))[f]? = some i.fn ∧ i.x = x ∧ i.fn.ps = n ∧ i.kind = q := by
  simp only [gsOf, List.getElem?_map, Option.map_eq_some_iff] at h
  obtain ⟨i, h1, h2⟩ := h
  cases h2
  exact ⟨i, List.mem_of_getElem? h1, h1, by rw [List.getElem?_map, h1]; rfl, rfl, rfl, rfl⟩
/-! ### exception classes with their own __init__ -/
def exBodyB (sN q n : Str) : List Stmt → Bool
  | [.Expr (.Call (.Attribute (.Call (.Name s0 _) [] [] _) i0 p2) [e] [] p4) _, .Assign [.Attribute (.Name a0 _) n0 _] (.Name q0 _) _] =>
    decide (s0 = "super") && decide (i0 = "__init__") && decide (a0 = sN) && decide (n0 = n) && decide (q0 = q) && (p2.endLine == p4.line) && (match e with | .Name q1 _ => decide (q1 = q) | .Constant (.str _) _ _ => true | _ => false)
  | _ => false
theorem exBody_ok {sN q n : Str} {b : List Stmt} (h : exBodyB sN q n b = true) : ExBody sN q n b := by
  unfold exBodyB at h
  split at h
  · rename_i s0 p0 p1 i0 p2 e p4 p5 a0 p6 n0 p7 q0 p8 p9
    simp only [Bool.and_eq_true, decide_eq_true_eq] at h
    obtain ⟨⟨⟨⟨⟨⟨rfl, rfl⟩, rfl⟩, rfl⟩, rfl⟩, hp⟩, he⟩ := h
    split at he
    · rename_i q1 p3
      obtain rfl := of_decide_eq_true he
      exact .var (p10 := p0) hp
    · exact .str (p10 := p0) hp
    · cases he
  · cases h
def exStB (sN q n : Str) (st : Stmt) : Bool :=
  exBodyB sN q n (defBody st) && decide ((defScope st).kind = .function) && !(defScope st).isCoroutine && !(defScope st).isGenerator && (defScope st).names.all (fun x => decide (x.2 ≠ .cell) && (decide (x.2 ≠ .free) || decide (x.1 = "__class__"))) &&
    decide ((defScope st).names.lookup sN = some .local) && decide ((defScope st).names.lookup q = some .local) && decide ((defScope st).names.lookup ("super" : Str) = some .globalImplicit) && decide ((defScope st).names.lookup ("__class__" : Str) = some .free) &&
    decide (sN ≠ q) && (match ((defArgs st).posonlyargs ++ (defArgs st).args).head? with | some ar => decide (ar.arg = sN) | none => false) && nameOk sN && nameOk q
theorem exSt_ok {sN q n : Str} {st : Stmt} (h : exStB sN q n st = true) : ExSt sN q n st := by
  unfold exStB at h
  simp only [Bool.and_eq_true, decide_eq_true_eq, Bool.not_eq_true', List.all_eq_true, Bool.or_eq_true] at h
  obtain ⟨⟨⟨⟨⟨⟨⟨⟨⟨⟨⟨⟨h1, h2⟩, h3⟩, h4⟩, h5⟩, h6⟩, h7⟩, h8⟩, h9⟩, h10⟩, h11⟩, h12⟩, h13⟩ := h
  refine ⟨exBody_ok h1, h2, h3, h4, fun x hx => (h5 x hx).1, fun x hx => ?_, h6, h7, h8, h9, h10, ?_, ⟨(nameOk_ok h12).1, (nameOk_ok h12).2, (nameOk_ok h13).1, (nameOk_ok h13).2⟩⟩
  · have hm := PySem.mem_of_lookup hx
    rcases (h5 _ hm).2 with z | z
    · exact absurd rfl z
    · exact z
  · split at h11
    · rename_i ar e
      exact ⟨ar, e, of_decide_eq_true h11⟩
    · cases h11
def oexB (K : PySem.W.Frag) (C : Addr) : Bool := (match K.lookup C with
  | some ⟨.type "type", _, .cls cd, sl⟩ => (match cd.mro, sl.toList with
    | .ref C' :: bm, [_, _, _, _, some (.builtin n), _] => C' == C && n == "ValueError.__new__" && !cd.hasDel && cd.hasDict && PySem.HandSPX.refsVE bm
    | _, _ => false)
  | _ => false) && decide (PySem.W.findIn K (.ref C) "__setattr__" = some (some (.builtin "object.__setattr__"))) && decide (PySem.W.subIn K (.ref C) (.type "BaseException") = some true) && decide (PySem.W.typeIn K (.ref C) = some (.type "type")) && PySem.W.keepIn K (.ref C)
theorem oex_ok {K : PySem.W.Frag} {C : Addr} (h : oexB K C = true) : OexC K C := by
  unfold oexB at h
  simp only [Bool.and_eq_true, decide_eq_true_eq] at h
  obtain ⟨⟨⟨⟨q, h1⟩, h2⟩, h3⟩, h4⟩ := h
  refine ⟨?_, h1, h2, h3, h4⟩
  split at q
  · rename_i dd cd sl ho
    split at q
    · rename_i C' bm k0 k1 k2 k3 n k5 hm hs
      simp only [Bool.and_eq_true, beq_iff_eq, Bool.not_eq_true'] at q
      obtain ⟨⟨⟨⟨rfl, rfl⟩, hdel⟩, hdi⟩, ht⟩ := q
      obtain ⟨nm, bs, mro, ns, qn, hd, sn, sub, ab, col, del⟩ := cd
      dsimp only at hm hdel hdi
      subst hm hdel hdi
      have hsl : sl = #[k0, k1, k2, k3, some (.builtin "ValueError.__new__"), k5] := by
        obtain ⟨l⟩ := sl
        simp only at hs
        rw [hs]
      subst hsl
      exact ⟨nm, qn, ns, bs, bm, sn, sub, ab, col, dd, k0, k1, k2, k3, k5, ho, ht⟩
    · cases q
  · cases q
def exiB (K : PySem.W.Frag) (A fI cda cc : Addr) (n file : Str) : Bool :=
  oexB K A && xfB K A && decide (PySem.W.findIn K (.ref A) n = some none) && decide (PySem.W.typeIn K (.ref fI) = some (.type "function")) && decide (PySem.W.mroIn K A (.ref A) = some true) && decide (PySem.W.subIn K (.ref A) (.type "ValueError") = some true) &&
    decide (PySem.W.nsIn K mainGlobals "super" = some none) && decide (PySem.W.nsIn K cStatics "thirdparty.any" = some none) && decide (PySem.W.ks_superIn K A A "__init__" = some (some (.builtin "ValueError.__init__"))) &&
    (match K.lookup cda with | some ⟨_, _, .fields vs, _⟩ => (match (vs[2]? : Option Value) with | some (.str f _) => file == f | _ => false) | _ => false) && (match K.lookup cc with | some ⟨_, _, .cell (some (.ref C)), _⟩ => decide (C = A) | _ => false)
def ExF (P : Program) (K : PySem.W.Frag) (x n : Str) : Prop := ∃ (A fI cc : Addr) (fd : FuncData) (sN q qual : Str) (st : Stmt), PySem.W.nsIn K mainGlobals x = some (some (.ref A)) ∧ FunC K "__init__" qual st fI fd cc ∧ (∀ us : List Value, us.length = 2 → bindArgs fd ⟨us, []⟩ = pure ([sN, q].zip us)) ∧
  SupF P K A fd cc ∧ ExSt sN q n st ∧ OexC K A ∧ PySem.W.findIn K (.ref A) "__init__" = some (some (.ref fI)) ∧ PySem.W.typeIn K (.ref fI) = some (.type "function") ∧ XfC K A ∧ PySem.W.findIn K (.ref A) n = some none
def exAll (P : Program) (K : PySem.W.Frag) : List (Str × List Str) → Prop
  | [] => True
  | (x, [n]) :: r => ExF P K x n ∧ exAll P K r
  | (_, _) :: r => exAll P K r
theorem exAll_at {P : Program} {K : PySem.W.Frag} {x n : Str} : ∀ {ex : List (Str × List Str)} {c : Nat}, exAll P K ex → ex[c]? = some (x, [n]) → ExF P K x n
  | [], c, _, e => by simp at e
  | (y, ns) :: r, 0, h, e => by
    have e' : (y, ns) = (x, [n]) := Option.some.inj e
    cases e'
    exact h.1
  | (y, ns) :: r, c + 1, h, e => by
    have hr : exAll P K r := by
      match ns, h with
      | [], h => exact h
      | [_], h => exact h.2
      | _ :: _ :: _, h => exact h
    exact exAll_at hr (by simpa using e)
theorem dyn_exc {P : Program} {K : PySem.W.Frag} {x n sN q qual : Str} {st : Stmt} {A fI cc cda : Addr} {oc kV doc pm ct : Value} {od an : Option Addr} {osl : Array (Option Value)} (a : PySem.W.nsIn K mainGlobals x = some (some (.ref A))) (i : PySem.W.findIn K (.ref A) "__init__" = some (some (.ref fI)))
    (l : K.lookup fI = some ⟨oc, od, .func (PySem.W.ksFn "__init__" qual (defArgs st) (defBody st) (defScope st) .none kV doc pm an (.ref cda) ct cc), osl⟩) (c : PySem.W.codeIn K (.ref cda) qual = true) (k : PySem.W.keepIn K (.ref fI) = true)
    (b : ∀ (kV doc pm : Value) (an : Option Addr) (cdv ct : Value) (us : List Value), us.length = 2 → bindArgs (PySem.W.ksFn "__init__" qual (defArgs st) (defBody st) (defScope st) .none kV doc pm an cdv ct cc) ⟨us, []⟩ = pure ([sN, q].zip us))
    (S : exStB sN q n st = true) (m : exiB K A fI cda cc n P.main.file = true) (top : (P.main.scope.names.lookup ("super" : Str)).isSome = false) : ExF P K x n := by
  unfold exiB at m
  simp only [Bool.and_eq_true, decide_eq_true_eq] at m
  obtain ⟨⟨⟨⟨⟨⟨⟨⟨⟨⟨m1, m2⟩, m3⟩, m4⟩, m5⟩, m6⟩, m7⟩, m8⟩, m9⟩, m10⟩, m11⟩ := m
  refine ⟨A, fI, cc, _, sN, q, qual, st, a, ⟨⟨oc, od, kV, doc, pm, an, _, ct, osl, rfl, l, c⟩, k⟩, b kV doc pm an _ ct, ⟨?_, ?_, m5, m6, m7, top, m8, m9⟩, exSt_ok S, oex_ok m1, i, m4, xfB_ok m2, m3⟩
  · split at m10
    · rename_i o1 o2 vs o3 e1
      split at m10
      · rename_i f tf e2
        exact ⟨cda, o1, o2, vs, o3, f, tf, rfl, e1, e2, m10⟩
      · cases m10
    · cases m10
  · split at m11
    · rename_i o1 o2 C o3 e1
      obtain rfl := of_decide_eq_true m11
      exact ⟨o1, o2, o3, e1⟩
    · cases m11
theorem gf_all {P : Program} {w : World} {base : Heap} {I : List FI} {cl ex : List (Str × List Str)} {gv : List (Str × D)} {W : Nat} (hg : g = gsOf I cl ex gv) (X : K.In h) (G : h.Ns mainGlobals mg) (hb : baseB K g = true) (hs : ∀ i ∈ I, stB g i = true) (hd : ∀ i ∈ I, DynF K mg g i) (hx : exAll P K ex) :
    ∀ k, GF P w K mg base (tabs K g) g (callN (I.map (·.fn)) W k) (2 * k) := by
  have hF := tf_of hb
  unfold baseB at hb
  simp only [Bool.and_eq_true, decide_eq_true_eq] at hb
  obtain ⟨⟨⟨⟨⟨⟨h1, h2⟩, h3⟩, h4⟩, h5⟩, h6⟩, h7⟩ := hb
  have bn : ∀ x ∈ bnames, mg x = none := fun x hx => PySem.W.mg_none_of X G (of_decide_eq_true (List.all_eq_true.mp h4 x hx))
  have cls : ∀ {c x ns}, g.cl[c]? = some (x, ns) → ∃ C, (tabs K g).cls c = some (C, ns) ∧ mg x = some (.ref C) := fun {c x ns} e => by
    have q := List.all_eq_true.mp h1 (x, ns) (List.mem_of_getElem? e)
    unfold clsB at q
    split at q
    · rename_i C z
      exact ⟨C, tabs_cls_mk e (adr_inv z), PySem.W.mg_of X G (adr_inv z)⟩
    · cases q
  have exc : ∀ {c x ns}, g.ex[c]? = some (x, ns) → ∃ A, (tabs K g).exc c = some (A, ns) ∧ mg x = some (.ref A) ∧ PySem.W.keepIn K (.ref A) = true ∧ PySem.W.subIn K (.ref A) (.type "BaseException") = some true ∧ PySem.W.typeIn K (.ref A) = some (.type "type") ∧
    (ns = [] → PySem.W.excIn K A [.type "ValueError", .type "Exception", .type "BaseException", .type "object"] "ValueError.__new__" = true) := fun {c x ns} e => by
    have q := List.all_eq_true.mp h2 (x, ns) (List.mem_of_getElem? e)
    unfold excB at q
    split at q
    · rename_i C z
      simp only [Bool.and_eq_true, decide_eq_true_eq, Bool.or_eq_true] at q
      refine ⟨C, tabs_exc_mk e (adr_inv z), PySem.W.mg_of X G (adr_inv z), q.1.1.1, q.1.1.2, q.1.2, fun hn => ?_⟩
      subst hn
      rcases q.2 with r | r
      · cases r
      · exact r
    · cases q
  have gvs : ∀ {x d}, (x, d) ∈ g.gv → ∃ v u, mg x = some u ∧ RelV v u ∧ ∀ S H, DV (tabs K g) S H v d := fun {x d} e => by
    have q := List.all_eq_true.mp h5 (x, d) e
    unfold gvB at q
    split at q
    · rename_i i tk j z z2
      cases z2
      obtain rfl := of_decide_eq_true q
      exact ⟨.int i, _, PySem.W.mg_of X G z, ⟨_, rfl⟩, fun _ _ => .int _⟩
    · rename_i i tk j z z2
      cases z2
      obtain rfl := of_decide_eq_true q
      exact ⟨.str i, _, PySem.W.mg_of X G z, ⟨_, rfl⟩, fun _ _ => .str _⟩
    · rename_i z z2
      cases z2
      exact ⟨.non, _, PySem.W.mg_of X G z, rfl, fun _ _ => .non⟩
    · rename_i a b z z2
      cases z2
      obtain rfl := eq_of_beq q
      exact ⟨.bl a, _, PySem.W.mg_of X G z, rfl, fun _ _ => .bl _⟩
    · cases q
  have exi : ∀ (k : Nat) {c x n}, g.ex[c]? = some (x, [n]) → ∃ A fI fd ps, (tabs K g).exc c = some (A, [n]) ∧ mg x = some (.ref A) ∧ OexC K A ∧ PySem.W.findIn K (.ref A) "__init__" = some (some (.ref fI)) ∧ PySem.W.typeIn K (.ref fI) = some (.type "function") ∧ Binds K fd ps [] ∧
      FnOk P w K mg base (L2.CX P w) k fI fd ps (spX A n) ∧ XfC K A ∧ PySem.W.findIn K (.ref A) n = some none := fun k {c x n} e => by
    have e' : ex[c]? = some (x, [n]) := by rw [hg] at e; exact e
    obtain ⟨A, fI, cc, fd, sN, q, qual, st, x1, x2, x3, x4, x5, x6, x7, x8, x9, x10⟩ := exAll_at hx e'
    exact ⟨A, fI, fd, [sN, q], tabs_exc_mk e x1, PySem.W.mg_of X G x1, x6, x7, x8, .all x3, exinit_ok x2 x4 x5 x6 x10, x9, x10⟩
  intro k
  induction k with
  | zero =>
    refine ⟨rfl, hF, bn, fun _ _ _ _ => rfl, fun {f x n} e => ?_, fun {f x n c} e => ?_, fun {f x n c} e => ?_, cls, exc, exi _, gvs⟩
    all_goals
      subst hg
      obtain ⟨i, hi, e1, e2, rfl, rfl, e3⟩ := fn_at e
      obtain ⟨y, fa, fd, q1, q2', q3⟩ := hd i hi
      have q2 : Binds K fd i.ps [] := .all q2'
      have hz := hs i hi
      unfold stB fnB at hz
      simp only [Bool.and_eq_true, decide_eq_true_eq] at hz
      have hl := hz.1.1.1.1.2
      rw [e3] at q3
    · exact ⟨fa, fd, i.ps, q3, q1.kp, q2, ⟨fun vs H Q E z => z.1.trans hl.symm, fun A outer s H args us vs Q E _ _ _ _ z => by
        obtain ⟨_, _, _, _, _, _, z⟩ := z
        exact z.elim⟩⟩
    · obtain ⟨C, ns, r1, r2, r3⟩ := q3
      exact ⟨C, ns, fa, fd, i.ps, r1, r2, r3, q2, ⟨fun vs H Q E z => z.1.trans hl.symm, fun A outer s H args us vs Q E _ _ _ _ z => by
        obtain ⟨_, _, _, _, _, _, z⟩ := z
        exact z.elim⟩⟩
    · obtain ⟨C, ns, y2, r0, r1, r2, r3⟩ := q3
      exact ⟨C, ns, fa, fd, i.ps, y2, r0, r1, r2, r3, q2, ⟨fun vs H Q E z => z.1.trans hl.symm, fun A outer s H args us vs Q E _ _ _ _ z => by
        obtain ⟨_, _, _, _, _, _, _, _, _, _, _, _, _, _, _, _, _, _, z⟩ := z
        exact z.elim⟩⟩
  | succ k ih =>
    have lenK : ∀ {f x n q}, g.fn[f]? = some (x, n, q) → ∀ cs st, cs.length ≠ n → callN (I.map (·.fn)) W (k + 1) f cs st = .stuck := fun {f x n q} e cs st hn => by
      subst hg
      obtain ⟨i, hi, e1, e2, _, rfl, _⟩ := fn_at e
      simp only [callN, e2]
      unfold runFn
      rw [if_neg hn]
    refine ⟨rfl, hF, bn, lenK, fun {f x n} e => ?_, fun {f x n c} e => ?_, fun {f x n c} e => ?_, cls, exc, exi _, gvs⟩
    all_goals
      subst hg
      obtain ⟨i, hi, e1, e2, rfl, rfl, e3⟩ := fn_at e
      obtain ⟨y, fa, fd, q1, q2', q3⟩ := hd i hi
      have q2 : Binds K fd i.ps [] := .all q2'
      have hz := hs i hi
      unfold stB at hz
      rw [Bool.and_eq_true, e3] at hz
      rw [e3] at q3
      have hcf : ∀ cs st, callN (I.map (·.fn)) W (k + 1) f cs st = runFn (callN (I.map (·.fn)) W k) W i.fn cs st := fun cs st => by simp only [callN, e2]
    · exact ⟨fa, fd, i.ps, q3, q1.kp, q2, fn_run ih q1 hz.1 (by simpa using hz.2) hcf⟩
    · obtain ⟨C, ns, r1, r2, r3⟩ := q3
      exact ⟨C, ns, fa, fd, i.ps, r1, r2, r3, q2, fn_run ih q1 hz.1 (by simpa using hz.2) hcf⟩
    · obtain ⟨C, ns, y2, r0, r1, r2, r3⟩ := q3
      have hz2 : (i.fn.init && decide (i.fn.ci = c) && (match (gsOf I cl ex gv).cl[c]? with | some (_, ns) => decide (ns.length = i.fn.nf) | none => false)) = true := hz.2
      rw [r0] at hz2
      simp only [Bool.and_eq_true, decide_eq_true_eq] at hz2
      exact ⟨C, ns, fa, fd, i.ps, y2, r0, r1, r2, r3, q2, fn_runI ih q1 hz.1 hz2.1.1 r0 hz2.1.2 hz2.2 hcf⟩
end
theorem fn_all {P : Program} {w : World} {K : PySem.W.Frag} {mg : Str → Option Value} {g : Gs} {h base : Heap} {I : List FI} {cl ex : List (Str × List Str)} {gv : List (Str × D)} {W k f : Nat} {i : FI} {y : Str} {fa : Addr} {fd : FuncData} (hg : g = gsOf I cl ex gv) (X : K.In h) (G : h.Ns mainGlobals mg) (hb : baseB K g = true) (hs : ∀ i ∈ I, stB g i = true) (hd : ∀ i ∈ I, DynF K mg g i) (hx : exAll P K ex)
    (hi : I[f]? = some i) (hk : i.kind = .glob) (F : Fun K y i.qual i.st fa fd) : FnOk P w K mg base (L2.CX P w) (2 * k) fa fd i.ps (spF (tabs K g) (callN (I.map (·.fn)) W k) f i.fn.ps) := by
  have hz := hs i (List.mem_of_getElem? hi)
  unfold stB at hz
  rw [Bool.and_eq_true, hk] at hz
  cases k with
  | zero =>
    have hm := hz.1
    unfold fnB at hm
    simp only [Bool.and_eq_true, decide_eq_true_eq] at hm
    exact ⟨fun vs H Q E z => z.1.trans hm.1.1.1.2.symm, fun A outer s H args us vs Q E _ _ _ _ z => by
        obtain ⟨_, _, _, _, _, _, z⟩ := z
        exact z.elim⟩
  | succ k => exact fn_run (W := W) (gf_all (W := W) hg X G hb hs hd hx k) F hz.1 (by simpa using hz.2) fun cs st => by simp only [callN, List.getElem?_map, hi, Option.map_some]
/-! ### how the facts of a def are told -/
section
variable {K : PySem.W.Frag} {mg : Str → Option Value} {g : Gs} {h : Heap} {i : FI} {fa : Addr} {oc kV doc pm cdv ct : Value} {od an : Option Addr} {osl : Array (Option Value)} {y : Str}
theorem dyn_glob (X : K.In h) (G : h.Ns mainGlobals mg) (hk : i.kind = .glob) (a : PySem.W.nsIn K mainGlobals i.x = some (some (.ref fa))) (l : K.lookup fa = some ⟨oc, od, .func (PySem.W.fnOf y i.qual (defArgs i.st) (defBody i.st) (defScope i.st) .none kV doc pm an cdv ct), osl⟩)
    (c : PySem.W.codeIn K cdv i.qual = true) (k : PySem.W.keepIn K (.ref fa) = true) (b : ∀ (kV doc pm : Value) (an : Option Addr) (cdv ct : Value) (us : List Value), us.length = i.ps.length → bindArgs (PySem.W.fnOf y i.qual (defArgs i.st) (defBody i.st) (defScope i.st) .none kV doc pm an cdv ct) ⟨us, []⟩ = pure (i.ps.zip us)) : DynF K mg g i := by
  have F := fun_mk l c k
  exact ⟨y, fa, _, F, b kV doc pm an cdv ct, by rw [hk]; exact PySem.W.mg_of X G a⟩
theorem dyn_meth {ci : Nat} {C : Addr} {yc : Str} {ns : List Str} (hk : i.kind = .meth ci) (hc : g.cl[ci]? = some (yc, ns)) (aC : PySem.W.nsIn K mainGlobals yc = some (some (.ref C))) (hx : i.x ∉ ns) (a : PySem.W.findIn K (.ref C) i.x = some (some (.ref fa))) (f : PySem.W.isFn K (.ref fa) = true) (l : K.lookup fa = some ⟨oc, od, .func (PySem.W.fnOf y i.qual (defArgs i.st) (defBody i.st) (defScope i.st) .none kV doc pm an cdv ct), osl⟩)
    (c : PySem.W.codeIn K cdv i.qual = true) (k : PySem.W.keepIn K (.ref fa) = true) (b : ∀ (kV doc pm : Value) (an : Option Addr) (cdv ct : Value) (us : List Value), us.length = i.ps.length → bindArgs (PySem.W.fnOf y i.qual (defArgs i.st) (defBody i.st) (defScope i.st) .none kV doc pm an cdv ct) ⟨us, []⟩ = pure (i.ps.zip us)) : DynF K mg g i := by
  have F := fun_mk l c k
  exact ⟨y, fa, _, F, b kV doc pm an cdv ct, by rw [hk]; exact ⟨C, ns, tabs_cls_mk hc aC, hx, a, f, k⟩⟩
theorem dyn_init {ci : Nat} {C : Addr} {yc : Str} {ns : List Str} (X : K.In h) (G : h.Ns mainGlobals mg) (hk : i.kind = .init ci) (hc : g.cl[ci]? = some (yc, ns)) (aC : PySem.W.nsIn K mainGlobals yc = some (some (.ref C))) (m : PySem.W.makesIn K C = true) (kC : PySem.W.keepIn K (.ref C) = true) (a : PySem.W.findIn K (.ref C) "__init__" = some (some (.ref fa))) (f : PySem.W.isFn K (.ref fa) = true) (l : K.lookup fa = some ⟨oc, od, .func (PySem.W.fnOf y i.qual (defArgs i.st) (defBody i.st) (defScope i.st) .none kV doc pm an cdv ct), osl⟩)
    (c : PySem.W.codeIn K cdv i.qual = true) (k : PySem.W.keepIn K (.ref fa) = true) (b : ∀ (kV doc pm : Value) (an : Option Addr) (cdv ct : Value) (us : List Value), us.length = i.ps.length → bindArgs (PySem.W.fnOf y i.qual (defArgs i.st) (defBody i.st) (defScope i.st) .none kV doc pm an cdv ct) ⟨us, []⟩ = pure (i.ps.zip us)) : DynF K mg g i := by
  have F := fun_mk l c k
  exact ⟨y, fa, _, F, b kV doc pm an cdv ct, by rw [hk]; exact ⟨C, ns, yc, hc, tabs_cls_mk hc aC, PySem.W.mg_of X G aC, m, a, f, kC⟩⟩
end
/-! ### the law -/
theorem dvs_ints {T : Tabs} {S : List Addr} {G : Hp} : ∀ ns : List Int, DVs T S G (ns.map V.int) (ns.map D.int)
  | [] => .nil
  | n :: ns => .cons (.int n) (dvs_ints ns)
theorem law_walk {l : PySem.W.OpenLaw} {q : Program} {loose : List Str} {XP : (Str → Option Value) → Heap → Prop} {YP : World → Heap → Prop} {d : DefRec} {K : Params → PySem.W.Frag} {g : Gs} {I : List FI} {cl ex : List (Str × List Str)} {gv : List (Str × D)} {W k f : Nat} (hn : l.most = some 63) (hdf : d.params.defaults = [])
    (hY : ∀ (w : World) (h : Heap), YP w h → (K w.params).In h) (hg : g = gsOf I cl ex gv) (hb : ∀ w : World, baseB (K w.params) g = true) (hs : ∀ i ∈ I, stB g i = true)
    (hd : ∀ (w : World) (mg : Str → Option Value) (h : Heap), (K w.params).In h → h.Ns mainGlobals mg → ∀ i ∈ I, DynF (K w.params) mg g i) (hx : ∀ w : World, exAll l.prog (K w.params) ex)
    (hf : g.fn[f]? = some (d.name, 1, .glob)) (hp : ∀ i, I[f]? = some i → i.ps = [("script" : Str)]) (hz : L2.Room (2 * k) callerA)
    (law : ∀ ns : List Int, ns.length ≤ 63 → (∀ z ∈ ns, Builtin.Int.intBits z ≤ 1048576) → ∃ st, callN (I.map (·.fn)) W k f [.imm (.scr (ns.map .int))] [] = .ok (.imm (.bl true)) st) :
    PySem.W.WalkO q loose XP YP l.row.toRowW d [] (fun f vs => PySem.call f vs) := by
  refine L2.walk_ofB (n := 63) (k := 2 * k) (x := "script") (CX := fun w => L2.CX l.prog w) (sp := fun w => spF (tabs (K w.params) g) (callN (I.map (·.fn)) W k) f 1) hn (by decide) hdf hz hY ?_ ?_ ?_
  · intro w mg fa h X G hmg
    subst hg
    obtain ⟨i, hi, e1, e2, e3, e4, e5⟩ := fn_at hf
    obtain ⟨y, fa', fd, q1, q2, q3⟩ := hd w mg h X G i hi
    rw [e5] at q3
    have q3' : mg i.x = some (.ref fa') := q3
    rw [e3, hmg] at q3'
    cases q3'
    have hps := hp i e1
    refine ⟨fd, fun s u => .of_eq ?_, fun base X2 G2 => ?_⟩
    · have := q2 [u] (by rw [hps]; rfl)
      rw [hps] at this
      exact this
    · have := fn_all (P := l.prog) (w := w) (base := base) (W := W) (k := k) rfl X G (hb w) hs (hd w mg h X G) (hx w) e1 e5 q1
      rw [hps, e4] at this
      exact this
  · intro w H a ns hl hbits hO hS
    refine ⟨rfl, ⟨H, [], []⟩, [.imm (.scr (ns.map .int))], ⟨Same.refl _, ⟨rfl, fun i a ds h1 _ => by simp at h1⟩, List.nodup_nil, fun a h => nomatch h⟩, ?_, rfl, ?_⟩
    · exact .cons (f := []) (fs := []) (.imm (.scr hS (dvs_ints ns))) .nil
    · obtain ⟨st, e⟩ := law ns hl hbits
      show (match callN (I.map (·.fn)) W k f [.imm (.scr (ns.map .int))] [] with
        | .ok c st' => Got _ _ _ st' c _
        | .exc x st' => Exd _ _ _ x st' _
        | .stuck => False)
      rw [e]
      intro v H' w' fp hw t c1 fr
      cases c1 with
      | imm hd => cases hd; rfl
  · intro w H s e s' h
    obtain ⟨_, _, _, _, _, _, _, _, _, _, _, _, z⟩ := h
    exact z.elim
end Q

set_option maxRecDepth 100000
set_option maxHeartbeats 1000000
namespace Q
open PySem
/-! ### the drawing of a law: its state -/
def bTurn : IS := (.seq (.asg 1 (.bin .add (.bin .mul (.var 1) (.con (.int 1000003))) (.bi .abs (.cons (.var 3) .nil))))
 (.seq (.asg 2 (.bin .mod (.bi .int (.cons (.bin .add (.bin .mul (.var 2) (.con (.int 48271))) (.var 3)) .nil)) (.con (.int 2147483647))))
 .skip))
def bState : IS :=
 (.seq (.asg 1 (.con (.int 0)))
 (.seq (.asg 2 (.con (.int 1)))
 (.seq (.for_ 3 (.slc (.var 0) .nopart (.con (.int 63))) bTurn)
 (.seq (.ret (.nref (.cons (.var 1) (.cons (.ite (.bin .ne (.var 2) (.con (.int 1973665155))) (.var 2) (.con (.int 7))) .nil))))
 .skip))))
def fState : Fn := ⟨1, 4, false, 0, 0, bState⟩
def bTake : IS :=
 (.seq (.ite (.bin .gt (.ix (.var 0) (.con (.int 0))) (.con (.int 0)))
 (.seq (.asg 2 (.bin .mod (.bi .int (.cons (.ix (.var 0) (.con (.int 0))) .nil)) (.var 1)))
 (.seq (.sset 0 (.con (.int 0)) (.bin .fdiv (.ix (.var 0) (.con (.int 0))) (.var 1)))
 (.seq (.retv 2)
 .skip)))
 .skip)
 (.seq (.sset 0 (.con (.int 1)) (.bin .mod (.bi .int (.cons (.bin .add (.bin .mul (.ix (.var 0) (.con (.int 1))) (.con (.int 48271))) (.con (.int 11))) .nil)) (.con (.int 2147483647))))
 (.seq (.ret (.bin .mod (.bi .int (.cons (.bin .fdiv (.ix (.var 0) (.con (.int 1))) (.con (.int 7))) .nil)) (.var 1)))
 .skip)))
def fTake : Fn := ⟨2, 3, false, 0, 0, bTake⟩
-- what a state may be
def StOk (s : List D) : Prop := ∃ a b : Int, s = [.int a, .int b] ∧ 0 ≤ a ∧ 0 ≤ b ∧ b < 2147483647
theorem log2_lt {n B : Nat} (h : n < 2 ^ B) (hB : 0 < B) : n.log2 < B := by
  by_cases h0 : n = 0
  · subst h0
    rw [Nat.log2_zero]
    exact hB
  · exact (Nat.log2_lt h0).mpr h
theorem bits_ok {i j : Int} {A B : Nat} (hi : i.natAbs < 2 ^ A) (hj : j.natAbs < 2 ^ B) (hA : 0 < A) (hB : 0 < B) (h : A + B ≤ 100000000) : bitsOk i j = true := by
  unfold bitsOk
  have := log2_lt hi hA
  have := log2_lt hj hB
  exact decide_eq_true (by omega)
theorem turn_run {cf : CF} {W : Nat} {x : Cell} {a t c : Int} {st : Store} (h1 : bitsOk a 1000003 = true) (h2 : bitsOk t 48271 = true) :
    evS cf W bTurn [x, .imm (.int a), .imm (.int t), .imm (.int c)] st = .next [x, .imm (.int (a * 1000003 + (if c < 0 then -c else c))), .imm (.int ((t * 48271 + c) % 2147483647)), .imm (.int c)] st := by
  simp [bTurn, evS, evE, binC, viaD, bopD, Cell.dat, biC, bAbs, bInt, lstItems, ownable, h1, h2]
theorem turns_run {cf : CF} {W : Nat} {x : Cell} {B : Nat} {st : Store} : ∀ {ns : List Int} {a t : Int} {y : Cell} {k : Nat}, (∀ z ∈ ns, z.natAbs < 2 ^ B) → 0 ≤ a → a.natAbs < 2 ^ (B + k) → 0 ≤ t → t < 2147483647 → B + k + 21 * ns.length + 64 ≤ 90000000 →
    ∃ a' t' y', floop (fun y ρ s => evS cf W bTurn (ρ.set 3 y) s) ((ns.map D.int).map .imm) [x, .imm (.int a), .imm (.int t), y] st = .next [x, .imm (.int a'), .imm (.int t'), y'] st ∧ 0 ≤ a' ∧ 0 ≤ t' ∧ t' < 2147483647
  | [], a, t, y, k, _, ha, _, ht, ht2, _ => ⟨a, t, y, rfl, ha, ht, ht2⟩
  | n :: ns, a, t, y, k, hn, ha, hk, ht, ht2, hB => by
    have h1 : bitsOk a 1000003 = true := bits_ok (A := B + k + 1) (B := 20) (Nat.lt_trans hk (Nat.pow_lt_pow_right (by decide) (Nat.lt_succ_self _))) (by decide) (by omega) (by decide) (by
      simp only [List.length_cons] at hB
      omega)
    have h2 : bitsOk t 48271 = true := bits_ok (A := 31) (B := 16) (by omega) (by decide) (by decide) (by decide) (by decide)
    simp only [List.map_cons, floop]
    have e : ([x, .imm (.int a), .imm (.int t), y] : Ev).set 3 (.imm (.int n)) = [x, .imm (.int a), .imm (.int t), .imm (.int n)] := rfl
    rw [e, turn_run h1 h2]
    simp only
    have hn0 := hn n List.mem_cons_self
    have hpos : (0 : Int) ≤ (if n < 0 then -n else n) := by split <;> omega
    have habs : (if n < 0 then -n else n) = (n.natAbs : Int) := by split <;> omega
    refine turns_run (B := B) (k := k + 21) (fun z hz => hn z (List.mem_cons_of_mem _ hz)) (by omega) ?_ (Int.emod_nonneg _ (by decide)) (Int.emod_lt_of_pos _ (by decide)) (by simp only [List.length_cons] at hB; omega)
    rw [habs]
    have e1 : (a * 1000003 + (n.natAbs : Int)).natAbs = a.natAbs * 1000003 + n.natAbs := by omega
    rw [e1]
    have e2 : 2 ^ (B + (k + 21)) = 2 ^ (B + k) * 2097152 := by rw [← Nat.add_assoc, Nat.pow_add]
    rw [e2]
    have e3 : 2 ^ B ≤ 2 ^ (B + k) := Nat.pow_le_pow_right (by decide) (Nat.le_add_right _ _)
    generalize 2 ^ (B + k) = p at *
    omega
theorem eqD_int (a b : Int) : eqD (.int a) (.int b) = some (decide (a = b)) := by
  simp only [eqD, D.py]
  have h1 : SeqAt.shaped (PyData.int a) = true := rfl
  have h2 : SeqAt.shaped (PyData.int b) = true := rfl
  rw [h1, h2]
  simp only [PyData.eqv, Bool.and_self, if_true]
  exact congrArg some (by rw [Bool.eq_iff_iff]; simp)
theorem cut63 {xs : List D} (h : xs.length ≤ 63) : cutD xs none (some 63) = xs := by
  unfold cutD
  have h1 : HT.sIx xs.length 0 none = 0 := rfl
  rw [h1, List.drop_zero]
  refine List.take_of_length_le ?_
  unfold HT.sIx
  simp only
  split <;> omega
theorem state_run {cf : CF} {W : Nat} {ns : List Int} {st : Store} {B : Nat} (hl : ns.length ≤ 63) (hn : ∀ z ∈ ns, z.natAbs < 2 ^ B) (hB : B ≤ 10000000) :
    ∃ s, StOk s ∧ runFn cf W fState [.imm (.scr (ns.map .int))] st = .ok (.imm (.sref st.length)) (st ++ [s]) := by
  obtain ⟨a, t, y, h, ha, ht, ht2⟩ := turns_run (cf := cf) (W := W) (x := .imm (.scr (ns.map .int))) (st := st) (a := 0) (t := 1) (y := .undef) (k := 0) hn (Int.le_refl _) (by simp [Nat.two_pow_pos]) (by decide) (by decide) (by omega)
  have hc : cutD (ns.map D.int) none (some 63) = ns.map D.int := cut63 (by rw [List.length_map]; exact hl)
  have hw : keepAll ((ns.map D.int).map Cell.imm) = some (ns.map D.int) := keepAll_imms _
  refine ⟨[.int a, .int (if t = 1973665155 then 7 else t)], ⟨a, _, rfl, ha, by split <;> omega, by split <;> omega⟩, ?_⟩
  unfold runFn fState
  simp only [List.length_cons, List.length_nil, if_true, bState, evS, evE, ownable, List.replicate, List.cons_append, List.nil_append, List.set_cons_succ, List.set_cons_zero, partE, asInt, Option.map_some, slcC, hc, List.getElem?_cons_zero, owns, walkC, hw]
  rw [h]
  simp only [List.getElem?_cons_zero, List.getElem?_cons_succ, binC, viaD, Cell.dat, bopD, eqD_int, Option.map_some, truC, truD]
  by_cases h7 : t = 1973665155
  · subst h7
    simp [imms, small]
  · simp [imms, small, h7]
theorem take_run {cf : CF} {W k : Nat} {m : Int} {st : Store} {s : List D} (hk : st[k]? = some s) (hs : StOk s) (hm : 0 < m) (hm2 : m < 1000000000000) :
    ∃ v s', StOk s' ∧ 0 ≤ v ∧ v < m ∧ runFn cf W fTake [.imm (.sref k), .imm (.int m)] st = .ok (.imm (.int v)) (st.set k s') := by
  obtain ⟨a, b, rfl, ha, hb, hb2⟩ := hs
  have hlog : m.natAbs.log2 < 9000 := Nat.lt_trans (log2_lt (B := 40) (show m.natAbs < 2 ^ 40 by omega) (by decide)) (by decide)
  have hlt : k < st.length := (List.getElem?_eq_some_iff.mp hk).1
  have hk0 : ((st.set k [D.int (a / m), .int b])[k]?) = some [D.int (a / m), .int b] := by rw [List.getElem?_set_self hlt]
  by_cases h0 : 0 < a
  · refine ⟨a % m, [.int (a / m), .int b], ⟨a / m, b, rfl, Int.ediv_nonneg ha (by omega), hb, hb2⟩, Int.emod_nonneg _ (by omega), Int.emod_lt_of_pos _ hm, ?_⟩
    unfold runFn fTake
    simp [bTake, evS, evE, binC, viaD, bopD, Cell.dat, biC, bInt, ixC, ixD, hk, L2.atI, L2.ixN, truC, truD, h0, hm, hlog, ownable, ixOf]
  · have h2 : bitsOk b 48271 = true := bits_ok (A := 31) (B := 16) (by omega) (by decide) (by decide) (by decide) (by decide)
    refine ⟨((b * 48271 + 11) % 2147483647) / 7 % m, [.int a, .int ((b * 48271 + 11) % 2147483647)], ⟨a, _, rfl, ha, Int.emod_nonneg _ (by decide), Int.emod_lt_of_pos _ (by decide)⟩, Int.emod_nonneg _ (by omega), Int.emod_lt_of_pos _ hm, ?_⟩
    unfold runFn fTake
    have hk1 : ((st.set k [D.int a, .int ((b * 48271 + 11) % 2147483647)])[k]?) = some [D.int a, .int ((b * 48271 + 11) % 2147483647)] := by rw [List.getElem?_set_self hlt]
    have hl7 : Nat.log2 7 < 9000 := by decide
    simp [bTake, evS, evE, binC, viaD, bopD, Cell.dat, biC, bInt, ixC, ixD, hk, L2.atI, L2.ixN, truC, truD, h0, hm, hlog, ownable, ixOf, h2, hl7, hk1, lstItems]
theorem runFn_ret {cf : CF} {W : Nat} {f : Fn} {as : List Cell} {st s : Store} {c : Cell} (h1 : as.length = f.ps) (hi : f.init = false) (h : evS cf W f.body (as ++ List.replicate (f.nv - f.ps) .undef) st = .ret c s) : runFn cf W f as st = .ok c s := by
  unfold runFn
  rw [if_pos h1, h]
  simp [hi]
theorem bits_lt {z : Int} {B : Nat} (h : Builtin.Int.intBits z ≤ B) : z.natAbs < 2 ^ (B + 1) := by
  unfold Builtin.Int.intBits at h
  by_cases h0 : z = 0
  · subst h0
    exact Nat.two_pow_pos _
  · have hz : (z == 0) = false := by simpa using h0
    rw [hz] at h
    simp only [Bool.false_eq_true, if_false] at h
    exact Nat.lt_of_lt_of_le (Nat.lt_log2_self) (Nat.pow_le_pow_right (by decide) (by omega))
end Q

set_option maxRecDepth 100000
set_option maxHeartbeats 1000000
namespace Q
open PySem
/-! ### a quicker == of data -/
def okN : Nat → D → Bool
  | 0, x => match x with
    | .non => true
    | .bl _ => true
    | .int _ => true
    | .str s => PyData.strOk s
    | _ => false
  | n + 1, x => match x with
    | .non => true
    | .bl _ => true
    | .int _ => true
    | .str s => PyData.strOk s
    | .tup xs => xs.all (okN n)
    | .lst xs => xs.all (okN n)
    | _ => false
def all2 (f : D → D → Bool) : List D → List D → Bool
  | [], ys => match ys with
    | [] => true
    | _ :: _ => false
  | x :: xs, ys => match ys with
    | [] => false
    | y :: ys => f x y && all2 f xs ys
def eq0 : D → D → Bool
  | .non, y => match y with
    | .non => true
    | _ => false
  | .bl a, y => match y with
    | .bl b => a == b
    | .int j => (if a then 1 else 0) == j
    | _ => false
  | .int i, y => match y with
    | .int j => decide (i = j)
    | .bl b => i == (if b then 1 else 0)
    | _ => false
  | .str a, y => match y with
    | .str b => a == b
    | _ => false
  | _, _ => false
def eqN : Nat → D → D → Bool
  | 0, x, y => eq0 x y
  | n + 1, x, y => match x with
    | .tup xs => match y with
      | .tup ys => all2 (eqN n) xs ys
      | _ => false
    | .lst xs => match y with
      | .lst ys => all2 (eqN n) xs ys
      | _ => false
    | _ => eq0 x y
def NOk (n : Nat) (x : D) (p : PyData) : Prop := D.py x = some p ∧ p.canLay0 = true ∧ p.depth ≤ n
theorem nok_flat {n : Nat} {x : D} (h : okN 0 x = true) : ∃ p, NOk n x p := by
  cases x <;> first | (cases h; done) | skip
  · exact ⟨_, rfl, rfl, Nat.zero_le _⟩
  · exact ⟨_, rfl, rfl, Nat.zero_le _⟩
  · exact ⟨_, rfl, rfl, Nat.zero_le _⟩
  · rename_i s
    have h' : PyData.strOk s = true := h
    exact ⟨_, rfl, by simpa [PyData.canLay0] using h', Nat.zero_le _⟩
theorem noks {n : Nat} (ih : ∀ {x : D}, okN n x = true → ∃ p, NOk n x p) : ∀ {xs : List D}, xs.all (okN n) = true → ∃ ps, D.pys xs = some ps ∧ PyData.canLayAll0 ps = true ∧ PyData.depthAll ps ≤ n
  | [], _ => ⟨[], by simp only [D.pys], by simp only [PyData.canLayAll0], by simp only [PyData.depthAll]; exact Nat.zero_le _⟩
  | x :: xs, h => by
    rw [List.all_cons, Bool.and_eq_true] at h
    obtain ⟨p, h1, h2, h3⟩ := ih h.1
    obtain ⟨ps, k1, k2, k3⟩ := noks ih h.2
    refine ⟨p :: ps, by simp only [D.pys, h1, k1], by simp only [PyData.canLayAll0, h2, k2, Bool.and_self], ?_⟩
    simp only [PyData.depthAll]
    exact Nat.max_le.mpr ⟨h3, k3⟩
theorem nok : ∀ {n : Nat} {x : D}, okN n x = true → ∃ p, NOk n x p
  | 0, x, h => nok_flat h
  | n + 1, x, h => by
    cases x with
    | tup xs =>
      obtain ⟨ps, h1, h2, h3⟩ := noks (nok (n := n)) (show xs.all (okN n) = true from h)
      exact ⟨.tuple ps, by simp only [D.py, h1], by simp only [PyData.canLay0, h2], by simp only [PyData.depth]; omega⟩
    | lst xs =>
      obtain ⟨ps, h1, h2, h3⟩ := noks (nok (n := n)) (show xs.all (okN n) = true from h)
      exact ⟨.list ps, by simp only [D.py, h1], by simp only [PyData.canLay0, h2], by simp only [PyData.depth]; omega⟩
    | non => exact nok_flat rfl
    | bl b => exact nok_flat rfl
    | int b => exact nok_flat rfl
    | str b => exact nok_flat h
    | scr _ => cases h
    | ins _ _ => cases h
    | sref _ => cases h
theorem int_beq (a b : Int) : (a == b) = decide (a = b) := by rw [Bool.eq_iff_iff]; simp
theorem eq0_ok {x y : D} {p q : PyData} (hx : D.py x = some p) (hy : D.py y = some q) (h : okN 0 x = true ∨ okN 0 y = true) : PyData.eqv p q = eq0 x y := by
  cases x <;> cases y <;> first | (simp only [D.py] at hx hy; cases hx; cases hy; done) | skip
  all_goals
    simp only [D.py] at hx hy
    (try split at hx) <;> (try split at hy) <;> (try cases hx) <;> (try cases hy)
  all_goals first
    | (simp only [PyData.eqv, eq0, int_beq]; done)
    | (simp only [PyData.eqv, eq0]; done)
    | (rcases h with h | h <;> cases h)
theorem eqNs {n : Nat} (ih : ∀ {x y : D} {p q : PyData}, okN n x = true → okN n y = true → D.py x = some p → D.py y = some q → PyData.eqv p q = eqN n x y) : ∀ {xs ys : List D} {ps qs : List PyData}, xs.all (okN n) = true → ys.all (okN n) = true → D.pys xs = some ps → D.pys ys = some qs → PyData.eqvAll ps qs = all2 (eqN n) xs ys
  | [], [], ps, qs, _, _, h1, h2 => by
    simp only [D.pys] at h1 h2
    cases h1; cases h2
    simp only [PyData.eqvAll, all2]
  | [], y :: ys, ps, qs, _, _, h1, h2 => by
    simp only [D.pys] at h1 h2
    cases h1
    split at h2
    · cases h2; simp only [PyData.eqvAll, all2]
    · cases h2
  | x :: xs, [], ps, qs, _, _, h1, h2 => by
    simp only [D.pys] at h1 h2
    cases h2
    split at h1
    · cases h1; simp only [PyData.eqvAll, all2]
    · cases h1
  | x :: xs, y :: ys, ps, qs, hx, hy, h1, h2 => by
    rw [List.all_cons, Bool.and_eq_true] at hx hy
    simp only [D.pys] at h1 h2
    split at h1
    · rename_i p ps' e1 e2
      cases h1
      split at h2
      · rename_i q qs' e3 e4
        cases h2
        simp only [PyData.eqvAll, all2]
        rw [ih hx.1 hy.1 e1 e3, eqNs ih hx.2 hy.2 e2 e4]
      · cases h2
    · cases h1
theorem eqN_ok : ∀ {n : Nat} {x y : D} {p q : PyData}, okN n x = true → okN n y = true → D.py x = some p → D.py y = some q → PyData.eqv p q = eqN n x y
  | 0, x, y, p, q, hx, hy, h1, h2 => eq0_ok h1 h2 (.inl hx)
  | n + 1, x, y, p, q, hx, hy, h1, h2 => by
    cases x with
    | tup xs =>
      simp only [D.py] at h1
      split at h1
      · rename_i ps e1
        cases h1
        cases y with
        | tup ys =>
          simp only [D.py] at h2
          split at h2
          · rename_i qs e2
            cases h2
            show PyData.eqv (.tuple ps) (.tuple qs) = all2 (eqN n) xs ys
            simp only [PyData.eqv]
            exact eqNs (eqN_ok (n := n)) hx hy e1 e2
          · cases h2
        | _ =>
          simp only [D.py] at h2
          (try split at h2) <;> (try cases h2) <;> first | rfl | (simp only [PyData.eqv]; rfl) | cases hy
      · cases h1
    | lst xs =>
      simp only [D.py] at h1
      split at h1
      · rename_i ps e1
        cases h1
        cases y with
        | lst ys =>
          simp only [D.py] at h2
          split at h2
          · rename_i qs e2
            cases h2
            show PyData.eqv (.list ps) (.list qs) = all2 (eqN n) xs ys
            simp only [PyData.eqv]
            exact eqNs (eqN_ok (n := n)) hx hy e1 e2
          · cases h2
        | _ =>
          simp only [D.py] at h2
          (try split at h2) <;> (try cases h2) <;> first | rfl | (simp only [PyData.eqv]; rfl) | cases hy
      · cases h1
    | non => exact eq0_ok h1 h2 (.inl rfl)
    | bl b => exact eq0_ok h1 h2 (.inl rfl)
    | int b => exact eq0_ok h1 h2 (.inl rfl)
    | str b => exact eq0_ok h1 h2 (.inl hx)
    | scr _ => cases hx
    | ins _ _ => cases hx
    | sref _ => cases hx
def eqX (x y : D) : Option Bool := if okN 4 x && okN 4 y then some (eqN 4 x y) else eqD x y
theorem eqX_eq (x y : D) : eqX x y = eqD x y := by
  unfold eqX
  split
  · rename_i h
    rw [Bool.and_eq_true] at h
    obtain ⟨p, h1, h2, h3⟩ := nok h.1
    obtain ⟨q, k1, k2, k3⟩ := nok h.2
    unfold eqD
    rw [h1, k1]
    simp only
    have s1 : SeqAt.shaped p = true := by unfold SeqAt.shaped; rw [h2, decide_eq_true (by omega)]; rfl
    have s2 : SeqAt.shaped q = true := by unfold SeqAt.shaped; rw [k2, decide_eq_true (by omega)]; rfl
    rw [s1, s2, eqN_ok h.1 h.2 h1 k1]
    rfl
  · rfl
def eqC (x y : Cell) : Option Bool := match x.dat, y.dat with
  | some a, some b => eqX a b
  | _, _ => none
def binX (o : Op) (x y : Cell) : Option Cell :=
  match o with
  | .eq => (eqC x y).map fun b => .imm (.bl b)
  | .ne => (eqC x y).map fun b => .imm (.bl (!b))
  | o => binC o x y
theorem binX_eq (o : Op) (x y : Cell) : binX o x y = binC o x y := by
  cases o <;> first | rfl | skip
  · show (eqC x y).map _ = viaD .eq x y
    unfold eqC viaD
    cases x.dat with
    | none => rfl
    | some a =>
      cases y.dat with
      | none => rfl
      | some b =>
        simp only [bopD, eqX_eq]
        cases eqD a b <;> rfl
  · show (eqC x y).map _ = viaD .ne x y
    unfold eqC viaD
    cases x.dat with
    | none => rfl
    | some a =>
      cases y.dat with
      | none => rfl
      | some b =>
        simp only [bopD, eqX_eq]
        cases eqD a b <;> rfl
end Q

set_option maxRecDepth 100000
set_option maxHeartbeats 1000000
namespace Q
open PySem
/-! ### results and wishes -/
def Re.wp0 {α : Type} (r : Re α) (Q : α → Store → Prop) (X : Exc → Store → Prop) : Prop := match r with
  | .ok a s => Q a s
  | .exc x s => X x s
  | .stuck => False
structure Re.wp {α : Type} (r : Re α) (Q : α → Store → Prop) (X : Exc → Store → Prop) : Prop where
  ok : r.wp0 Q X
def noX : Exc → Store → Prop := fun _ _ => False
structure Wish where
  N : Ev → Store → Prop
  R : Cell → Store → Prop
  B : Ev → Store → Prop
  C : Ev → Store → Prop
  X : Exc → Ev → Store → Prop
def Out.wp0 (o : Out) (K : Wish) : Prop := match o with
  | .next ρ s => K.N ρ s
  | .ret c s => K.R c s
  | .brk ρ s => K.B ρ s
  | .cont ρ s => K.C ρ s
  | .exc x ρ s => K.X x ρ s
  | .stuck => False
structure Out.wp (o : Out) (K : Wish) : Prop where
  ok : o.wp0 K
-- what is wanted of a def's body
abbrev fnP (Q : Cell → Store → Prop) (X : Exc → Store → Prop) : Wish := ⟨fun _ s => Q (.imm .non) s, Q, fun _ _ => False, fun _ _ => False, fun x _ s => X x s⟩
abbrev inP (ci nf : Nat) (Q : Cell → Store → Prop) (X : Exc → Store → Prop) : Wish := ⟨fun ρ s => ∃ fs, (ρ[0]? : Option Cell) = some (.obj ci fs) ∧ fs.length = nf ∧ Q (.imm (.ins ci fs)) s, fun _ _ => False, fun _ _ => False, fun _ _ => False, fun x _ s => X x s⟩
theorem Re.wpE {α : Type} (r : Re α) (Q : α → Store → Prop) (X : Exc → Store → Prop) : r.wp Q X = r.wp0 Q X := propext ⟨fun h => h.ok, fun h => ⟨h⟩⟩
theorem Out.wpE (o : Out) (K : Wish) : o.wp K = o.wp0 K := propext ⟨fun h => h.ok, fun h => ⟨h⟩⟩
section
variable {α : Type} {cf : CF} {W : Nat} {ρ : Ev} {st s1 : Store} {K : Wish} {Q : Cell → Store → Prop} {X : Exc → Store → Prop}
theorem Re.wp_mono {r : Re α} {Q Q' : α → Store → Prop} {X X' : Exc → Store → Prop} (h : r.wp Q X) (hq : ∀ a s, Q a s → Q' a s) (hx : ∀ x s, X x s → X' x s) : r.wp Q' X' := by
  simp only [Out.wpE, Re.wpE] at *
  cases r with
  | ok a s => exact hq a s h
  | exc x s => exact hx x s h
  | stuck => exact h
theorem Re.wp_eq {r : Re α} {c : α} {s : Store} (h : r.wp (fun a t => a = c ∧ t = s) noX) : r = .ok c s := by
  simp only [Out.wpE, Re.wpE] at *
  cases r with
  | ok a t => obtain ⟨rfl, rfl⟩ := h; rfl
  | exc x s => exact h.elim
  | stuck => exact h.elim
theorem Re.wp_ex {r : Re α} {Q : α → Store → Prop} (h : r.wp Q noX) : ∃ c s, r = .ok c s ∧ Q c s := by
  simp only [Out.wpE, Re.wpE] at *
  cases r with
  | ok a t => exact ⟨a, t, rfl, h⟩
  | exc x s => exact h.elim
  | stuck => exact h.elim
theorem Re.wp_of {r : Re α} {c : α} {s : Store} {Q : α → Store → Prop} {X : Exc → Store → Prop} (h : r = .ok c s) (hq : Q c s) : r.wp Q X := by
  simp only [Out.wpE, Re.wpE] at *
  rw [h]; exact hq
theorem run_wp {f : Fn} {as : List Cell} (h1 : as.length = f.ps) (hi : f.init = false) (h : (evS cf W f.body (as ++ List.replicate (f.nv - f.ps) .undef) st).wp (fnP Q X)) : (runFn cf W f as st).wp Q X := by
  simp only [Out.wpE, Re.wpE] at *
  unfold runFn
  rw [if_pos h1, hi]
  cases e : evS cf W f.body (as ++ List.replicate (f.nv - f.ps) .undef) st with
  | next ρ s => rw [e] at h; exact h
  | ret c s => rw [e] at h; exact h
  | exc x ρ s => rw [e] at h; exact h
  | brk ρ s => rw [e] at h; exact h.elim
  | cont ρ s => rw [e] at h; exact h.elim
  | stuck => rw [e] at h; exact h.elim
theorem run_wpI {f : Fn} {as : List Cell} (h1 : as.length = f.ps) (hi : f.init = true) (h : (evS cf W f.body (as ++ List.replicate (f.nv - f.ps) .undef) st).wp (inP f.ci f.nf Q X)) : (runFn cf W f as st).wp Q X := by
  simp only [Out.wpE, Re.wpE] at *
  unfold runFn
  rw [if_pos h1, hi]
  cases e : evS cf W f.body (as ++ List.replicate (f.nv - f.ps) .undef) st with
  | next ρ s =>
    rw [e] at h
    obtain ⟨fs, h1, h2, h3⟩ := h
    simp only [if_true]
    rw [h1]
    simp only
    rw [if_pos ⟨trivial, h2⟩]
    exact h3
  | ret c s => rw [e] at h; exact h.elim
  | exc x ρ s => rw [e] at h; exact h
  | brk ρ s => rw [e] at h; exact h.elim
  | cont ρ s => rw [e] at h; exact h.elim
  | stuck => rw [e] at h; exact h.elim
/-! ### statements -/
theorem Out.wp_mono {o : Out} {K K' : Wish} (h : o.wp K) (hN : ∀ ρ s, K.N ρ s → K'.N ρ s) (hR : ∀ ρ s, K.R ρ s → K'.R ρ s) (hB : ∀ ρ s, K.B ρ s → K'.B ρ s) (hC : ∀ ρ s, K.C ρ s → K'.C ρ s) (hX : ∀ x ρ s, K.X x ρ s → K'.X x ρ s) : o.wp K' := by
  simp only [Out.wpE, Re.wpE] at *
  cases o with
  | next ρ s => exact hN _ _ h
  | ret c s => exact hR _ _ h
  | brk ρ s => exact hB _ _ h
  | cont ρ s => exact hC _ _ h
  | exc x ρ s => exact hX _ _ _ h
  | stuck => exact h
theorem wp_seq {a b : IS} (h : (evS cf W a ρ st).wp ⟨fun ρ s => (evS cf W b ρ s).wp K, K.R, K.B, K.C, K.X⟩) : (evS cf W (.seq a b) ρ st).wp K := by
  simp only [Out.wpE, Re.wpE] at *
  simp only [evS]
  cases e : evS cf W a ρ st with
  | next ρ s => rw [e] at h; exact h
  | ret c s => rw [e] at h; exact h
  | exc x ρ s => rw [e] at h; exact h
  | brk ρ s => rw [e] at h; exact h
  | cont ρ s => rw [e] at h; exact h
  | stuck => rw [e] at h; exact h.elim
theorem wp_skip (h : K.N ρ st) : (evS cf W .skip ρ st).wp K := by
  simp only [Out.wpE, Re.wpE] at *
  exact h
theorem wp_asg {i : Nat} {e : IE} {c : Cell} (he : evE cf e ρ st = .ok c s1) (ho : ownable c = true) (h : K.N (ρ.set i c) s1) : (evS cf W (.asg i e) ρ st).wp K := by
  simp only [Out.wpE, Re.wpE] at *
  simp only [evS, he, ho, if_true]
  exact h
theorem wp_asgQ {i : Nat} {e : IE} (h : (evE cf e ρ st).wp (fun c s => ownable c = true ∧ K.N (ρ.set i c) s) (fun x s => K.X x ρ s)) : (evS cf W (.asg i e) ρ st).wp K := by
  simp only [Out.wpE, Re.wpE] at *
  simp only [evS]
  cases q : evE cf e ρ st with
  | ok c s =>
    rw [q] at h
    simp only [h.1, if_true]
    exact h.2
  | exc x s => rw [q] at h; exact h
  | stuck => rw [q] at h; exact h.elim
theorem wp_drop {e : IE} {c : Cell} (he : evE cf e ρ st = .ok c s1) (h : K.N ρ s1) : (evS cf W (.drop e) ρ st).wp K := by
  simp only [Out.wpE, Re.wpE] at *
  simp only [evS, he]
  exact h
theorem wp_dropQ {e : IE} (h : (evE cf e ρ st).wp (fun c s => K.N ρ s) (fun x s => K.X x ρ s)) : (evS cf W (.drop e) ρ st).wp K := by
  simp only [Out.wpE, Re.wpE] at *
  simp only [evS]
  cases q : evE cf e ρ st with
  | ok c s => rw [q] at h; exact h
  | exc x s => rw [q] at h; exact h
  | stuck => rw [q] at h; exact h.elim
theorem wp_par {i j : Nat} {a b : IE} {x y : Cell} {s2 : Store} (ha : evE cf a ρ st = .ok x s1) (hb : evE cf b ρ s1 = .ok y s2) (ho : ownable x = true) (hp : ownable y = true) (h : K.N ((ρ.set i x).set j y) s2) : (evS cf W (.par i j a b) ρ st).wp K := by
  simp only [Out.wpE, Re.wpE] at *
  simp only [evS, ha, hb, ho, hp, Bool.and_self, if_true]
  exact h
theorem wp_parQ {i j : Nat} {a b : IE} (h : (evE cf a ρ st).wp (fun x s => (evE cf b ρ s).wp (fun y s => ownable x = true ∧ ownable y = true ∧ K.N ((ρ.set i x).set j y) s) (fun x s => K.X x ρ s)) (fun x s => K.X x ρ s)) : (evS cf W (.par i j a b) ρ st).wp K := by
  simp only [Out.wpE, Re.wpE] at *
  simp only [evS]
  cases q : evE cf a ρ st with
  | ok c s =>
    rw [q] at h
    have h : (evE cf b ρ s).wp0 _ _ := h
    simp only
    cases q2 : evE cf b ρ s with
    | ok d s =>
      rw [q2] at h
      simp only [h.1, h.2.1, Bool.and_self, if_true]
      exact h.2.2
    | exc x s => rw [q2] at h; exact h
    | stuck => rw [q2] at h; exact h.elim
  | exc x s => rw [q] at h; exact h
  | stuck => rw [q] at h; exact h.elim
theorem wp_unp {js : List Nat} {e : IE} {ds : List D} {ρ' : Ev} (he : evE cf e ρ st = .ok (.imm (.tup ds)) s1) (hs : setAll js ds ρ = some ρ') (h : K.N ρ' s1) : (evS cf W (.unp js e) ρ st).wp K := by
  simp only [Out.wpE, Re.wpE] at *
  simp only [evS, he, hs]
  exact h
theorem wp_unpQ {js : List Nat} {e : IE} (h : (evE cf e ρ st).wp (fun c s => ∃ ds ρ', c = .imm (.tup ds) ∧ setAll js ds ρ = some ρ' ∧ K.N ρ' s) (fun x s => K.X x ρ s)) : (evS cf W (.unp js e) ρ st).wp K := by
  simp only [Out.wpE, Re.wpE] at *
  simp only [evS]
  cases q : evE cf e ρ st with
  | ok c s =>
    rw [q] at h
    obtain ⟨ds, ρ', rfl, h1, h2⟩ := h
    simp only [h1]
    exact h2
  | exc x s => rw [q] at h; exact h
  | stuck => rw [q] at h; exact h.elim
theorem wp_aug {i : Nat} {o : Op} {e : IE} {a b z : Int} (hi : ρ[i]? = some (.imm (.int a))) (he : evE cf e ρ st = .ok (.imm (.int b)) s1) (hz : augD o a b = some z) (h : K.N (ρ.set i (.imm (.int z))) s1) : (evS cf W (.aug i o e) ρ st).wp K := by
  simp only [Out.wpE, Re.wpE] at *
  simp only [evS, hi, he, hz]
  exact h
theorem wp_app {i : Nat} {e : IE} {cs : List Cell} {c : Cell} (hi : ρ[i]? = some (.own cs)) (he : evE cf e ρ st = .ok c s1) (ho : ownable c = true) (hl : small cs.length = true) (h : K.N (ρ.set i (.own (cs ++ [c]))) s1) : (evS cf W (.app i e) ρ st).wp K := by
  simp only [Out.wpE, Re.wpE] at *
  simp only [evS, hi, he, ho, hl, Bool.and_self, if_true]
  exact h
theorem wp_appQ {i : Nat} {e : IE} {cs : List Cell} (hi : ρ[i]? = some (.own cs)) (hl : small cs.length = true) (h : (evE cf e ρ st).wp (fun c s => ownable c = true ∧ K.N (ρ.set i (.own (cs ++ [c]))) s) (fun x s => K.X x ρ s)) : (evS cf W (.app i e) ρ st).wp K := by
  simp only [Out.wpE, Re.wpE] at *
  simp only [evS, hi]
  cases q : evE cf e ρ st with
  | ok c s =>
    rw [q] at h
    simp only [h.1, hl, Bool.and_self, if_true]
    exact h.2
  | exc x s => rw [q] at h; exact h
  | stuck => rw [q] at h; exact h.elim
theorem wp_apopQ {i j : Nat} {e : IE} {cs ds : List Cell} (hi : ρ[i]? = some (.own cs)) (hj : ρ[j]? = some (.own ds)) (hij : i ≠ j) (hl : small cs.length = true) (h : (evE cf e ρ st).wp (fun c s => ∃ k m d, c = .imm (.int k) ∧ rngOk k = true ∧ ixOf ds.length k = some m ∧ ds[m]? = some (.imm d) ∧ K.N ((ρ.set j (.own (ds.eraseIdx m))).set i (.own (cs ++ [.imm d]))) s) (fun x s => K.X x ρ s)) : (evS cf W (.apop i j e) ρ st).wp K := by
  simp only [Out.wpE, Re.wpE] at *
  simp only [evS, hi, hj]
  cases q : evE cf e ρ st with
  | ok c s =>
    rw [q] at h
    obtain ⟨k, m, d, rfl, h1, h2, h3, h4⟩ := h
    have hb : (i != j) = true := by simpa using hij
    simp only [h2, h3, h1, hl, hb, Bool.and_self, if_true]
    exact h4
  | exc x s => rw [q] at h; exact h
  | stuck => rw [q] at h; exact h.elim
theorem wp_ext {i : Nat} {e : IE} {cs : List Cell} {c : Cell} {ds : List D} (hi : ρ[i]? = some (.own cs)) (he : evE cf e ρ st = .ok c s1) (hc : ltItems c = some ds) (hl : small (cs.length + ds.length) = true) (h : K.N (ρ.set i (.own (cs ++ ds.map .imm))) s1) : (evS cf W (.ext i e) ρ st).wp K := by
  simp only [Out.wpE, Re.wpE] at *
  simp only [evS, hi, he, hc, hl, if_true]
  exact h
theorem wp_popiQ {i j : Nat} {e : IE} {ds : List Cell} (hj : ρ[j]? = some (.own ds)) (h : (evE cf e ρ st).wp (fun c s => ∃ k m d, c = .imm (.int k) ∧ rngOk k = true ∧ ixOf ds.length k = some m ∧ ds[m]? = some (.imm d) ∧ K.N ((ρ.set j (.own (ds.eraseIdx m))).set i (.imm d)) s) (fun x s => K.X x ρ s)) : (evS cf W (.popi i j e) ρ st).wp K := by
  simp only [Out.wpE, Re.wpE] at *
  simp only [evS, hj]
  cases q : evE cf e ρ st with
  | ok c s =>
    rw [q] at h
    obtain ⟨k, m, d, rfl, h1, h2, h3, h4⟩ := h
    simp only [h2, h3, h1, if_true]
    exact h4
  | exc x s => rw [q] at h; exact h
  | stuck => rw [q] at h; exact h.elim
theorem wp_popl {i j : Nat} {ds : List Cell} {d : D} (hj : ρ[j]? = some (.own ds)) (hd : ds[ds.length - 1]? = some (.imm d)) (h : K.N ((ρ.set j (.own ds.dropLast)).set i (.imm d)) st) : (evS cf W (.popl i j) ρ st).wp K := by
  simp only [Out.wpE, Re.wpE] at *
  simp only [evS, hj, hd]
  exact h
theorem wp_popu {js : List Nat} {j : Nat} {ds : List Cell} {es : List D} {ρ' : Ev} (hj : ρ[j]? = some (.own ds)) (hd : ds[ds.length - 1]? = some (.imm (.tup es))) (hs : setAll js es (ρ.set j (.own ds.dropLast)) = some ρ') (h : K.N ρ' st) : (evS cf W (.popu js j) ρ st).wp K := by
  simp only [Out.wpE, Re.wpE] at *
  simp only [evS, hj, hd, hs]
  exact h
theorem wp_set {i : Nat} {a e : IE} {cs : List Cell} {c : Cell} {k : Int} {j : Nat} {s2 : Store} (hi : ρ[i]? = some (.own cs)) (he : evE cf e ρ st = .ok c s1) (ha : evE cf a ρ s1 = .ok (.imm (.int k)) s2) (hj : ixOf cs.length k = some j) (ho : ownable c = true) (h : K.N (ρ.set i (.own (cs.set j c))) s2) : (evS cf W (.set i a e) ρ st).wp K := by
  simp only [Out.wpE, Re.wpE] at *
  simp only [evS, hi, he, ha, hj, ho, if_true]
  exact h
theorem wp_set2 {i : Nat} {a b e : IE} {cs ds : List Cell} {c : Cell} {k l : Int} {j m : Nat} {s2 s3 : Store} (hi : ρ[i]? = some (.own cs)) (he : evE cf e ρ st = .ok c s1) (ha : evE cf a ρ s1 = .ok (.imm (.int k)) s2) (hj : ixOf cs.length k = some j) (hd : cs[j]? = some (.own ds)) (hb : evE cf b ρ s2 = .ok (.imm (.int l)) s3) (hm : ixOf ds.length l = some m) (ho : ownable c = true) (h : K.N (ρ.set i (.own (cs.set j (.own (ds.set m c))))) s3) : (evS cf W (.set2 i a b e) ρ st).wp K := by
  simp only [Out.wpE, Re.wpE] at *
  simp only [evS, hi, he, ha, hj, hd, hb, hm, ho, if_true]
  exact h
theorem wp_setf {c k : Nat} {e : IE} {x : Cell} {d : D} {fs : List D} (he : evE cf e ρ st = .ok x s1) (hk : keepC x = some d) (h0 : (ρ[0]? : Option Cell) = some (.obj c fs)) (hl : fs.length = k) (hs : k < 900) (h : K.N (ρ.set 0 (.obj c (fs ++ [d]))) s1) : (evS cf W (.setf c k e) ρ st).wp K := by
  simp only [Out.wpE, Re.wpE] at *
  simp only [evS, he, hk, h0]
  rw [if_pos ⟨trivial, hl, hs⟩]
  exact h
theorem wp_frz {i : Nat} {c : Cell} {d : D} (hi : ρ[i]? = some c) (hk : keepC c = some d) (h : K.N (ρ.set i (.imm d)) st) : (evS cf W (.frz i) ρ st).wp K := by
  simp only [Out.wpE, Re.wpE] at *
  have hu : isUndef c = false := by cases c <;> first | rfl | (simp only [keepC] at hk; cases hk)
  simp only [evS, hi, hk, hu, Bool.false_eq_true, if_false]
  exact h
theorem wp_frzU {i : Nat} (hi : ρ[i]? = some .undef) (h : K.N ρ st) : (evS cf W (.frz i) ρ st).wp K := by
  simp only [Out.wpE, Re.wpE] at *
  simp only [evS, hi, isUndef, if_true]
  exact h
theorem wp_ite {c : IE} {a b : IS} {x : Cell} {t : Bool} (hc : evE cf c ρ st = .ok x s1) (ht : truC x = some t) (h1 : t = true → (evS cf W a ρ s1).wp K) (h2 : t = false → (evS cf W b ρ s1).wp K) : (evS cf W (.ite c a b) ρ st).wp K := by
  simp only [Out.wpE, Re.wpE] at *
  simp only [evS, hc, ht]
  cases t with
  | true => exact h1 rfl
  | false => exact h2 rfl
theorem wp_iteT {c : IE} {a b : IS} {x : Cell} (hc : evE cf c ρ st = .ok x s1) (ht : truC x = some true) (h1 : (evS cf W a ρ s1).wp K) : (evS cf W (.ite c a b) ρ st).wp K := by
  simp only [Out.wpE, Re.wpE] at *
  simp only [evS, hc, ht]
  exact h1
theorem wp_iteF {c : IE} {a b : IS} {x : Cell} (hc : evE cf c ρ st = .ok x s1) (ht : truC x = some false) (h1 : (evS cf W b ρ s1).wp K) : (evS cf W (.ite c a b) ρ st).wp K := by
  simp only [Out.wpE, Re.wpE] at *
  simp only [evS, hc, ht]
  exact h1
theorem wp_iteQ {c : IE} {a b : IS} (h : (evE cf c ρ st).wp (fun x s => ∃ t, truC x = some t ∧ (t = true → (evS cf W a ρ s).wp K) ∧ (t = false → (evS cf W b ρ s).wp K)) (fun x s => K.X x ρ s)) : (evS cf W (.ite c a b) ρ st).wp K := by
  simp only [Out.wpE, Re.wpE] at *
  simp only [evS]
  cases q : evE cf c ρ st with
  | ok x s =>
    rw [q] at h
    obtain ⟨t, h1, h2, h3⟩ := h
    simp only [h1]
    cases t with
    | true => exact h2 rfl
    | false => exact h3 rfl
  | exc x s => rw [q] at h; exact h
  | stuck => rw [q] at h; exact h.elim
theorem wp_ret {e : IE} {c : Cell} (he : evE cf e ρ st = .ok c s1) (ho : ownable c = true) (h : K.R c s1) : (evS cf W (.ret e) ρ st).wp K := by
  simp only [Out.wpE, Re.wpE] at *
  simp only [evS, he, ho, if_true]
  exact h
theorem wp_retQ {e : IE} (h : (evE cf e ρ st).wp (fun c s => ownable c = true ∧ K.R c s) (fun x s => K.X x ρ s)) : (evS cf W (.ret e) ρ st).wp K := by
  simp only [Out.wpE, Re.wpE] at *
  simp only [evS]
  cases q : evE cf e ρ st with
  | ok c s =>
    rw [q] at h
    simp only [h.1, if_true]
    exact h.2
  | exc x s => rw [q] at h; exact h
  | stuck => rw [q] at h; exact h.elim
theorem wp_retv {i : Nat} {c : Cell} (hi : ρ[i]? = some c) (ho : ownable c = true) (h : K.R c st) : (evS cf W (.retv i) ρ st).wp K := by
  simp only [Out.wpE, Re.wpE] at *
  simp only [evS, hi, ho, if_true]
  exact h
theorem wp_retn (h : K.R (.imm .non) st) : (evS cf W .retn ρ st).wp K := by
  simp only [Out.wpE, Re.wpE] at *
  exact h
theorem wp_brk (h : K.B ρ st) : (evS cf W .brk ρ st).wp K := by
  simp only [Out.wpE, Re.wpE] at *
  exact h
theorem wp_cont (h : K.C ρ st) : (evS cf W .cont ρ st).wp K := by
  simp only [Out.wpE, Re.wpE] at *
  exact h
theorem wp_raiseM {c : Nat} (h : K.X ⟨c, []⟩ ρ st) : (evS cf W (.raiseM c) ρ st).wp K := by
  simp only [Out.wpE, Re.wpE] at *
  exact h
theorem wp_raise {c : Nat} {as : IE} {d : D} {s1 : Store} (he : evE cf as ρ st = .ok (.own [.imm d]) s1) (h : K.X ⟨c, [d]⟩ ρ s1) : (evS cf W (.raise c as) ρ st).wp K := by
  simp only [Out.wpE, Re.wpE] at *
  simp only [evS, he, oneD]
  exact h
theorem wp_tryR {b : IS} {hs : List (Nat × HX)} (h : (evS cf W b ρ st).wp ⟨K.N, K.R, K.B, K.C, fun x ρ s => match findH x.c hs with
    | some hx => (match hx.ev x.fs with
      | some d => K.R (.imm d) s
      | none => False)
    | none => K.X x ρ s⟩) : (evS cf W (.tryR b hs) ρ st).wp K := by
  simp only [Out.wpE, Re.wpE] at *
  simp only [evS]
  cases e : evS cf W b ρ st with
  | next ρ s => rw [e] at h; exact h
  | ret c s => rw [e] at h; exact h
  | brk ρ s => rw [e] at h; exact h
  | cont ρ s => rw [e] at h; exact h
  | stuck => rw [e] at h; exact h.elim
  | exc x ρ s =>
    rw [e] at h
    have h : (match findH x.c hs with
      | some hx => (match hx.ev x.fs with
        | some d => K.R (.imm d) s
        | none => False)
      | none => K.X x ρ s) := h
    simp only
    cases e1 : findH x.c hs with
    | none =>
      rw [e1] at h
      exact h
    | some hx =>
      rw [e1] at h
      simp only at h ⊢
      cases e2 : hx.ev x.fs with
      | none => rw [e2] at h; exact h.elim
      | some d =>
        rw [e2] at h
        exact h
theorem wp_try1 {b : IS} {c : Nat} {d : D} (h : (evS cf W b ρ st).wp ⟨K.N, K.R, K.B, K.C, fun x ρ s => if exSub x.c c = true then K.R (.imm d) s else K.X x ρ s⟩) : (evS cf W (.try1 b c d) ρ st).wp K := by
  simp only [Out.wpE, Re.wpE] at *
  simp only [evS]
  cases e : evS cf W b ρ st with
  | next ρ s => rw [e] at h; exact h
  | ret c s => rw [e] at h; exact h
  | brk ρ s => rw [e] at h; exact h
  | cont ρ s => rw [e] at h; exact h
  | stuck => rw [e] at h; exact h.elim
  | exc x ρ s =>
    rw [e] at h
    have h : (if exSub x.c c = true then K.R (.imm d) s else K.X x ρ s) := h
    simp only
    split at h
    · rename_i hc
      rw [if_pos hc]
      exact h
    · rename_i hc
      rw [if_neg hc]
      exact h
/-! ### loops -/
theorem floop_wp0 {b : Cell → Ev → Store → Out} {α : Type} {f : α → D} : ∀ (xs done : List α) (I : List α → Ev → Store → Prop) {ρ : Ev} {st : Store}, I done ρ st →
    (∀ ys x zs ρ s, done ++ xs = ys ++ x :: zs → I ys ρ s → (b (.imm (f x)) ρ s).wp0 ⟨I (ys ++ [x]), K.R, K.N, I (ys ++ [x]), K.X⟩) → (∀ ρ s, I (done ++ xs) ρ s → K.N ρ s) → (floop b ((xs.map f).map .imm) ρ st).wp0 K
  | [], done, I, ρ, st, h0, _, hn => by
    rw [List.append_nil] at hn
    exact hn _ _ h0
  | x :: xs, done, I, ρ, st, h0, hs, hn => by
    have h := hs done x xs ρ st rfl h0
    simp only [List.map_cons, floop]
    have go : ∀ ρ s, I (done ++ [x]) ρ s → (floop b ((xs.map f).map .imm) ρ s).wp0 K := fun ρ s h => by
      refine floop_wp0 xs (done ++ [x]) I h (fun ys y zs ρ s e hi => hs ys y zs ρ s (by rw [← e, List.append_assoc]; rfl) hi) (fun ρ s hi => hn ρ s (by rw [List.append_assoc] at hi; exact hi))
    cases e : b (.imm (f x)) ρ st with
    | next ρ s => rw [e] at h; exact go _ _ h
    | cont ρ s => rw [e] at h; exact go _ _ h
    | brk ρ s => rw [e] at h; exact h
    | ret c s => rw [e] at h; exact h
    | exc x ρ s => rw [e] at h; exact h
    | stuck => rw [e] at h; exact h.elim
theorem floop_wp {b : Cell → Ev → Store → Out} {α : Type} {f : α → D} (xs done : List α) (I : List α → Ev → Store → Prop) {ρ : Ev} {st : Store} (h0 : I done ρ st)
    (hs : ∀ ys x zs ρ s, done ++ xs = ys ++ x :: zs → I ys ρ s → (b (.imm (f x)) ρ s).wp ⟨I (ys ++ [x]), K.R, K.N, I (ys ++ [x]), K.X⟩) (hn : ∀ ρ s, I (done ++ xs) ρ s → K.N ρ s) : (floop b ((xs.map f).map .imm) ρ st).wp K :=
  ⟨floop_wp0 xs done I h0 (fun ys x zs ρ s e hi => (hs ys x zs ρ s e hi).ok) hn⟩
-- the numbers below n
def rng (n : Nat) : List Int := (List.range n).map Int.ofNat
abbrev vec {β : Type} (n : Nat) (f : Int → β) : List β := (rng n).map f
theorem rng_length (n : Nat) : (rng n).length = n := by unfold rng; rw [List.length_map, List.length_range]
theorem rng_succ (n : Nat) : rng (n + 1) = rng n ++ [(n : Int)] := by
  unfold rng
  rw [List.range_succ, List.map_append]
  rfl
theorem rng_mem {n : Nat} {x : Int} : x ∈ rng n ↔ 0 ≤ x ∧ x < n := by
  simp only [rng, List.mem_map, List.mem_range]
  constructor
  · rintro ⟨i, h, rfl⟩
    exact ⟨Int.natCast_nonneg i, Int.ofNat_lt.mpr h⟩
  · intro h
    exact ⟨x.toNat, by omega, Int.toNat_of_nonneg h.1⟩
theorem rng_get {n i : Nat} (h : i < n) : (rng n)[i]? = some (i : Int) := by
  unfold rng
  rw [List.getElem?_map, List.getElem?_range h]
  rfl
theorem rng_split : ∀ {n : Nat} {ys zs : List Int} {x : Int}, rng n = ys ++ x :: zs → ∃ i : Nat, x = i ∧ i < n ∧ ys = rng i := by
  intro n ys zs x h
  have hl : ys.length < n := by
    have := congrArg List.length h
    rw [rng_length, List.length_append, List.length_cons] at this
    omega
  refine ⟨ys.length, ?_, hl, ?_⟩
  · have h1 := rng_get hl
    rw [h, List.getElem?_append_right (Nat.le_refl _), Nat.sub_self] at h1
    exact Option.some.inj h1
  · have h2 : (rng n).take ys.length = ys := by rw [h]; simp
    have h3 : (rng n).take ys.length = rng ys.length := by
      unfold rng
      rw [← List.map_take, List.take_range, Nat.min_eq_left (Nat.le_of_lt hl)]
    exact h2.symm.trans h3
theorem floop_vec {b : Cell → Ev → Store → Out} {n : Nat} {f : Int → D} (I : Nat → Ev → Store → Prop) (h0 : I 0 ρ st)
    (hs : ∀ (i : Nat) ρ s, i < n → I i ρ s → (b (.imm (f (i : Int))) ρ s).wp ⟨I (i + 1), K.R, K.N, I (i + 1), K.X⟩) (hn : ∀ ρ s, I n ρ s → K.N ρ s) : (floop b ((vec n f).map .imm) ρ st).wp K := by
  refine floop_wp (rng n) [] (fun ys ρ s => I ys.length ρ s) h0 (fun ys x zs ρ s e hi => ?_) (fun ρ s hi => hn ρ s (by rw [List.nil_append, rng_length] at hi; exact hi))
  obtain ⟨i, rfl, h1, rfl⟩ := rng_split e
  simp only [rng_length, List.length_append, List.length_cons, List.length_nil] at hi ⊢
  exact hs i ρ s h1 hi
theorem wp_forL {j : Nat} {it : IE} {b : IS} {x : Cell} {α : Type} {xs : List α} {f : α → D} (I : List α → Ev → Store → Prop) (hit : evE cf it ρ st = .ok x s1) (hw : walkC it ρ x = some (xs.map f)) (h0 : I [] ρ s1)
    (hs : ∀ ys x zs ρ s, xs = ys ++ x :: zs → I ys ρ s → (evS cf W b (ρ.set j (.imm (f x))) s).wp ⟨I (ys ++ [x]), K.R, K.N, I (ys ++ [x]), K.X⟩) (hn : ∀ ρ s, I xs ρ s → K.N ρ s) : (evS cf W (.for_ j it b) ρ st).wp K := by
  simp only [evS, hit, hw]
  exact floop_wp xs [] I h0 hs hn
theorem wp_for {j : Nat} {it : IE} {b : IS} {x : Cell} {n : Nat} {f : Int → D} (I : Nat → Ev → Store → Prop) (hit : evE cf it ρ st = .ok x s1) (hw : walkC it ρ x = some (vec n f)) (h0 : I 0 ρ s1)
    (hs : ∀ (i : Nat) ρ s, i < n → I i ρ s → (evS cf W b (ρ.set j (.imm (f (i : Int)))) s).wp ⟨I (i + 1), K.R, K.N, I (i + 1), K.X⟩) (hn : ∀ ρ s, I n ρ s → K.N ρ s) : (evS cf W (.for_ j it b) ρ st).wp K := by
  simp only [evS, hit, hw]
  exact floop_vec I h0 hs hn
theorem wp_fort {js : List Nat} {it : IE} {b : IS} {x : Cell} {α : Type} {xs : List α} {f : α → List D} (I : List α → Ev → Store → Prop) (hit : evE cf it ρ st = .ok x s1) (hw : walkC it ρ x = some (xs.map fun a => .tup (f a))) (h0 : I [] ρ s1)
    (hs : ∀ ys x zs ρ s, xs = ys ++ x :: zs → I ys ρ s → ∃ ρ', setAll js (f x) ρ = some ρ' ∧ (evS cf W b ρ' s).wp ⟨I (ys ++ [x]), K.R, K.N, I (ys ++ [x]), K.X⟩) (hn : ∀ ρ s, I xs ρ s → K.N ρ s) : (evS cf W (.fort js it b) ρ st).wp K := by
  simp only [evS, hit, hw]
  refine floop_wp xs [] I h0 (fun ys x zs ρ s e hi => ?_) hn
  obtain ⟨ρ', h1, h2⟩ := hs ys x zs ρ s e hi
  simp only [h1]
  exact h2
theorem wp_whl {c : IE} {b : IS} (I : Nat → Ev → Store → Prop) {n : Nat} (hW : n < W) (h0 : I n ρ st)
    (hs : ∀ m ρ s, m ≤ n → I m ρ s → (evE cf c ρ s).wp (fun x s => ∃ t, truC x = some t ∧ (t = true → (evS cf W b ρ s).wp ⟨fun ρ s => ∃ k, k < m ∧ I k ρ s, K.R, K.N, fun ρ s => ∃ k, k < m ∧ I k ρ s, K.X⟩) ∧ (t = false → K.N ρ s)) (fun x s => K.X x ρ s)) : (evS cf W (.whl c b) ρ st).wp K := by
  simp only [Out.wpE, Re.wpE] at *
  simp only [evS]
  have go : ∀ (w m : Nat) ρ s, m < w → m ≤ n → I m ρ s → (wloop (evE cf c) (evS cf W b) w ρ s).wp0 K := by
    intro w
    induction w with
    | zero => intro m ρ s h; omega
    | succ w ih =>
      intro m ρ s hm hmn hi
      have h := hs m ρ s hmn hi
      simp only [wloop]
      cases q : evE cf c ρ s with
      | exc x s => rw [q] at h; exact h
      | stuck => rw [q] at h; exact h.elim
      | ok x s =>
        rw [q] at h
        obtain ⟨t, h1, h2, h3⟩ := h
        simp only [h1]
        cases t with
        | false => exact h3 rfl
        | true =>
          have h2 := h2 rfl
          simp only
          cases e : evS cf W b ρ s with
          | next ρ s =>
            rw [e] at h2
            obtain ⟨k, hk, hi⟩ := h2
            exact ih k ρ s (by omega) (by omega) hi
          | cont ρ s =>
            rw [e] at h2
            obtain ⟨k, hk, hi⟩ := h2
            exact ih k ρ s (by omega) (by omega) hi
          | brk ρ s => rw [e] at h2; exact h2
          | ret c s => rw [e] at h2; exact h2
          | exc x ρ s => rw [e] at h2; exact h2
          | stuck => rw [e] at h2; exact h2.elim
  exact go W n ρ st hW (Nat.le_refl _) h0
end
end Q

set_option maxRecDepth 100000
set_option maxHeartbeats 1000000
namespace Q
open PySem
/-! ### what an expression gives -/
section
variable {cf : CF} {ρ : Ev} {st s1 s2 s3 : Store} {a b c e : IE} {x y z : Cell}
theorem ev_con {d : D} : evE cf (.con d) ρ st = .ok (.imm d) st := rfl
theorem ev_glob {n : Str} {d : D} : evE cf (.glob n d) ρ st = .ok (.imm d) st := rfl
theorem ev_nopart : evE cf .nopart ρ st = .ok (.imm .non) st := rfl
theorem ev_var {i : Nat} {d : D} (h : ρ[i]? = some (.imm d)) : evE cf (.var i) ρ st = .ok (.imm d) st := by simp only [evE, h]
theorem ev_varO {i : Nat} {cs : List Cell} (h : ρ[i]? = some (.own cs)) : evE cf (.var i) ρ st = .ok (.bor cs) st := by simp only [evE, h]
theorem ev_varB {i : Nat} {cs : List Cell} (h : ρ[i]? = some (.bor cs)) : evE cf (.var i) ρ st = .ok (.bor cs) st := by simp only [evE, h]
theorem ev_bin {o : Op} (ha : evE cf a ρ st = .ok x s1) (hb : evE cf b ρ s1 = .ok y s2) (hz : binC o x y = some z) : evE cf (.bin o a b) ρ st = .ok z s2 := by simp only [evE, ha, hb, hz]
theorem ev_ix (ha : evE cf a ρ st = .ok x s1) (hb : evE cf b ρ s1 = .ok y s2) (hz : ixC x y s2 = some z) : evE cf (.ix a b) ρ st = .ok z s2 := by simp only [evE, ha, hb, hz]
theorem ev_chn {o1 o2 : Op} {t u : Bool} {w : Cell} (ha : evE cf a ρ st = .ok x s1) (hb : evE cf b ρ s1 = .ok y s2) (h1 : binC o1 x y = some (.imm (.bl t))) (hc : t = true → evE cf c ρ s2 = .ok w s2) (h2 : t = true → binC o2 y w = some (.imm (.bl u))) : evE cf (.chn o1 o2 a b c) ρ st = .ok (.imm (.bl (t && u))) s2 := by
  simp only [evE, ha, hb, h1, Option.bind_some, asBool]
  cases t with
  | true => simp only [hc, h2, Bool.true_and]
  | false => rfl
theorem ev_neg {i : Int} (ha : evE cf a ρ st = .ok (.imm (.int i)) s1) : evE cf (.neg a) ρ st = .ok (.imm (.int (-i))) s1 := by simp only [evE, ha, asInt]
theorem ev_kp {d : D} (ha : evE cf a ρ st = .ok x s1) (hk : keepC x = some d) : evE cf (.kp a) ρ st = .ok (.imm d) s1 := by simp only [evE, ha, hk]
theorem ev_not {t : Bool} (ha : evE cf a ρ st = .ok x s1) (ht : truC x = some t) : evE cf (.not a) ρ st = .ok (.imm (.bl (!t))) s1 := by simp only [evE, ha, ht]
theorem ev_andB {t u : Bool} (ha : evE cf a ρ st = .ok (.imm (.bl t)) s1) (hb : t = true → evE cf b ρ s1 = .ok (.imm (.bl u)) s1) : evE cf (.and a b) ρ st = .ok (.imm (.bl (t && u))) s1 := by
  simp only [evE, ha, truC, truD]
  cases t with
  | true => simp only [hb, Bool.true_and]
  | false => rfl
theorem ev_andT (ha : evE cf a ρ st = .ok x s1) (ht : truC x = some true) (hb : evE cf b ρ s1 = .ok y s2) : evE cf (.and a b) ρ st = .ok y s2 := by simp only [evE, ha, ht, hb]
theorem ev_andF (ha : evE cf a ρ st = .ok x s1) (ht : truC x = some false) : evE cf (.and a b) ρ st = .ok x s1 := by simp only [evE, ha, ht]
theorem ev_orB {t u : Bool} (ha : evE cf a ρ st = .ok (.imm (.bl t)) s1) (hb : t = false → evE cf b ρ s1 = .ok (.imm (.bl u)) s1) : evE cf (.or a b) ρ st = .ok (.imm (.bl (t || u))) s1 := by
  simp only [evE, ha, truC, truD]
  cases t with
  | true => rfl
  | false => simp only [hb, Bool.false_or]
theorem ev_orT (ha : evE cf a ρ st = .ok x s1) (ht : truC x = some true) : evE cf (.or a b) ρ st = .ok x s1 := by simp only [evE, ha, ht]
theorem ev_orF (ha : evE cf a ρ st = .ok x s1) (ht : truC x = some false) (hb : evE cf b ρ s1 = .ok y s2) : evE cf (.or a b) ρ st = .ok y s2 := by simp only [evE, ha, ht, hb]
theorem ev_iteT (hc : evE cf c ρ st = .ok x s1) (ht : truC x = some true) (ha : evE cf a ρ s1 = .ok y s2) : evE cf (.ite c a b) ρ st = .ok y s2 := by simp only [evE, hc, ht, ha]
theorem ev_iteF (hc : evE cf c ρ st = .ok x s1) (ht : truC x = some false) (hb : evE cf b ρ s1 = .ok y s2) : evE cf (.ite c a b) ρ st = .ok y s2 := by simp only [evE, hc, ht, hb]
theorem ev_ite {t : Bool} {d1 d2 : D} (hc : evE cf c ρ st = .ok x s1) (ht : truC x = some t) (ha : t = true → evE cf a ρ s1 = .ok (.imm d1) s1) (hb : t = false → evE cf b ρ s1 = .ok (.imm d2) s1) : evE cf (.ite c a b) ρ st = .ok (.imm (bif t then d1 else d2)) s1 := by
  simp only [evE, hc, ht]
  cases t with
  | true => exact ha rfl
  | false => exact hb rfl
theorem ev_iteI {t : Bool} {d1 d2 : Int} (hc : evE cf c ρ st = .ok x s1) (ht : truC x = some t) (ha : t = true → evE cf a ρ s1 = .ok (.imm (.int d1)) s1) (hb : t = false → evE cf b ρ s1 = .ok (.imm (.int d2)) s1) : evE cf (.ite c a b) ρ st = .ok (.imm (.int (bif t then d1 else d2))) s1 := by
  simp only [evE, hc, ht]
  cases t with
  | true => exact ha rfl
  | false => exact hb rfl
theorem ev_nil : evE cf .nil ρ st = .ok (.own []) st := rfl
theorem ev_cons {xs : List Cell} (ha : evE cf a ρ st = .ok x s1) (hb : evE cf b ρ s1 = .ok (.own xs) s2) : evE cf (.cons a b) ρ st = .ok (.own (x :: xs)) s2 := by simp only [evE, ha, hb]
theorem ev_tup {xs : List Cell} {ds : List D} (ha : evE cf a ρ st = .ok (.own xs) s1) (hk : keepAll xs = some ds) (hs : small ds.length = true) : evE cf (.tup a) ρ st = .ok (.imm (.tup ds)) s1 := by simp only [evE, ha, hk, hs, if_true]
theorem ev_lst {xs : List Cell} (ha : evE cf a ρ st = .ok (.own xs) s1) (hk : xs.all ownable = true) (hs : small xs.length = true) : evE cf (.lst a) ρ st = .ok (.own xs) s1 := by simp only [evE, ha, hk, hs, Bool.and_self, if_true]
theorem ev_slc {lo hi : IE} {l h : Cell} {pl ph : Option Int} (ha : evE cf a ρ st = .ok x s1) (hl : evE cf lo ρ s1 = .ok l s2) (hp : partE lo l = some pl) (hh : evE cf hi ρ s2 = .ok h s3) (hq : partE hi h = some ph) (hz : slcC x pl ph = some z) : evE cf (.slc a lo hi) ρ st = .ok z s3 := by simp only [evE, ha, hl, hp, hh, hq, hz]
theorem ev_fld {ci k : Nat} {fs : List D} {d : D} (ha : evE cf a ρ st = .ok (.imm (.ins ci fs)) s1) (hk : fs[k]? = some d) : evE cf (.fld a ci k) ρ st = .ok (.imm d) s1 := by simp only [evE, ha, hk, if_true]
theorem ev_fldO {ci k : Nat} {fs : List D} {d : D} {i : Nat} (hi : ρ[i]? = some (.imm (.ins ci fs))) (hk : fs[k]? = some d) : evE cf (.fld (.var i) ci k) ρ st = .ok (.imm d) st := by simp only [evE, hi, hk, if_true]
theorem ev_call {f : Nat} {xs ys : List Cell} (ha : evE cf a ρ st = .ok (.own xs) s1) (hp : passAll xs = some ys) (hc : cf f ys s1 = .ok z s2) : evE cf (.call f a) ρ st = .ok z s2 := by simp only [evE, ha, hp, hc]
theorem ev_meth {ci f : Nat} {xs ys : List Cell} {fs : List D} (ho : evE cf e ρ st = .ok (.imm (.ins ci fs)) s1) (ha : evE cf a ρ s1 = .ok (.own xs) s2) (hp : passAll xs = some ys) (hc : cf f (.imm (.ins ci fs) :: ys) s2 = .ok z s3) : evE cf (.meth ci f e a) ρ st = .ok z s3 := by simp only [evE, ho, ha, hp, hc, if_true]
theorem ev_new {ci f : Nat} {xs ys : List Cell} {fs : List D} (ha : evE cf a ρ st = .ok (.own xs) s1) (hp : passAll xs = some ys) (hc : cf f (.obj ci [] :: ys) s1 = .ok (.imm (.ins ci fs)) s2) : evE cf (.new ci f a) ρ st = .ok (.imm (.ins ci fs)) s2 := by simp only [evE, ha, hp, hc, if_true]
theorem ev_bi {o : BI} {xs : List Cell} (ha : evE cf a ρ st = .ok (.own xs) s1) (hz : biC o xs = some z) : evE cf (.bi o a) ρ st = .ok z s1 := by simp only [evE, ha, hz]
theorem ranged_vec (n : Nat) : ranged 0 (n : Int) = vec n .int := by
  unfold ranged vec rng
  rw [List.map_map]
  simp only [Int.sub_zero, Int.toNat_natCast, Int.zero_add]
  rfl
theorem ranged_vec2 (m : Int) (n : Nat) : ranged m (m + n) = vec n (fun i => .int (m + i)) := by
  unfold ranged vec rng
  rw [List.map_map]
  have : (m + (n : Int) - m).toNat = n := by omega
  rw [this]
  rfl
theorem ev_range1 {n : Nat} (ha : evE cf a ρ st = .ok (.imm (.int (n : Int))) s1) (hr : n ≤ 1000000) : evE cf (.range1 a) ρ st = .ok (.own ((vec n .int).map .imm)) s1 := by
  have h : rngOk (n : Int) = true := decide_eq_true (by omega)
  simp only [evE, ha, asInt, h, if_true, owns, ranged_vec]
theorem ev_range2 {m k : Int} {n : Nat} (ha : evE cf a ρ st = .ok (.imm (.int m)) s1) (hb : evE cf b ρ s1 = .ok (.imm (.int k)) s2) (hk : k = m + n) (hr : -1000000 ≤ m) (hr2 : k ≤ 1000000) : evE cf (.range2 a b) ρ st = .ok (.own ((vec n fun i => .int (m + i)).map .imm)) s2 := by
  subst hk
  have h : rngOk m = true := decide_eq_true (by omega)
  have h' : rngOk (m + n) = true := decide_eq_true (by omega)
  simp only [evE, ha, hb, asInt, h, h', if_true, owns, ranged_vec2, Bool.and_self]
theorem imms_owns' (ds : List D) : imms (ds.map .imm) = some ds := imms_owns ds
theorem lstItems_own (ds : List D) : lstItems (.own (ds.map .imm)) = some ds := imms_owns ds
theorem ev_lrange {ds : List D} (ha : evE cf a ρ st = .ok (.own (ds.map .imm)) s1) (hs : small ds.length = true) : evE cf (.lrange false a) ρ st = .ok (.own (ds.map .imm)) s1 := by simp only [evE, ha, lstItems_own, hs, if_true, Bool.false_eq_true, if_false, owns]
theorem ev_lrangeT {ds : List D} (ha : evE cf a ρ st = .ok (.own (ds.map .imm)) s1) (hs : small ds.length = true) : evE cf (.lrange true a) ρ st = .ok (.imm (.tup ds)) s1 := by simp only [evE, ha, lstItems_own, hs, if_true]
theorem ev_isi {ts : List Ty} {t : Ty} {r : Bool} (ha : evE cf a ρ st = .ok x s1) (ht : tyC x = some t) (hr : ts.any (tyLe t) = r) : evE cf (.isi a ts) ρ st = .ok (.imm (.bl r)) s1 := by simp only [evE, ha, ht, hr]
theorem ev_eqm {es : List (Nat × Nat)} (ha : evE cf a ρ st = .ok x s1) (hb : evE cf b ρ s1 = .ok y s2) (hi : insOf x = none) (hz : binC .eq x y = some z) : evE cf (.eqm es a b) ρ st = .ok z s2 := by simp only [evE, ha, hb, hi, hz]
theorem ev_eqmI {es : List (Nat × Nat)} {p : Nat × List D} {f : Nat} {t : Ty} {k : Bool} {w : Cell} (ha : evE cf a ρ st = .ok x s1) (hb : evE cf b ρ s1 = .ok y s2) (hi : insOf x = some p) (hl : es.lookup p.1 = some f) (ht : tyC y = some t) (hp : passC y = some w) (hc : cf f [.imm (.ins p.1 p.2), w] s2 = .ok (.imm (.bl k)) s3) : evE cf (.eqm es a b) ρ st = .ok (.imm (.bl k)) s3 := by simp only [evE, ha, hb, hi, hl, ht, hp, hc, asBool]
theorem ev_index {xs : List D} {j : Nat} (ha : evE cf a ρ st = .ok x s1) (hx : datL x = some xs) (hb : evE cf b ρ s1 = .ok y s2) (hj : indexC xs y = some j) : evE cf (.index a b) ρ st = .ok (.imm (.int (j : Nat))) s2 := by simp only [evE, ha, hx, hb, hj]
/-! comprehensions -/
theorem cloop_pure {β : Type} {f : Cell → Store → Re (Option Cell)} {h : β → D} {p : β → Bool} {g : β → Cell} : ∀ (xs : List β), (∀ b ∈ xs, f (.imm (h b)) st = .ok (if p b then some (g b) else none) st) → cloop f ((xs.map h).map .imm) st = .ok ((xs.filter p).map g) st
  | [], _ => rfl
  | b :: xs, H => by
    simp only [List.map_cons, cloop]
    rw [H b List.mem_cons_self]
    simp only
    rw [cloop_pure xs fun b hb => H b (List.mem_cons_of_mem _ hb)]
    simp only
    cases q : p b with
    | true => simp [q]
    | false => simp [q]
theorem iterC_own (ds : List D) : iterC (.own (ds.map .imm)) = some (ds.map .imm) := by
  show Option.map _ (imms (ds.map .imm)) = _
  rw [imms_owns]
  rfl
theorem iterC_bor (ds : List D) : iterC (.bor (ds.map .imm)) = some (ds.map .imm) := by
  show Option.map _ (imms (ds.map .imm)) = _
  rw [imms_owns]
  rfl
theorem iterC_tup (ds : List D) : iterC (.imm (.tup ds)) = some (ds.map .imm) := rfl
theorem iterC_lst (ds : List D) : iterC (.imm (.lst ds)) = some (ds.map .imm) := rfl
theorem ev_compF {β : Type} {xs : List β} {h : β → D} {p : β → Bool} {g : β → Cell} {j : Nat} {it : IE} (hit : evE cf it ρ st = .ok x s1) (hx : iterC x = some ((xs.map h).map .imm)) (hn : small xs.length = true)
    (hc : ∀ b ∈ xs, evE cf c (ρ.set j (.imm (h b))) s1 = .ok (.imm (.bl (p b))) s1) (he : ∀ b ∈ xs, p b = true → evE cf e (ρ.set j (.imm (h b))) s1 = .ok (g b) s1) (ho : ∀ b, ownable (g b) = true) :
    evE cf (.comp j it c e) ρ st = .ok (.own ((xs.filter p).map g)) s1 := by
  simp only [evE, hit, hx]
  rw [cloop_pure (h := h) (p := p) (g := g) xs fun b hb => ?_]
  · simp only [List.length_map, hn, if_true]
  · rw [hc b hb]
    simp only [truC, truD]
    cases q : p b with
    | true => simp only [he b hb q, ho, if_true]
    | false => rfl
theorem ev_comp {β : Type} {xs : List β} {h : β → D} {g : β → Cell} {j : Nat} {it : IE} (hit : evE cf it ρ st = .ok x s1) (hx : iterC x = some ((xs.map h).map .imm)) (hn : small xs.length = true)
    (he : ∀ b ∈ xs, evE cf e (ρ.set j (.imm (h b))) s1 = .ok (g b) s1) (ho : ∀ b, ownable (g b) = true) :
    evE cf (.comp j it (.con (.bl true)) e) ρ st = .ok (.own (xs.map g)) s1 := by
  have := ev_compF (c := .con (.bl true)) (p := fun _ => true) hit hx hn (fun _ _ => rfl) (fun b hb _ => he b hb) ho
  rw [List.filter_eq_self.mpr (fun _ _ => rfl)] at this
  exact this
theorem ev_compD {β : Type} {xs : List β} {h g : β → D} {j : Nat} {it : IE} (hit : evE cf it ρ st = .ok x s1) (hx : iterC x = some ((xs.map h).map .imm)) (hn : small xs.length = true)
    (he : ∀ b ∈ xs, evE cf e (ρ.set j (.imm (h b))) s1 = .ok (.imm (g b)) s1) :
    evE cf (.comp j it (.con (.bl true)) e) ρ st = .ok (.own ((xs.map g).map .imm)) s1 := by
  rw [List.map_map]
  exact ev_comp hit hx hn he fun _ => rfl
theorem ev_compFD {β : Type} {xs : List β} {h : β → D} {p : β → Bool} {g : β → D} {j : Nat} {it : IE} (hit : evE cf it ρ st = .ok x s1) (hx : iterC x = some ((xs.map h).map .imm)) (hn : small xs.length = true)
    (hc : ∀ b ∈ xs, evE cf c (ρ.set j (.imm (h b))) s1 = .ok (.imm (.bl (p b))) s1) (he : ∀ b ∈ xs, p b = true → evE cf e (ρ.set j (.imm (h b))) s1 = .ok (.imm (g b)) s1) :
    evE cf (.comp j it c e) ρ st = .ok (.own (((xs.filter p).map g).map .imm)) s1 := by
  rw [List.map_map]
  exact ev_compF hit hx hn hc he fun _ => rfl
-- where the items draw
theorem cloop_ex {f : Cell → Store → Re (Option Cell)} {J : Store → Prop} {β : Type} {h : β → D} {P : β → Cell → Prop} : ∀ (xs : List β) {st : Store}, J st → (∀ b ∈ xs, ∀ s, J s → ∃ y s', J s' ∧ P b y ∧ f (.imm (h b)) s = .ok (some y) s') →
    ∃ ys s', J s' ∧ ys.length = xs.length ∧ (∀ (i : Nat) (b : β), xs[i]? = some b → ∃ y, ys[i]? = some y ∧ P b y) ∧ cloop f ((xs.map h).map .imm) st = .ok ys s'
  | [], st, hJ, _ => ⟨[], st, hJ, rfl, fun i b hb => by simp at hb, rfl⟩
  | b :: xs, st, hJ, H => by
    obtain ⟨y, s', h1, h2, h3⟩ := H b List.mem_cons_self st hJ
    obtain ⟨ys, s2, k1, k2, k3, k4⟩ := cloop_ex xs h1 fun b hb => H b (List.mem_cons_of_mem _ hb)
    refine ⟨y :: ys, s2, k1, by rw [List.length_cons, List.length_cons, k2], fun i b' hb => ?_, ?_⟩
    · cases i with
      | zero =>
        cases (Option.some.inj hb : b = b')
        exact ⟨y, rfl, h2⟩
      | succ i => exact k3 i b' hb
    · simp only [List.map_cons, cloop, h3, k4]
def compF (cf : CF) (c e : IE) (j : Nat) (ρ : Ev) : Cell → Store → Re (Option Cell) := fun y s => match evE cf c (ρ.set j y) s with
            | .ok t s1 => match truC t with
              | some true => match evE cf e (ρ.set j y) s1 with
                | .ok z s2 => if ownable z then .ok (some z) s2 else .stuck
                | .exc _ _ => .stuck
                | .stuck => .stuck
              | some false => .ok none s1
              | none => .stuck
            | .exc _ _ => .stuck
            | .stuck => .stuck
theorem comp_def {j : Nat} {it : IE} : evE cf (.comp j it c e) ρ st = match evE cf it ρ st with
    | .ok x s1 => match iterC x with
      | some xs => match cloop (compF cf c e j ρ) xs s1 with
        | .ok ys s2 => if small xs.length then .ok (.own ys) s2 else .stuck
        | .exc _ _ => .stuck
        | .stuck => .stuck
      | none => .stuck
    | r => r := rfl
theorem ev_compX {J : Store → Prop} {β : Type} {xs : List β} {h : β → D} {P : β → Cell → Prop} {j : Nat} {it : IE} (hit : evE cf it ρ st = .ok x s1) (hx : iterC x = some ((xs.map h).map .imm)) (hn : small xs.length = true) (hJ : J s1)
    (he : ∀ b ∈ xs, ∀ s, J s → ∃ y s', J s' ∧ P b y ∧ ownable y = true ∧ evE cf e (ρ.set j (.imm (h b))) s = .ok y s') :
    ∃ ys s', J s' ∧ ys.length = xs.length ∧ (∀ (i : Nat) (b : β), xs[i]? = some b → ∃ y, ys[i]? = some y ∧ P b y) ∧ evE cf (.comp j it (.con (.bl true)) e) ρ st = .ok (.own ys) s' := by
  obtain ⟨ys, s', k1, k2, k3, k4⟩ := cloop_ex (f := compF cf (.con (.bl true)) e j ρ) (J := J) (h := h) (P := P) xs hJ fun b hb s hs => by
    obtain ⟨y, s', k1, k2, k3, k4⟩ := he b hb s hs
    refine ⟨y, s', k1, k2, ?_⟩
    simp only [compF, evE, truC, truD, k4, k3, if_true]
  refine ⟨ys, s', k1, k2, k3, ?_⟩
  rw [comp_def, hit]
  simp only [hx]
  rw [k4]
  simp only [List.length_map, hn, if_true]
end
end Q

set_option maxRecDepth 100000
set_option maxHeartbeats 1000000
namespace Q
open PySem
/-! ### operations that stay within -/
def Clo (n : Nat) (m : Int → Int → Int) : Prop := ∀ x y, 0 ≤ x → x < (n : Int) → 0 ≤ y → y < (n : Int) → 0 ≤ m x y ∧ m x y < (n : Int)
def Clo1 (n k : Nat) (f : Int → Int) : Prop := ∀ x, 0 ≤ x → x < (n : Int) → 0 ≤ f x ∧ f x < (k : Int)
def Asc (n : Nat) (m : Int → Int → Int) : Prop := ∀ x y z, 0 ≤ x → x < (n : Int) → 0 ≤ y → y < (n : Int) → 0 ≤ z → z < (n : Int) → m (m x y) z = m x (m y z)
theorem clo0 {n : Nat} {m : Int → Int → Int} {x y : Int} (h : Clo n m) (x0 : 0 ≤ x) (x1 : x < (n : Int)) (y0 : 0 ≤ y) (y1 : y < (n : Int)) : 0 ≤ m x y := (h x y x0 x1 y0 y1).1
theorem clo1 {n : Nat} {m : Int → Int → Int} {x y : Int} (h : Clo n m) (x0 : 0 ≤ x) (x1 : x < (n : Int)) (y0 : 0 ≤ y) (y1 : y < (n : Int)) : m x y < (n : Int) := (h x y x0 x1 y0 y1).2
theorem clo10 {n k : Nat} {f : Int → Int} {x : Int} (h : Clo1 n k f) (x0 : 0 ≤ x) (x1 : x < (n : Int)) : 0 ≤ f x := (h x x0 x1).1
theorem clo11 {n k : Nat} {f : Int → Int} {x : Int} (h : Clo1 n k f) (x0 : 0 ≤ x) (x1 : x < (n : Int)) : f x < (k : Int) := (h x x0 x1).2
abbrev rowT (n : Nat) (f : Int → Int) : D := .tup ((rng n).map fun y => .int (f y))
abbrev tabT (n : Nat) (m : Int → Int → Int) : D := .tup ((rng n).map fun x => .tup ((rng n).map fun y => .int (m x y)))
abbrev tabL (n : Nat) (m : Int → Int → Int) : D := .lst ((rng n).map fun x => .tup ((rng n).map fun y => .int (m x y)))
/-! ### data: operations -/
section
variable {st : Store}
theorem small_of {n : Nat} (h : n ≤ 1000000) : small n = true := decide_eq_true h
theorem vec_length {β : Type} (n : Nat) (f : Int → β) : (vec n f).length = n := by
  unfold vec
  rw [List.length_map, rng_length]
theorem vec_get {β : Type} {n : Nat} {f : Int → β} {i : Nat} (h : i < n) : (vec n f)[i]? = some (f i) := by
  unfold vec
  rw [List.getElem?_map, rng_get h]
  rfl
theorem vec_succ {β : Type} (n : Nat) (f : Int → β) : vec (n + 1) f = vec n f ++ [f n] := by
  unfold vec
  rw [rng_succ, List.map_append]
  rfl
theorem vec_congr {β : Type} {n : Nat} {f g : Int → β} (h : ∀ i, 0 ≤ i → i < (n : Int) → f i = g i) : vec n f = vec n g :=
  List.map_congr_left fun i hi => h i (rng_mem.mp hi).1 (rng_mem.mp hi).2
theorem vec_inj {β : Type} {n : Nat} {f g : Int → β} (h : vec n f = vec n g) {i : Int} (h0 : 0 ≤ i) (h1 : i < (n : Int)) : f i = g i := by
  have := List.map_inj_left.mp h
  exact this i (rng_mem.mpr ⟨h0, h1⟩)
theorem vec_map {β γ : Type} (n : Nat) (f : Int → β) (g : β → γ) : (vec n f).map g = vec n (fun i => g (f i)) := by
  unfold vec
  rw [List.map_map]
  rfl
theorem vec_set {β : Type} {n : Nat} {f : Int → β} {i : Nat} {v : β} : (vec n f).set i v = vec n (fun j => if j = i then v else f j) := by
  refine List.ext_getElem? fun j => ?_
  rw [List.getElem?_set]
  by_cases hj : j < n
  · rw [vec_get hj, vec_get hj]
    by_cases e : i = j
    · subst e
      simp only [if_true, vec_length, hj]
    · have : ¬ ((j : Int) = i) := by omega
      simp only [if_neg e, if_neg this]
  · have h1 : (vec n f)[j]? = none := by rw [List.getElem?_eq_none_iff, vec_length]; omega
    have h2 : (vec n (fun j => if j = (i : Int) then v else f j))[j]? = none := by rw [List.getElem?_eq_none_iff, vec_length]; omega
    rw [h1, h2]
    by_cases e : i = j
    · subst e
      simp only [if_true, vec_length, hj, if_false]
    · simp only [if_neg e]
theorem of_vec {β : Type} {n : Nat} {xs : List β} [Inhabited β] (h : xs.length = n) : ∃ f, xs = vec n f := by
  refine ⟨fun i => xs[i.toNat]!, List.ext_getElem? fun j => ?_⟩
  by_cases hj : j < n
  · rw [vec_get hj, List.getElem?_eq_getElem (by omega)]
    simp [h, hj]
  · rw [List.getElem?_eq_none_iff.mpr (by omega), List.getElem?_eq_none_iff.mpr (by rw [vec_length]; omega)]
theorem ixOf_in {n : Nat} {i : Int} (h0 : 0 ≤ i) (h1 : i < n) : ixOf n i = some i.toNat := by
  unfold ixOf L2.ixN
  rw [if_pos h0, if_pos h1]
theorem atI_in {β : Type} {xs : List β} {i : Int} {v : β} (h0 : 0 ≤ i) (h : xs[i.toNat]? = some v) : L2.atI xs i = some v := by
  have := L2.atI_nat h
  rw [Int.toNat_of_nonneg h0] at this
  exact this
theorem atI_vec {β : Type} {n : Nat} {f : Int → β} {i : Int} (h0 : 0 ≤ i) (h1 : i < n) : L2.atI (vec n f) i = some (f i) := by
  refine atI_in h0 ?_
  rw [vec_get (by omega), Int.toNat_of_nonneg h0]
theorem ix_vecT {n : Nat} {f : Int → D} {i : Int} (h0 : 0 ≤ i) (h1 : i < (n : Int)) : ixC (.imm (.tup (vec n f))) (.imm (.int i)) st = some (.imm (f i)) := by
  simp only [ixC, ixD, atI_vec h0 h1, Option.map_some]
theorem ix_vecL {n : Nat} {f : Int → D} {i : Int} (h0 : 0 ≤ i) (h1 : i < (n : Int)) : ixC (.imm (.lst (vec n f))) (.imm (.int i)) st = some (.imm (f i)) := by
  simp only [ixC, ixD, atI_vec h0 h1, Option.map_some]
theorem ix_vecB {n : Nat} {f : Int → D} {i : Int} (h0 : 0 ≤ i) (h1 : i < (n : Int)) : ixC (.bor ((vec n f).map .imm)) (.imm (.int i)) st = some (.imm (f i)) := by
  simp only [ixC]
  rw [vec_map, atI_vec h0 h1]
  rfl
theorem ix_vecBB {n : Nat} {f : Int → List Cell} {i : Int} (h0 : 0 ≤ i) (h1 : i < (n : Int)) : ixC (.bor (vec n fun i => .own (f i))) (.imm (.int i)) st = some (.bor (f i)) := by
  simp only [ixC]
  rw [atI_vec h0 h1]
  rfl
theorem ix_T {xs : List D} {i : Int} {d : D} (h0 : 0 ≤ i) (h : xs[i.toNat]? = some d) : ixC (.imm (.tup xs)) (.imm (.int i)) st = some (.imm d) := by
  simp only [ixC, ixD, atI_in h0 h, Option.map_some]
theorem ix_L {xs : List D} {i : Int} {d : D} (h0 : 0 ≤ i) (h : xs[i.toNat]? = some d) : ixC (.imm (.lst xs)) (.imm (.int i)) st = some (.imm d) := by
  simp only [ixC, ixD, atI_in h0 h, Option.map_some]
/-! lengths -/
theorem len_T {xs : List D} {n : Nat} (h : xs.length = n) : biC .len [.imm (.tup xs)] = some (.imm (.int (n : Int))) := by subst h; rfl
theorem len_L {xs : List D} {n : Nat} (h : xs.length = n) : biC .len [.imm (.lst xs)] = some (.imm (.int (n : Int))) := by subst h; rfl
theorem len_O {xs : List Cell} {n : Nat} (h : xs.length = n) : biC .len [.own xs] = some (.imm (.int (n : Int))) := by subst h; rfl
theorem len_B {xs : List Cell} {n : Nat} (h : xs.length = n) : biC .len [.bor xs] = some (.imm (.int (n : Int))) := by subst h; rfl
theorem tup_O {ds : List D} : biC .tuple [.own (ds.map .imm)] = some (.imm (.tup ds)) := by
  show (lstItems (.own (ds.map .imm))).map _ = _
  rw [lstItems_own]
  rfl
theorem tup_B {ds : List D} : biC .tuple [.bor (ds.map .imm)] = some (.imm (.tup ds)) := by
  show (imms (ds.map .imm)).map _ = _
  rw [imms_owns]
  rfl
theorem tup_T {ds : List D} : biC .tuple [.imm (.tup ds)] = some (.imm (.tup ds)) := rfl
theorem tup_L {ds : List D} : biC .tuple [.imm (.lst ds)] = some (.imm (.tup ds)) := rfl
theorem list_O {ds : List D} : biC .list [.own (ds.map .imm)] = some (.own (ds.map .imm)) := by
  show (imms (ds.map .imm)).map _ = _
  rw [imms_owns]
  rfl
theorem list_B {ds : List D} : biC .list [.bor (ds.map .imm)] = some (.own (ds.map .imm)) := by
  show (imms (ds.map .imm)).map _ = _
  rw [imms_owns]
  rfl
theorem list_T {ds : List D} : biC .list [.imm (.tup ds)] = some (.own (ds.map .imm)) := rfl
theorem list_L {ds : List D} : biC .list [.imm (.lst ds)] = some (.own (ds.map .imm)) := rfl
theorem bools_map {β : Type} (xs : List β) (p : β → Bool) : bools (xs.map fun b => .bl (p b)) = some (xs.map p) := by
  induction xs with
  | nil => rfl
  | cons b xs ih => simp only [List.map_cons, bools, ih, Option.map_some]
theorem all_O {β : Type} {xs : List β} {p : β → Bool} : biC .all [.own ((xs.map fun b => .bl (p b)).map .imm)] = some (.imm (.bl (xs.all p))) := by
  show ((lstItems (.own _)).bind bools).map _ = _
  rw [lstItems_own, Option.bind_some, bools_map, Option.map_some]
  simp only [List.all_map]
  rfl
theorem any_O {β : Type} {xs : List β} {p : β → Bool} : biC .any [.own ((xs.map fun b => .bl (p b)).map .imm)] = some (.imm (.bl (xs.any p))) := by
  show ((lstItems (.own _)).bind bools).map _ = _
  rw [lstItems_own, Option.bind_some, bools_map, Option.map_some]
  simp only [List.any_map]
  rfl
/-! truth -/
theorem tru_B {b : Bool} : truC (.imm (.bl b)) = some b := rfl
theorem tru_I {i : Int} : truC (.imm (.int i)) = some (i != 0) := rfl
/-! keeping, handing over -/
theorem keep_own (ds : List D) : keepC (.own (ds.map .imm)) = some (.lst ds) := by
  simp only [keepC, keepAll_imms]
theorem keep_ownA (ds : List D) (d : D) : keepC (.own (ds.map .imm ++ [.imm d])) = some (.lst (ds ++ [d])) := by
  have := keep_own (ds ++ [d])
  rw [List.map_append] at this
  exact this
theorem keepAll_nil : keepAll [] = some [] := rfl
theorem keepAll_cons {c : Cell} {cs : List Cell} {d : D} {ds : List D} (h : keepC c = some d) (hs : keepAll cs = some ds) : keepAll (c :: cs) = some (d :: ds) := by simp only [keepAll, h, hs]
theorem keepAll_map {β : Type} {xs : List β} {f : β → Cell} {g : β → D} (h : ∀ b ∈ xs, keepC (f b) = some (g b)) : keepAll (xs.map f) = some (xs.map g) := by
  induction xs with
  | nil => rfl
  | cons b xs ih => simp only [List.map_cons, keepAll, h b List.mem_cons_self, ih fun b hb => h b (List.mem_cons_of_mem _ hb)]
theorem keep_ownM {β : Type} {xs : List β} {f : β → Cell} {g : β → D} (h : ∀ b ∈ xs, keepC (f b) = some (g b)) : keepC (.own (xs.map f)) = some (.lst (xs.map g)) := by simp only [keepC, keepAll_map h]
theorem pass_nil : passAll [] = some [] := rfl
theorem pass_cons {c c' : Cell} {cs cs' : List Cell} (h : passC c = some c') (hs : passAll cs = some cs') : passAll (c :: cs) = some (c' :: cs') := by simp only [passAll, h, hs]
theorem pass_imm {d : D} : passC (.imm d) = some (.imm d) := rfl
theorem pass_bor {cs : List Cell} : passC (.bor cs) = some (.bor cs) := rfl
theorem pass_own {cs : List Cell} {d : D} (h : keepC (.own cs) = some d) : passC (.own cs) = some (.imm d) := by
  simp only [passC, h]
theorem keep_imm {d : D} : keepC (.imm d) = some d := rfl
theorem vecm_length {β γ : Type} {n : Nat} {f : Int → β} {g : β → γ} : ((vec n f).map g).length = n := by rw [List.length_map, vec_length]
theorem int_I {i : Int} : biC .int [.imm (.int i)] = some (.imm (.int i)) := rfl
theorem int_B {b : Bool} : biC .int [.imm (.bl b)] = some (.imm (.int (if b then 1 else 0))) := rfl
theorem min2_I {i j : Int} : biC .min2 [.imm (.int i), .imm (.int j)] = some (.imm (.int (if j < i then j else i))) := rfl
theorem max2_I {i j : Int} : biC .max2 [.imm (.int i), .imm (.int j)] = some (.imm (.int (if j > i then j else i))) := rfl
theorem keep_ownE {cs : List Cell} {ds : List D} (h : keepAll cs = some ds) : keepC (.own cs) = some (.lst ds) := by simp only [keepC, h]
/-! operators -/
theorem b_add {i j : Int} : binC .add (.imm (.int i)) (.imm (.int j)) = some (.imm (.int (i + j))) := rfl
theorem b_sub {i j : Int} : binC .sub (.imm (.int i)) (.imm (.int j)) = some (.imm (.int (i - j))) := rfl
theorem b_mul {i j : Int} (h : bitsOk i j = true) : binC .mul (.imm (.int i)) (.imm (.int j)) = some (.imm (.int (i * j))) := by
  simp only [binC, lstItems, viaD, Cell.dat, bopD, h, if_true, Option.map_some]
theorem bits_of {i j : Int} (h1 : -1000000000000 < i) (h2 : i < 1000000000000) (h3 : -1000000000000 < j) (h4 : j < 1000000000000) : bitsOk i j = true :=
  bits_ok (A := 40) (B := 40) (by omega) (by omega) (by decide) (by decide) (by decide)
theorem b_fdiv {i j : Int} (h : 0 < j) (h2 : j < 1000000000000) : binC .fdiv (.imm (.int i)) (.imm (.int j)) = some (.imm (.int (i / j))) := by
  have hlog : j.natAbs.log2 < 9000 := Nat.lt_trans (log2_lt (B := 40) (show j.natAbs < 2 ^ 40 by omega) (by decide)) (by decide)
  simp only [binC, viaD, Cell.dat, bopD, h, hlog, and_self, if_true, Option.map_some]
theorem b_mod {i j : Int} (h : 0 < j) : binC .mod (.imm (.int i)) (.imm (.int j)) = some (.imm (.int (i % j))) := by
  simp only [binC, viaD, Cell.dat, bopD, h, if_true, Option.map_some]
theorem b_lt {i j : Int} : binC .lt (.imm (.int i)) (.imm (.int j)) = some (.imm (.bl (decide (i < j)))) := rfl
theorem b_le {i j : Int} : binC .le (.imm (.int i)) (.imm (.int j)) = some (.imm (.bl (decide (i ≤ j)))) := rfl
theorem b_gt {i j : Int} : binC .gt (.imm (.int i)) (.imm (.int j)) = some (.imm (.bl (decide (j < i)))) := rfl
theorem b_ge {i j : Int} : binC .ge (.imm (.int i)) (.imm (.int j)) = some (.imm (.bl (decide (j ≤ i)))) := rfl
theorem b_eqI {i j : Int} : binC .eq (.imm (.int i)) (.imm (.int j)) = some (.imm (.bl (decide (i = j)))) := by
  simp only [binC, viaD, Cell.dat, bopD, eqD_int, Option.map_some]
theorem b_neI {i j : Int} : binC .ne (.imm (.int i)) (.imm (.int j)) = some (.imm (.bl (!decide (i = j)))) := by
  simp only [binC, viaD, Cell.dat, bopD, eqD_int, Option.map_some]
theorem eqD_N {x y : D} (hx : okN 4 x = true) (hy : okN 4 y = true) : eqD x y = some (eqN 4 x y) := by
  rw [← eqX_eq]
  unfold eqX
  rw [hx, hy]
  rfl
theorem b_eqN {x y : Cell} {d e : D} (hd : x.dat = some d) (he : y.dat = some e) (hx : okN 4 d = true) (hy : okN 4 e = true) : binC .eq x y = some (.imm (.bl (eqN 4 d e))) := by
  simp only [binC, viaD, hd, he, bopD, eqD_N hx hy, Option.map_some]
theorem b_neN {x y : Cell} {d e : D} (hd : x.dat = some d) (he : y.dat = some e) (hx : okN 4 d = true) (hy : okN 4 e = true) : binC .ne x y = some (.imm (.bl (!eqN 4 d e))) := by
  simp only [binC, viaD, hd, he, bopD, eqD_N hx hy, Option.map_some]
theorem b_isN {x : Cell} {d : D} (hd : x.dat = some d) : binC .is_ x (.imm .non) = some (.imm (.bl (isNone d))) := by
  simp only [binC, viaD, hd, Cell.dat, bopD, Option.map_some]
theorem b_isnotN {x : Cell} {d : D} (hd : x.dat = some d) : binC .isnot x (.imm .non) = some (.imm (.bl (!isNone d))) := by
  simp only [binC, viaD, hd, Cell.dat, bopD, Option.map_some]
theorem b_isB {a b : Bool} : binC .is_ (.imm (.bl a)) (.imm (.bl b)) = some (.imm (.bl (a == b))) := rfl
theorem b_isnotB {a b : Bool} : binC .isnot (.imm (.bl a)) (.imm (.bl b)) = some (.imm (.bl (!(a == b)))) := rfl
theorem rep_vec {β : Type} (d : β) : ∀ n : Nat, (List.replicate n [d]).flatten = vec n fun _ => d
  | 0 => rfl
  | n + 1 => by
    rw [List.replicate_succ', List.flatten_append, rep_vec d n, vec_succ]
    rfl
theorem b_repT {d : D} {k : Int} (h1 : 1 ≤ k) (h2 : k ≤ 1000) : binC .mul (.imm (.tup [d])) (.imm (.int k)) = some (.imm (.tup (vec k.toNat fun _ => d))) := by
  have h : 1 ≤ k ∧ k ≤ 1000 ∧ [d].length ≤ 1000 ∧ [d].isEmpty = false := ⟨h1, h2, (by simp : 1 ≤ 1000), rfl⟩
  simp only [binC, lstItems, viaD, Cell.dat, bopD, if_pos h, Option.map_some, rep_vec]
theorem b_repS {s : Str} {k : Int} (h1 : 1 ≤ k) (h2 : k ≤ 1000) (h3 : s.length ≤ 1000) : binC .mul (.imm (.str s)) (.imm (.int k)) = some (.imm (.str ⟨(List.replicate k.toNat s.cps).foldl (· ++ ·) #[]⟩)) := by
  have h : 1 ≤ k ∧ k ≤ 1000 ∧ s.length ≤ 1000 := ⟨h1, h2, h3⟩
  simp only [binC, lstItems, viaD, Cell.dat, bopD, if_pos h, Option.map_some]
theorem b_addL {x y : Cell} {a b : List D} (hx : lstItems x = some a) (hy : lstItems y = some b) (h : a.length + b.length ≤ 1000000) : binC .add x y = some (.own ((a ++ b).map .imm)) := by
  simp only [binC, hx, hy, small_of h, if_true]
  rfl
theorem b_addT {a b : List D} (h : a.length + b.length ≤ 1000000) : binC .add (.imm (.tup a)) (.imm (.tup b)) = some (.imm (.tup (a ++ b))) := by
  simp only [binC, lstItems, viaD, Cell.dat, bopD, small_of h, if_true, Option.map_some]
theorem lst_imm {a : List D} : lstItems (.imm (.lst a)) = some a := rfl
theorem lst_own {a : List D} : lstItems (.own (a.map .imm)) = some a := imms_owns a
theorem lst_bor {a : List D} : lstItems (.bor (a.map .imm)) = some a := imms_owns a
theorem dat_imm {d : D} : (Cell.imm d).dat = some d := rfl
theorem dats_imms : ∀ ds : List D, Cell.dats (ds.map .imm) = some ds
  | [] => rfl
  | d :: ds => by simp only [List.map_cons, Cell.dats, Cell.dat, dats_imms ds]
theorem dat_own {ds : List D} : (Cell.own (ds.map .imm)).dat = some (.lst ds) := by simp only [Cell.dat, dats_imms]
theorem dat_bor {ds : List D} : (Cell.bor (ds.map .imm)).dat = some (.lst ds) := by simp only [Cell.dat, dats_imms]
/-! == of data -/
theorem okN_up : ∀ {n m : Nat} {x : D}, n ≤ m → okN n x = true → okN m x = true := by
  intro n
  induction n with
  | zero =>
    intro m x _ h
    cases m with
    | zero => exact h
    | succ m => cases x <;> first | exact h | (cases h; done)
  | succ n ih =>
    intro m x hm h
    cases m with
    | zero => omega
    | succ m =>
      cases x <;> first | exact h | skip
      · simp only [okN, List.all_eq_true] at h ⊢
        exact fun y hy => ih (by omega) (h y hy)
      · simp only [okN, List.all_eq_true] at h ⊢
        exact fun y hy => ih (by omega) (h y hy)
-- data without truth values: == is =
def nice : Nat → D → Bool
  | 0, x => match x with
    | .non => true
    | .int _ => true
    | .str s => PyData.strOk s
    | _ => false
  | n + 1, x => match x with
    | .non => true
    | .int _ => true
    | .str s => PyData.strOk s
    | .tup xs => xs.all (nice n)
    | .lst xs => xs.all (nice n)
    | _ => false
theorem nice_ok : ∀ {n : Nat} {x : D}, nice n x = true → okN n x = true := by
  intro n
  induction n with
  | zero => intro x h; cases x <;> first | exact h | (cases h; done)
  | succ n ih =>
    intro x h
    cases x <;> first | exact h | (cases h; done) | skip
    · simp only [nice, okN, List.all_eq_true] at h ⊢
      exact fun y hy => ih (h y hy)
    · simp only [nice, okN, List.all_eq_true] at h ⊢
      exact fun y hy => ih (h y hy)
theorem eq0_iff {x y : D} (hx : nice 0 x = true) (hy : ∀ b, y ≠ .bl b) : eq0 x y = true ↔ x = y := by
  cases x <;> cases y <;> simp_all [eq0, nice]
theorem all2_iff {f : D → D → Bool} : ∀ {xs ys : List D}, (∀ x ∈ xs, ∀ y ∈ ys, f x y = true ↔ x = y) → (all2 f xs ys = true ↔ xs = ys)
  | [], [], _ => by simp [all2]
  | [], _ :: _, _ => by simp [all2]
  | _ :: _, [], _ => by simp [all2]
  | x :: xs, y :: ys, h => by
    simp only [all2, Bool.and_eq_true, List.cons.injEq]
    rw [h x List.mem_cons_self y List.mem_cons_self, all2_iff fun a ha b hb => h a (List.mem_cons_of_mem _ ha) b (List.mem_cons_of_mem _ hb)]
theorem eqN_iff : ∀ {n : Nat} {x y : D}, nice n x = true → nice n y = true → (eqN n x y = true ↔ x = y) := by
  intro n
  induction n with
  | zero =>
    intro x y hx hy
    exact eq0_iff hx fun b e => by subst e; cases hy
  | succ n ih =>
    intro x y hx hy
    have nb : ∀ b, y ≠ .bl b := fun b e => by subst e; cases hy
    cases x with
    | tup xs =>
      cases y with
      | tup ys =>
        simp only [nice, List.all_eq_true] at hx hy
        simp only [eqN, D.tup.injEq]
        exact all2_iff fun a ha b hb => ih (hx a ha) (hy b hb)
      | _ => simp [eqN]
    | lst xs =>
      cases y with
      | lst ys =>
        simp only [nice, List.all_eq_true] at hx hy
        simp only [eqN, D.lst.injEq]
        exact all2_iff fun a ha b hb => ih (hx a ha) (hy b hb)
      | _ => simp [eqN]
    | non => exact (eq0_iff (x := .non) rfl nb)
    | int i => exact (eq0_iff (x := .int i) rfl nb)
    | str s => exact (eq0_iff (x := .str s) hx nb)
    | bl b => cases hx
    | scr _ => cases hx
    | ins _ _ => cases hx
    | sref _ => cases hx
theorem nice_int {n : Nat} {i : Int} : nice n (.int i) = true := by cases n <;> rfl
theorem nice_non {n : Nat} : nice n .non = true := by cases n <;> rfl
theorem nice_tup {n : Nat} {β : Type} {xs : List β} {f : β → D} (h : ∀ b ∈ xs, nice n (f b) = true) : nice (n + 1) (.tup (xs.map f)) = true := by
  simp only [nice, List.all_map, List.all_eq_true]
  exact fun b hb => h b hb
theorem nice_lst {n : Nat} {β : Type} {xs : List β} {f : β → D} (h : ∀ b ∈ xs, nice n (f b) = true) : nice (n + 1) (.lst (xs.map f)) = true := by
  simp only [nice, List.all_map, List.all_eq_true]
  exact fun b hb => h b hb
theorem nice_ints {n : Nat} {β : Type} {xs : List β} {f : β → Int} : nice (n + 1) (.tup (xs.map fun b => .int (f b))) = true := nice_tup fun _ _ => nice_int
theorem nice_tab {n : Nat} {β γ : Type} {xs : List β} {ys : β → List γ} {f : β → γ → Int} : nice (n + 2) (.tup (xs.map fun b => .tup ((ys b).map fun c => .int (f b c)))) = true := nice_tup fun _ _ => nice_ints
theorem nice_tabL {n : Nat} {β γ : Type} {xs : List β} {ys : β → List γ} {f : β → γ → Int} : nice (n + 2) (.lst (xs.map fun b => .tup ((ys b).map fun c => .int (f b c)))) = true := nice_lst fun _ _ => nice_ints
theorem eq_str {n : Nat} {x : D} {s : Str} (h : ∀ t, x ≠ .str t) : eqN n x (.str s) = false := by
  cases n <;> cases x <;> first | rfl | exact absurd rfl (h _)
/-! one among data, its place -/
theorem pys_any {n : Nat} {x : D} {p : PyData} (hx : okN n x = true) (hp : D.py x = some p) : ∀ {ys : List D} {ps : List PyData}, ys.all (okN n) = true → D.pys ys = some ps → ps.any (fun z => PyData.eqv z p) = ys.any fun y => eqN n y x
  | [], ps, _, h => by cases h; rfl
  | y :: ys, ps, ho, h => by
    rw [List.all_cons, Bool.and_eq_true] at ho
    simp only [D.pys] at h
    cases e1 : D.py y with
    | none => rw [e1] at h; cases h
    | some q =>
      cases e2 : D.pys ys with
      | none => rw [e1, e2] at h; cases h
      | some qs =>
        rw [e1, e2] at h
        cases h
        rw [List.any_cons, List.any_cons, pys_any hx hp ho.2 e2, eqN_ok ho.1 hx e1 hp]
theorem pys_ix {n : Nat} {x : D} {p : PyData} (hx : okN n x = true) (hp : D.py x = some p) : ∀ {ys : List D} {ps : List PyData}, ys.all (okN n) = true → D.pys ys = some ps → findIx (fun z => PyData.eqv z p) ps = ys.findIdx? fun y => eqN n y x
  | [], ps, _, h => by cases h; rfl
  | y :: ys, ps, ho, h => by
    rw [List.all_cons, Bool.and_eq_true] at ho
    simp only [D.pys] at h
    cases e1 : D.py y with
    | none => rw [e1] at h; cases h
    | some q =>
      cases e2 : D.pys ys with
      | none => rw [e1, e2] at h; cases h
      | some qs =>
        rw [e1, e2] at h
        cases h
        rw [findIx, List.findIdx?_cons, pys_ix hx hp ho.2 e2, eqN_ok ho.1 hx e1 hp]
theorem shaped_of {n : Nat} {x : D} {p : PyData} (hn : n ≤ 64) (h : NOk n x p) : SeqAt.shaped p = true := by
  obtain ⟨_, h2, h3⟩ := h
  unfold SeqAt.shaped
  rw [h2, decide_eq_true (by omega)]
  rfl
theorem memD_N {x : D} {ys : List D} (hx : okN 4 x = true) (hy : ys.all (okN 4) = true) : memD x ys = some (ys.any fun y => eqN 4 y x) := by
  obtain ⟨p, h1⟩ := nok hx
  obtain ⟨q, k1⟩ := nok (n := 5) (x := .lst ys) hy
  have e2 : ∃ ps, D.pys ys = some ps ∧ q = .list ps := by
    have := k1.1
    simp only [D.py] at this
    cases e : D.pys ys with
    | none => rw [e] at this; cases this
    | some ps => rw [e] at this; cases this; exact ⟨ps, rfl, rfl⟩
  obtain ⟨ps, e2, rfl⟩ := e2
  unfold memD
  rw [h1.1, e2]
  simp only [shaped_of (by decide) h1, shaped_of (by decide) k1, Bool.and_self, if_true]
  rw [pys_any hx h1.1 hy e2]
theorem indexD_N {x : D} {ys : List D} (hx : okN 4 x = true) (hy : ys.all (okN 4) = true) : indexD ys x = ys.findIdx? fun y => eqN 4 y x := by
  obtain ⟨p, h1⟩ := nok hx
  obtain ⟨q, k1⟩ := nok (n := 5) (x := .lst ys) hy
  have e2 : ∃ ps, D.pys ys = some ps ∧ q = .list ps := by
    have := k1.1
    simp only [D.py] at this
    cases e : D.pys ys with
    | none => rw [e] at this; cases this
    | some ps => rw [e] at this; cases this; exact ⟨ps, rfl, rfl⟩
  obtain ⟨ps, e2, rfl⟩ := e2
  unfold indexD
  rw [h1.1, e2]
  simp only [shaped_of (by decide) h1, shaped_of (by decide) k1, Bool.and_self, if_true]
  rw [pys_ix hx h1.1 hy e2]
theorem flat_eq {x y : D} (hx : flatD x = true) (hy : flatD y = true) (ox : okN 4 x = true) (oy : okN 4 y = true) : eqF y x = eqN 4 y x := by
  cases x <;> first | (cases hx; done) | skip
  all_goals cases y <;> first | (cases hy; done) | skip
  all_goals first | rfl | skip
  all_goals simp [eqF, eqV, D.toV, eqN, eq0]
theorem b_inL {x y : Cell} {d : D} {ys : List D} (hx : x.dat = some d) (hy : y.dat = some (.lst ys)) (h1 : okN 4 d = true) (h2 : ys.all (okN 4) = true) : binC .in_ x y = some (.imm (.bl (ys.any fun y => eqN 4 y d))) := by
  simp only [binC, viaD, hx, hy, bopD]
  split
  · rename_i h
    rw [Bool.and_eq_true, List.all_eq_true] at h
    rw [List.all_eq_true] at h2
    have : memF d ys = ys.any fun y => eqN 4 y d := by
      unfold memF
      rw [Bool.eq_iff_iff, List.any_eq_true, List.any_eq_true]
      exact ⟨fun ⟨y, hy, e⟩ => ⟨y, hy, by rw [← flat_eq h.1 (h.2 y hy) h1 (h2 y hy)]; exact e⟩, fun ⟨y, hy, e⟩ => ⟨y, hy, by rw [flat_eq h.1 (h.2 y hy) h1 (h2 y hy)]; exact e⟩⟩
    rw [this]
    rfl
  · rw [memD_N h1 h2]
    rfl
theorem b_notinL {x y : Cell} {d : D} {ys : List D} (hx : x.dat = some d) (hy : y.dat = some (.lst ys)) (h1 : okN 4 d = true) (h2 : ys.all (okN 4) = true) : binC .notin x y = some (.imm (.bl (!ys.any fun y => eqN 4 y d))) := by
  simp only [binC, viaD, hx, hy, bopD]
  split
  · rename_i h
    rw [Bool.and_eq_true, List.all_eq_true] at h
    rw [List.all_eq_true] at h2
    have : memF d ys = ys.any fun y => eqN 4 y d := by
      unfold memF
      rw [Bool.eq_iff_iff, List.any_eq_true, List.any_eq_true]
      exact ⟨fun ⟨y, hy, e⟩ => ⟨y, hy, by rw [← flat_eq h.1 (h.2 y hy) h1 (h2 y hy)]; exact e⟩, fun ⟨y, hy, e⟩ => ⟨y, hy, by rw [flat_eq h.1 (h.2 y hy) h1 (h2 y hy)]; exact e⟩⟩
    rw [this]
    rfl
  · rw [memD_N h1 h2]
    rfl
theorem b_inT {x y : Cell} {d : D} {ys : List D} (hx : x.dat = some d) (hy : y.dat = some (.tup ys)) (h1 : okN 4 d = true) (h2 : ys.all (okN 4) = true) : binC .in_ x y = some (.imm (.bl (ys.any fun y => eqN 4 y d))) := by
  simp only [binC, viaD, hx, hy, bopD]
  split
  · rename_i h
    rw [Bool.and_eq_true, List.all_eq_true] at h
    rw [List.all_eq_true] at h2
    have : memF d ys = ys.any fun y => eqN 4 y d := by
      unfold memF
      rw [Bool.eq_iff_iff, List.any_eq_true, List.any_eq_true]
      exact ⟨fun ⟨y, hy, e⟩ => ⟨y, hy, by rw [← flat_eq h.1 (h.2 y hy) h1 (h2 y hy)]; exact e⟩, fun ⟨y, hy, e⟩ => ⟨y, hy, by rw [flat_eq h.1 (h.2 y hy) h1 (h2 y hy)]; exact e⟩⟩
    rw [this]
    rfl
  · rw [memD_N h1 h2]
    rfl
theorem b_notinT {x y : Cell} {d : D} {ys : List D} (hx : x.dat = some d) (hy : y.dat = some (.tup ys)) (h1 : okN 4 d = true) (h2 : ys.all (okN 4) = true) : binC .notin x y = some (.imm (.bl (!ys.any fun y => eqN 4 y d))) := by
  simp only [binC, viaD, hx, hy, bopD]
  split
  · rename_i h
    rw [Bool.and_eq_true, List.all_eq_true] at h
    rw [List.all_eq_true] at h2
    have : memF d ys = ys.any fun y => eqN 4 y d := by
      unfold memF
      rw [Bool.eq_iff_iff, List.any_eq_true, List.any_eq_true]
      exact ⟨fun ⟨y, hy, e⟩ => ⟨y, hy, by rw [← flat_eq h.1 (h.2 y hy) h1 (h2 y hy)]; exact e⟩, fun ⟨y, hy, e⟩ => ⟨y, hy, by rw [flat_eq h.1 (h.2 y hy) h1 (h2 y hy)]; exact e⟩⟩
    rw [this]
    rfl
  · rw [memD_N h1 h2]
    rfl
end
end Q

set_option maxRecDepth 100000
set_option maxHeartbeats 1000000
namespace Q
open PySem
section
variable {cf : CF} {ρ : Ev} {st s1 s2 s3 : Store} {a b c e : IE} {x y z : Cell}
-- over the numbers below n
theorem ev_compV {n : Nat} {h g : Int → D} {j : Nat} {it : IE} (hit : evE cf it ρ st = .ok x s1) (hx : iterC x = some ((vec n h).map .imm)) (hn : n ≤ 1000000)
    (he : ∀ i, 0 ≤ i → i < (n : Int) → evE cf e (ρ.set j (.imm (h i))) s1 = .ok (.imm (g i)) s1) :
    evE cf (.comp j it (.con (.bl true)) e) ρ st = .ok (.own ((vec n g).map .imm)) s1 :=
  ev_compD hit hx (small_of (by rw [rng_length]; exact hn)) fun i hi => he i (rng_mem.mp hi).1 (rng_mem.mp hi).2
theorem ev_compVC {n : Nat} {h : Int → D} {g : Int → Cell} {j : Nat} {it : IE} (hit : evE cf it ρ st = .ok x s1) (hx : iterC x = some ((vec n h).map .imm)) (hn : n ≤ 1000000)
    (he : ∀ i, 0 ≤ i → i < (n : Int) → evE cf e (ρ.set j (.imm (h i))) s1 = .ok (g i) s1) (ho : ∀ i, ownable (g i) = true) :
    evE cf (.comp j it (.con (.bl true)) e) ρ st = .ok (.own (vec n g)) s1 :=
  ev_comp hit hx (small_of (by rw [rng_length]; exact hn)) (fun i hi => he i (rng_mem.mp hi).1 (rng_mem.mp hi).2) ho
theorem ev_compFV {n : Nat} {h g : Int → D} {p : Int → Bool} {j : Nat} {it : IE} (hit : evE cf it ρ st = .ok x s1) (hx : iterC x = some ((vec n h).map .imm)) (hn : n ≤ 1000000)
    (hc : ∀ i, 0 ≤ i → i < (n : Int) → evE cf c (ρ.set j (.imm (h i))) s1 = .ok (.imm (.bl (p i))) s1)
    (he : ∀ i, 0 ≤ i → i < (n : Int) → p i = true → evE cf e (ρ.set j (.imm (h i))) s1 = .ok (.imm (g i)) s1) :
    evE cf (.comp j it c e) ρ st = .ok (.own ((((rng n).filter p).map g).map .imm)) s1 :=
  ev_compFD hit hx (small_of (by rw [rng_length]; exact hn)) (fun i hi => hc i (rng_mem.mp hi).1 (rng_mem.mp hi).2) (fun i hi => he i (rng_mem.mp hi).1 (rng_mem.mp hi).2)
theorem app_vec {n : Nat} {f : Int → D} {d : D} (h : d = f (n : Int)) : (vec n f).map Cell.imm ++ [.imm d] = (vec (n + 1) f).map .imm := by
  rw [vec_succ, List.map_append, h]
  rfl
theorem wp_setV {W : Nat} {K : Wish} {i : Nat} {a e : IE} {n : Nat} {f : Int → D} {d : D} {k : Int} (hi : ρ[i]? = some (.own ((vec n f).map .imm))) (he : evE cf e ρ st = .ok (.imm d) s1) (ha : evE cf a ρ s1 = .ok (.imm (.int k)) s2) (k0 : 0 ≤ k) (k1 : k < (n : Int)) (h : K.N (ρ.set i (.own ((vec n fun j => if j = k then d else f j).map .imm))) s2) : (evS cf W (.set i a e) ρ st).wp K := by
  have hk : ((k.toNat : Nat) : Int) = k := Int.toNat_of_nonneg k0
  refine wp_set hi he ha (ixOf_in k0 (by rw [List.length_map, vec_length]; exact k1)) rfl ?_
  rw [← List.map_set, vec_set, hk]
  exact h
theorem wp_set2V {W : Nat} {K : Wish} {i : Nat} {a b e : IE} {n n2 : Nat} {g : Int → Int → D} {d : D} {k l : Int} {s3 : Store} (hi : ρ[i]? = some (.own (vec n fun x => .own ((vec n2 fun y => g x y).map .imm)))) (he : evE cf e ρ st = .ok (.imm d) s1) (ha : evE cf a ρ s1 = .ok (.imm (.int k)) s2) (hb : evE cf b ρ s2 = .ok (.imm (.int l)) s3) (k0 : 0 ≤ k) (k1 : k < (n : Int)) (l0 : 0 ≤ l) (l1 : l < (n2 : Int)) (h : K.N (ρ.set i (.own (vec n fun x => .own ((vec n2 fun y => if x = k ∧ y = l then d else g x y).map .imm)))) s3) : (evS cf W (.set2 i a b e) ρ st).wp K := by
  have hk : ((k.toNat : Nat) : Int) = k := Int.toNat_of_nonneg k0
  have hl : ((l.toNat : Nat) : Int) = l := Int.toNat_of_nonneg l0
  refine wp_set2 hi he ha (j := k.toNat) (m := l.toNat) (ds := (vec n2 fun y => g k y).map .imm) (ixOf_in k0 (by rw [vec_length]; exact k1)) (by rw [vec_get (by omega), hk]) hb (ixOf_in l0 (by rw [List.length_map, vec_length]; exact l1)) rfl ?_
  rw [← List.map_set, vec_set, vec_set, hk, hl]
  have : (vec n fun j => if j = k then Cell.own (List.map Cell.imm (vec n2 fun j => if j = l then d else g k j)) else Cell.own ((vec n2 fun y => g j y).map .imm)) = vec n fun x => Cell.own ((vec n2 fun y => if x = k ∧ y = l then d else g x y).map .imm) := by
    refine vec_congr fun x _ _ => ?_
    by_cases e : x = k
    · subst e
      simp only [if_true, true_and]
    · simp only [if_neg e, e, false_and, if_false]
  rw [this]
  exact h
theorem ev_to (h : evE cf e ρ st = .ok x s1) (hx : x = y) : evE cf e ρ st = .ok y s1 := hx ▸ h
theorem it_own {n : Nat} {h : Int → D} : iterC (.own ((vec n h).map .imm)) = some ((vec n h).map .imm) := iterC_own _
theorem it_bor {n : Nat} {h : Int → D} : iterC (.bor ((vec n h).map .imm)) = some ((vec n h).map .imm) := iterC_bor _
theorem it_tup {n : Nat} {h : Int → D} : iterC (.imm (.tup (vec n h))) = some ((vec n h).map .imm) := rfl
theorem it_lst {n : Nat} {h : Int → D} : iterC (.imm (.lst (vec n h))) = some ((vec n h).map .imm) := rfl
theorem walk_tup {it : IE} {ds : List D} : walkC it ρ (.imm (.tup ds)) = some ds := rfl
theorem walk_lst {it : IE} {ds : List D} : walkC it ρ (.imm (.lst ds)) = some ds := rfl
theorem walk_own (ρ : Ev) (it : IE) (ds : List D) : walkC it ρ (.own (ds.map .imm)) = some ds := by
  show keepAll _ = _
  exact keepAll_imms ds
/-! ### loops: the names that a loop changes; all others stand -/
def setG (ρ : Ev) (js : List Nat) (g : Nat → Cell) : Ev := js.foldl (fun r j => r.set j (g j)) ρ
def Out' (ρ : Ev) (js : List Nat) (ρ' : Ev) : Prop := ρ' = setG ρ js fun j => ρ'.getD j .undef
theorem setG_self : ∀ (js : List Nat) (ρ : Ev), setG ρ js (fun j => ρ.getD j .undef) = ρ := by
  have key : ∀ (js : List Nat) (ρ τ : Ev), (∀ j, j < τ.length → ρ.getD j .undef = τ.getD j .undef) → setG τ js (fun j => ρ.getD j .undef) = τ := by
    intro js
    induction js with
    | nil => intro ρ τ _; rfl
    | cons j js ih =>
      intro ρ τ h
      show setG (τ.set j (ρ.getD j .undef)) js _ = τ
      have e : τ.set j (ρ.getD j .undef) = τ := by
        by_cases q : j < τ.length
        · rw [h j q]
          refine List.ext_getElem? fun i => ?_
          by_cases z : j = i
          · subst z
            rw [List.getElem?_set_self q, List.getD_eq_getElem?_getD, List.getElem?_eq_getElem q]
            rfl
          · rw [List.getElem?_set_ne z]
        · exact List.set_eq_of_length_le (by omega)
      rw [e]
      exact ih ρ τ h
  exact fun js ρ => key js ρ ρ fun _ _ => rfl
theorem setG_app (ρ : Ev) (js : List Nat) (a : Nat) (g : Nat → Cell) : setG ρ (js ++ [a]) g = (setG ρ js g).set a (g a) := by
  unfold setG
  rw [List.foldl_append]
  rfl
theorem out_set {ρ ρ' : Ev} {js : List Nat} {a : Nat} (h : Out' ρ (js ++ [a]) ρ') : ρ' = (setG ρ js fun j => ρ'.getD j .undef).set a (ρ'.getD a .undef) := h.trans (setG_app ρ js a fun j => ρ'.getD j .undef)
theorem out_set2 {ρ ρ' : Ev} {js : List Nat} {a b : Nat} (h : Out' ρ (js ++ [a] ++ [b]) ρ') : ρ' = ((setG ρ js fun j => ρ'.getD j .undef).set a (ρ'.getD a .undef)).set b (ρ'.getD b .undef) := by
  have e := h.trans (setG_app ρ (js ++ [a]) b fun j => ρ'.getD j .undef)
  rw [setG_app] at e
  exact e
theorem set_self (ρ : Ev) (a : Nat) : ρ.set a (ρ.getD a .undef) = ρ := setG_self [a] ρ
section
variable {W : Nat} {K : Wish}
-- a loop that changes the names js alone, and the name a, of which I tells
theorem wp_forL1 {j a : Nat} {it : IE} {b : IS} {x : Cell} {α : Type} {xs : List α} {f : α → D} (js : List Nat) (I : List α → Cell → Store → Prop) (hit : evE cf it ρ st = .ok x s1) (hw : walkC it ρ x = some (xs.map f)) (h0 : I [] (ρ.getD a .undef) s1)
    (hs : ∀ ys z zs c g s, xs = ys ++ z :: zs → I ys c s → (evS cf W b (((setG ρ js g).set a c).set j (.imm (f z))) s).wp ⟨fun ρ' s' => Out' ρ (js ++ [a]) ρ' ∧ I (ys ++ [z]) (ρ'.getD a .undef) s', K.R, fun _ _ => False, fun ρ' s' => Out' ρ (js ++ [a]) ρ' ∧ I (ys ++ [z]) (ρ'.getD a .undef) s', K.X⟩)
    (hn : ∀ c g s, I xs c s → K.N ((setG ρ js g).set a c) s) : (evS cf W (.for_ j it b) ρ st).wp K := by
  refine wp_forL (fun ys ρ' s => ∃ g c, ρ' = (setG ρ js g).set a c ∧ I ys c s) hit hw ⟨_, _, by rw [setG_self js ρ, set_self], h0⟩ ?_ ?_
  · rintro ys z zs _ s e ⟨g, c, rfl, h⟩
    refine Out.wp_mono (hs ys z zs c g s e h) ?_ (fun _ _ h => h) (fun _ _ h => h.elim) ?_ (fun _ _ _ h => h)
    · rintro ρ' s' ⟨h1, h2⟩
      exact ⟨_, _, out_set h1, h2⟩
    · rintro ρ' s' ⟨h1, h2⟩
      exact ⟨_, _, out_set h1, h2⟩
  · rintro _ s ⟨g, c, rfl, h⟩
    exact hn c g s h
theorem wp_forL0 {j : Nat} {it : IE} {b : IS} {x : Cell} {α : Type} {xs : List α} {f : α → D} (js : List Nat) (I : List α → Store → Prop) (hit : evE cf it ρ st = .ok x s1) (hw : walkC it ρ x = some (xs.map f)) (h0 : I [] s1)
    (hs : ∀ ys z zs g s, xs = ys ++ z :: zs → I ys s → (evS cf W b ((setG ρ js g).set j (.imm (f z))) s).wp ⟨fun ρ' s' => Out' ρ js ρ' ∧ I (ys ++ [z]) s', K.R, fun _ _ => False, fun ρ' s' => Out' ρ js ρ' ∧ I (ys ++ [z]) s', K.X⟩)
    (hn : ∀ g s, I xs s → K.N (setG ρ js g) s) : (evS cf W (.for_ j it b) ρ st).wp K := by
  refine wp_forL (fun ys ρ' s => ∃ g, ρ' = setG ρ js g ∧ I ys s) hit hw ⟨_, by rw [setG_self js ρ], h0⟩ ?_ ?_
  · rintro ys z zs _ s e ⟨g, rfl, h⟩
    refine Out.wp_mono (hs ys z zs g s e h) ?_ (fun _ _ h => h) (fun _ _ h => h.elim) ?_ (fun _ _ _ h => h)
    · rintro ρ' s' ⟨h1, h2⟩
      exact ⟨_, h1, h2⟩
    · rintro ρ' s' ⟨h1, h2⟩
      exact ⟨_, h1, h2⟩
  · rintro _ s ⟨g, rfl, h⟩
    exact hn g s h
theorem wp_for1 {j a : Nat} {it : IE} {b : IS} {x : Cell} {n : Nat} {f : Int → D} (js : List Nat) (I : Nat → Cell → Store → Prop) (hit : evE cf it ρ st = .ok x s1) (hw : walkC it ρ x = some (vec n f)) (h0 : I 0 (ρ.getD a .undef) s1)
    (hs : ∀ (i : Nat) c g s, i < n → I i c s → (evS cf W b (((setG ρ js g).set a c).set j (.imm (f (i : Int)))) s).wp ⟨fun ρ' s' => Out' ρ (js ++ [a]) ρ' ∧ I (i + 1) (ρ'.getD a .undef) s', K.R, fun _ _ => False, fun ρ' s' => Out' ρ (js ++ [a]) ρ' ∧ I (i + 1) (ρ'.getD a .undef) s', K.X⟩)
    (hn : ∀ c g s, I n c s → K.N ((setG ρ js g).set a c) s) : (evS cf W (.for_ j it b) ρ st).wp K := by
  refine wp_forL1 (xs := rng n) (f := f) js (fun ys c s => I ys.length c s) hit hw h0 (fun ys z zs c g s e h => ?_) (fun c g s h => hn c g s (by rw [rng_length] at h; exact h))
  obtain ⟨i, rfl, h1, rfl⟩ := rng_split e
  simp only [rng_length, List.length_append, List.length_cons, List.length_nil] at h ⊢
  exact hs i c g s h1 h
theorem wp_for0 {j : Nat} {it : IE} {b : IS} {x : Cell} {n : Nat} {f : Int → D} (js : List Nat) (I : Nat → Store → Prop) (hit : evE cf it ρ st = .ok x s1) (hw : walkC it ρ x = some (vec n f)) (h0 : I 0 s1)
    (hs : ∀ (i : Nat) g s, i < n → I i s → (evS cf W b ((setG ρ js g).set j (.imm (f (i : Int)))) s).wp ⟨fun ρ' s' => Out' ρ js ρ' ∧ I (i + 1) s', K.R, fun _ _ => False, fun ρ' s' => Out' ρ js ρ' ∧ I (i + 1) s', K.X⟩)
    (hn : ∀ g s, I n s → K.N (setG ρ js g) s) : (evS cf W (.for_ j it b) ρ st).wp K := by
  refine wp_forL0 (xs := rng n) (f := f) js (fun ys s => I ys.length s) hit hw h0 (fun ys z zs g s e h => ?_) (fun g s h => hn g s (by rw [rng_length] at h; exact h))
  obtain ⟨i, rfl, h1, rfl⟩ := rng_split e
  simp only [rng_length, List.length_append, List.length_cons, List.length_nil] at h ⊢
  exact hs i g s h1 h
-- of two names
theorem wp_for2 {j a a2 : Nat} {it : IE} {b : IS} {x : Cell} {n : Nat} {f : Int → D} (js : List Nat) (I : Nat → Cell → Cell → Store → Prop) (hit : evE cf it ρ st = .ok x s1) (hw : walkC it ρ x = some (vec n f)) (h0 : I 0 (ρ.getD a .undef) (ρ.getD a2 .undef) s1)
    (hs : ∀ (i : Nat) c d g s, i < n → I i c d s → (evS cf W b ((((setG ρ js g).set a c).set a2 d).set j (.imm (f (i : Int)))) s).wp ⟨fun ρ' s' => Out' ρ (js ++ [a] ++ [a2]) ρ' ∧ I (i + 1) (ρ'.getD a .undef) (ρ'.getD a2 .undef) s', K.R, fun _ _ => False, fun ρ' s' => Out' ρ (js ++ [a] ++ [a2]) ρ' ∧ I (i + 1) (ρ'.getD a .undef) (ρ'.getD a2 .undef) s', K.X⟩)
    (hn : ∀ c d g s, I n c d s → K.N (((setG ρ js g).set a c).set a2 d) s) : (evS cf W (.for_ j it b) ρ st).wp K := by
  refine wp_for (fun i ρ' s => ∃ g c d, ρ' = ((setG ρ js g).set a c).set a2 d ∧ I i c d s) hit hw ⟨_, _, _, by rw [setG_self js ρ, set_self, set_self], h0⟩ ?_ ?_
  · rintro i _ s hi ⟨g, c, d, rfl, h⟩
    refine Out.wp_mono (hs i c d g s hi h) ?_ (fun _ _ h => h) (fun _ _ h => h.elim) ?_ (fun _ _ _ h => h)
    · rintro ρ' s' ⟨h1, h2⟩
      exact ⟨_, _, _, out_set2 h1, h2⟩
    · rintro ρ' s' ⟨h1, h2⟩
      exact ⟨_, _, _, out_set2 h1, h2⟩
  · rintro _ s ⟨g, c, d, rfl, h⟩
    exact hn c d g s h
-- more than one name at a time
theorem wp_fortL0 {js2 : List Nat} {it : IE} {b : IS} {x : Cell} {α : Type} {xs : List α} {f : α → List D} (js : List Nat) (I : List α → Store → Prop) (hit : evE cf it ρ st = .ok x s1) (hw : walkC it ρ x = some (xs.map fun a => .tup (f a))) (h0 : I [] s1)
    (hs : ∀ ys z zs g s, xs = ys ++ z :: zs → I ys s → ∃ ρ2, setAll js2 (f z) (setG ρ js g) = some ρ2 ∧ (evS cf W b ρ2 s).wp ⟨fun ρ' s' => Out' ρ js ρ' ∧ I (ys ++ [z]) s', K.R, fun _ _ => False, fun ρ' s' => Out' ρ js ρ' ∧ I (ys ++ [z]) s', K.X⟩)
    (hn : ∀ g s, I xs s → K.N (setG ρ js g) s) : (evS cf W (.fort js2 it b) ρ st).wp K := by
  refine wp_fort (fun ys ρ' s => ∃ g, ρ' = setG ρ js g ∧ I ys s) hit hw ⟨_, by rw [setG_self js ρ], h0⟩ ?_ ?_
  · rintro ys z zs _ s e ⟨g, rfl, h⟩
    obtain ⟨ρ2, h1, h2⟩ := hs ys z zs g s e h
    refine ⟨ρ2, h1, Out.wp_mono h2 ?_ (fun _ _ h => h) (fun _ _ h => h.elim) ?_ (fun _ _ _ h => h)⟩
    · rintro ρ' s' ⟨h1, h2⟩
      exact ⟨_, h1, h2⟩
    · rintro ρ' s' ⟨h1, h2⟩
      exact ⟨_, h1, h2⟩
  · rintro _ s ⟨g, rfl, h⟩
    exact hn g s h
theorem wp_fortL1 {js2 : List Nat} {a : Nat} {it : IE} {b : IS} {x : Cell} {α : Type} {xs : List α} {f : α → List D} (js : List Nat) (I : List α → Cell → Store → Prop) (hit : evE cf it ρ st = .ok x s1) (hw : walkC it ρ x = some (xs.map fun a => .tup (f a))) (h0 : I [] (ρ.getD a .undef) s1)
    (hs : ∀ ys z zs c g s, xs = ys ++ z :: zs → I ys c s → ∃ ρ2, setAll js2 (f z) ((setG ρ js g).set a c) = some ρ2 ∧ (evS cf W b ρ2 s).wp ⟨fun ρ' s' => Out' ρ (js ++ [a]) ρ' ∧ I (ys ++ [z]) (ρ'.getD a .undef) s', K.R, fun _ _ => False, fun ρ' s' => Out' ρ (js ++ [a]) ρ' ∧ I (ys ++ [z]) (ρ'.getD a .undef) s', K.X⟩)
    (hn : ∀ c g s, I xs c s → K.N ((setG ρ js g).set a c) s) : (evS cf W (.fort js2 it b) ρ st).wp K := by
  refine wp_fort (fun ys ρ' s => ∃ g c, ρ' = (setG ρ js g).set a c ∧ I ys c s) hit hw ⟨_, _, by rw [setG_self js ρ, set_self], h0⟩ ?_ ?_
  · rintro ys z zs _ s e ⟨g, c, rfl, h⟩
    obtain ⟨ρ2, h1, h2⟩ := hs ys z zs c g s e h
    refine ⟨ρ2, h1, Out.wp_mono h2 ?_ (fun _ _ h => h) (fun _ _ h => h.elim) ?_ (fun _ _ _ h => h)⟩
    · rintro ρ' s' ⟨h1, h2⟩
      exact ⟨_, _, out_set h1, h2⟩
    · rintro ρ' s' ⟨h1, h2⟩
      exact ⟨_, _, out_set h1, h2⟩
  · rintro _ s ⟨g, c, rfl, h⟩
    exact hn c g s h
/-! ### comprehensions with two clauses, over lists -/
theorem dloop_pure {β : Type} {h : β → D} {g : β → List Cell} {F : D → Store → Re (List Cell)} : ∀ (xs : List β), (∀ b ∈ xs, F (h b) st = .ok (g b) st) → dloop F (xs.map h) st = .ok (xs.map g).flatten st
  | [], _ => rfl
  | b :: xs, H => by
    simp only [List.map_cons, dloop]
    rw [H b List.mem_cons_self]
    simp only
    rw [dloop_pure xs fun b hb => H b (List.mem_cons_of_mem _ hb)]
    rfl
theorem turn_pure {c e : Ev → Store → Re Cell} {t : Tgt} {ρ' : Ev} {d : D} {p : Bool} {z : Cell} (hb : bindT t d ρ = some ρ') (hc : c ρ' st = .ok (.imm (.bl p)) st) (he : p = true → e ρ' st = .ok z st) (ho : ownable z = true) : turnX c e t ρ d st = .ok (if p then [z] else []) st := by
  unfold turnX
  simp only [hb, hc, truC, truD]
  cases p with
  | true => simp only [he rfl, ho, if_true]
  | false => rfl
theorem flat_filter {β : Type} {p : β → Bool} {z : β → Cell} : ∀ xs : List β, (xs.map fun b => if p b then [z b] else []).flatten = (xs.filter p).map z
  | [] => rfl
  | b :: xs => by
    simp only [List.map_cons, List.flatten_cons, flat_filter xs, List.filter_cons]
    cases p b <;> rfl
theorem ev_compt {β : Type} {xs : List β} {h : β → D} {p : β → Bool} {z : β → Cell} {t : Tgt} {it : IE} (hit : evE cf it ρ st = .ok x s1) (hx : walkC it ρ x = some (xs.map h)) (hn : small xs.length = true)
    (hc : ∀ b ∈ xs, ∃ ρ', bindT t (h b) ρ = some ρ' ∧ evE cf c ρ' s1 = .ok (.imm (.bl (p b))) s1 ∧ (p b = true → evE cf e ρ' s1 = .ok (z b) s1)) (ho : ∀ b, ownable (z b) = true) :
    evE cf (.compt t it c e) ρ st = .ok (.own ((xs.filter p).map z)) s1 := by
  simp only [evE, hit, hx]
  rw [dloop_pure (g := fun b => if p b then [z b] else []) xs fun b hb => by
    obtain ⟨ρ', h1, h2, h3⟩ := hc b hb
    exact turn_pure h1 h2 h3 (ho b)]
  rw [flat_filter]
  unfold ownL
  have : small ((xs.filter p).map z).length = true := by
    have h1 := of_decide_eq_true hn
    have h2 := List.length_filter_le p xs
    exact small_of (by rw [List.length_map]; omega)
  simp only [this, if_true]
theorem ev_comp2 {β γ : Type} {xs : List β} {ys : β → List γ} {h : β → D} {k : β → γ → D} {p : β → γ → Bool} {z : β → γ → Cell} {t u : Tgt} {it jt : IE} {y : β → Cell} (hit : evE cf it ρ st = .ok x s1) (hx : walkC it ρ x = some (xs.map h))
    (hj : ∀ b ∈ xs, ∃ ρ2, bindT t (h b) (undefs u.js ρ) = some ρ2 ∧ evE cf jt ρ2 s1 = .ok (y b) s1 ∧ walkC jt ρ2 (y b) = some ((ys b).map (k b)) ∧ ∀ v ∈ ys b, ∃ ρ3, bindT u (k b v) ρ2 = some ρ3 ∧ evE cf c ρ3 s1 = .ok (.imm (.bl (p b v))) s1 ∧ (p b v = true → evE cf e ρ3 s1 = .ok (z b v) s1)) (ho : ∀ b v, ownable (z b v) = true)
    (hn : ((xs.map fun b => ((ys b).filter (p b)).map (z b)).flatten).length ≤ 1000000) :
    evE cf (.comp2 t it u jt c e) ρ st = .ok (.own (xs.map fun b => ((ys b).filter (p b)).map (z b)).flatten) s1 := by
  simp only [evE, hit, hx]
  rw [dloop_pure (g := fun b => ((ys b).filter (p b)).map (z b)) xs fun b hb => by
    obtain ⟨ρ2, h1, h2, h3, h4⟩ := hj b hb
    unfold turnY
    simp only [h1, h2, h3]
    rw [dloop_pure (g := fun v => if p b v then [z b v] else []) (ys b) fun v hv => by
      obtain ⟨ρ3, k1, k2, k3⟩ := h4 v hv
      exact turn_pure k1 k2 k3 (ho b v), flat_filter]]
  unfold ownL
  simp only [small_of hn, if_true]
end
end
end Q

set_option maxRecDepth 100000
set_option maxHeartbeats 1000000
/-! the steps: "ev" an expression, "bin" an operator, "ix" a place, "bi" a built-in, "pass" arguments, "call" a call, "sm" a size, "it" what is walked -/
local macro_rules | `(tactic| walk_at "bd") => `(tactic| first
  | omega | assumption
  | ((with_reducible apply Q.clo0); assumption; (walk_at "bd"); (walk_at "bd"); (walk_at "bd"); (walk_at "bd"))
  | ((with_reducible apply Q.clo1); assumption; (walk_at "bd"); (walk_at "bd"); (walk_at "bd"); (walk_at "bd"))
  | ((with_reducible apply Q.clo10); assumption; (walk_at "bd"); (walk_at "bd"))
  | ((with_reducible apply Q.clo11); assumption; (walk_at "bd"); (walk_at "bd")))
local macro_rules | `(tactic| walk_at "sm") => `(tactic| exact Q.small_of (by simp only [List.length_map, List.length_append, List.length_cons, List.length_nil, Q.rng_length, Q.vec_length]; omega))
local macro_rules | `(tactic| walk_at "size") => `(tactic| (simp only [List.length_map, List.length_append, List.length_cons, List.length_nil, Q.rng_length, Q.vec_length]; omega))
local macro_rules | `(tactic| walk_at "len") => `(tactic| first | with_reducible exact Q.vec_length _ _ | with_reducible exact Q.vecm_length | with_reducible assumption | with_reducible rfl)
local macro_rules | `(tactic| walk_at "dat") => `(tactic| first | with_reducible exact Q.dat_imm | with_reducible exact Q.dat_own | with_reducible exact Q.dat_bor)
local macro_rules | `(tactic| walk_at "nice") => `(tactic| first | with_reducible exact Q.nice_int | with_reducible exact Q.nice_non | with_reducible exact Q.nice_ints | with_reducible exact Q.nice_tab | with_reducible exact Q.nice_tabL | ((with_reducible apply Q.nice_tup); intro _ _; walk_at "nice") | ((with_reducible apply Q.nice_lst); intro _ _; walk_at "nice") | with_reducible assumption)
local macro_rules | `(tactic| walk_at "okN") => `(tactic| first | ((with_reducible apply Q.nice_ok); walk_at "nice") | with_reducible assumption | rfl | decide +kernel)
local macro_rules | `(tactic| walk_at "lst") => `(tactic| first | with_reducible exact Q.lst_imm | with_reducible exact Q.lst_own | with_reducible exact Q.lst_bor)
local macro_rules | `(tactic| walk_at "bin") => `(tactic| first
  | with_reducible exact Q.b_add | with_reducible exact Q.b_sub | with_reducible exact Q.b_lt | with_reducible exact Q.b_le | with_reducible exact Q.b_gt | with_reducible exact Q.b_ge | with_reducible exact Q.b_eqI | with_reducible exact Q.b_neI
  | ((with_reducible apply Q.b_mod); walk_at "bd") | ((with_reducible apply Q.b_fdiv) <;> walk_at "bd") | ((with_reducible apply Q.b_mul); apply Q.bits_of <;> omega)
  | with_reducible exact Q.b_isB | with_reducible exact Q.b_isnotB | ((with_reducible apply Q.b_repT) <;> omega) | ((with_reducible apply Q.b_repS); omega; omega; decide)
  | ((with_reducible apply Q.b_isN); walk_at "dat") | ((with_reducible apply Q.b_isnotN); walk_at "dat")
  | ((with_reducible apply Q.b_eqN); (walk_at "dat"); (walk_at "dat"); (walk_at "okN"); (walk_at "okN"))
  | ((with_reducible apply Q.b_neN); (walk_at "dat"); (walk_at "dat"); (walk_at "okN"); (walk_at "okN"))
  | ((with_reducible apply Q.b_addL); (walk_at "lst"); (walk_at "lst"); (walk_at "size"))
  | ((with_reducible apply Q.b_addT); (walk_at "size"))
  | with_reducible assumption)
local macro_rules | `(tactic| walk_at "ix") => `(tactic| first
  | ((with_reducible apply Q.ix_vecT) <;> walk_at "bd") | ((with_reducible apply Q.ix_vecL) <;> walk_at "bd") | ((with_reducible apply Q.ix_vecB) <;> walk_at "bd") | ((with_reducible apply Q.ix_vecBB) <;> walk_at "bd") | with_reducible assumption)
local macro_rules | `(tactic| walk_at "bi") => `(tactic| first
  | ((with_reducible apply Q.len_T); (walk_at "len")) | ((with_reducible apply Q.len_L); (walk_at "len")) | ((with_reducible apply Q.len_O); (walk_at "len")) | ((with_reducible apply Q.len_B); (walk_at "len"))
  | with_reducible exact Q.tup_O | with_reducible exact Q.tup_B | with_reducible exact Q.tup_T | with_reducible exact Q.tup_L | with_reducible exact Q.list_O | with_reducible exact Q.list_B | with_reducible exact Q.list_T | with_reducible exact Q.list_L
  | with_reducible exact Q.all_O | with_reducible exact Q.any_O | with_reducible exact Q.int_I | with_reducible exact Q.int_B | with_reducible exact Q.min2_I | with_reducible exact Q.max2_I | with_reducible assumption)
local macro_rules | `(tactic| walk_at "tru") => `(tactic| first | with_reducible exact Q.tru_B | with_reducible exact Q.tru_I | with_reducible assumption)
local macro_rules | `(tactic| walk_at "keep") => `(tactic| first | with_reducible exact Q.keep_imm | with_reducible exact Q.keep_own _ | with_reducible exact Q.keep_ownA _ _ | with_reducible assumption | ((with_reducible apply Q.keep_ownE); walk_at "keepAll") | ((with_reducible apply Q.keep_ownM); intro _ _; walk_at "keep"))
local macro_rules | `(tactic| walk_at "keepAll") => `(tactic| first | with_reducible exact Q.keepAll_nil | ((with_reducible apply Q.keepAll_cons); (walk_at "keep"); (walk_at "keepAll")))
local macro_rules | `(tactic| walk_at "pass1") => `(tactic| first | with_reducible exact Q.pass_imm | with_reducible exact Q.pass_bor | ((with_reducible apply Q.pass_own); walk_at "keep"))
local macro_rules | `(tactic| walk_at "pass") => `(tactic| first | with_reducible exact Q.pass_nil | ((with_reducible apply Q.pass_cons); (walk_at "pass1"); (walk_at "pass")))
local macro_rules | `(tactic| walk_at "call") => `(tactic| first | with_reducible assumption | ((with_reducible apply_assumption) <;> walk_at "bd"))
local macro_rules | `(tactic| walk_at "it") => `(tactic| first | with_reducible exact Q.it_own | with_reducible exact Q.it_bor | with_reducible exact Q.it_tup | with_reducible exact Q.it_lst | with_reducible assumption)
local macro_rules | `(tactic| walk_at "set") => `(tactic| try simp only [Q.setG, List.foldl_cons, List.foldl_nil, List.set_cons_zero, List.set_cons_succ])
local macro_rules | `(tactic| walk_at "hT") => `(tactic| (intro hT; try simp only [decide_eq_true_eq, decide_eq_false_iff_not, Bool.not_eq_true', Bool.and_eq_true] at hT))
local macro_rules | `(tactic| walk_at "ev") => `(tactic| first
  | with_reducible exact Q.ev_con | with_reducible exact Q.ev_glob | with_reducible exact Q.ev_nil | with_reducible exact Q.ev_nopart
  | ((with_reducible apply Q.ev_var); rfl) | ((with_reducible apply Q.ev_varO); rfl) | ((with_reducible apply Q.ev_varB); rfl)
  | with_reducible assumption
  | ((with_reducible apply Q.ev_cons); (walk_at "ev"); (walk_at "ev"))
  | ((with_reducible apply Q.ev_bin); (walk_at "ev"); (walk_at "ev"); (walk_at "bin"))
  | ((with_reducible apply Q.ev_ix); (walk_at "ev"); (walk_at "ev"); (walk_at "ix"))
  | ((with_reducible apply Q.ev_fldO); rfl; rfl)
  | ((with_reducible apply Q.ev_fld); (walk_at "ev"); rfl)
  | ((with_reducible apply Q.ev_bi); (walk_at "ev"); (walk_at "bi"))
  | ((with_reducible apply Q.ev_call); (walk_at "ev"); (walk_at "pass"); (walk_at "call"))
  | ((with_reducible apply Q.ev_meth); (walk_at "ev"); (walk_at "ev"); (walk_at "pass"); (walk_at "call"))
  | ((with_reducible apply Q.ev_new); (walk_at "ev"); (walk_at "pass"); (walk_at "call"))
  | ((with_reducible apply Q.ev_not); (walk_at "ev"); (walk_at "tru"))
  | ((with_reducible apply Q.ev_neg); (walk_at "ev"))
  | ((with_reducible apply Q.ev_kp); (walk_at "ev"); (walk_at "keep"))
  | ((with_reducible apply Q.ev_chn); (walk_at "ev"); (walk_at "ev"); (walk_at "bin"); ((walk_at "hT"); walk_at "ev"); (intro _; walk_at "bin"))
  | ((with_reducible apply Q.ev_andB); (walk_at "ev"); ((walk_at "hT"); walk_at "ev"))
  | ((with_reducible apply Q.ev_orB); (walk_at "ev"); ((walk_at "hT"); walk_at "ev"))
  | ((with_reducible apply Q.ev_iteI); (walk_at "ev"); (walk_at "tru"); ((walk_at "hT"); walk_at "ev"); ((walk_at "hT"); walk_at "ev"))
  | ((with_reducible apply Q.ev_ite); (walk_at "ev"); (walk_at "tru"); ((walk_at "hT"); walk_at "ev"); ((walk_at "hT"); walk_at "ev"))
  | ((with_reducible apply Q.ev_tup); (walk_at "ev"); (walk_at "keepAll"); (walk_at "sm"))
  | ((with_reducible apply Q.ev_lst); (walk_at "ev"); rfl; (walk_at "sm"))
  | ((with_reducible apply Q.ev_range1); (walk_at "ev"); omega)
  | ((with_reducible apply Q.ev_lrange); (walk_at "ev"); (walk_at "sm"))
  | ((with_reducible apply Q.ev_lrangeT); (walk_at "ev"); (walk_at "sm"))
  | ((with_reducible apply Q.ev_isi); (walk_at "ev"); rfl; first | exact (rfl : _ = true) | exact (rfl : _ = false) | rfl)
  | ((with_reducible apply Q.ev_eqm); (walk_at "ev"); (walk_at "ev"); rfl; (walk_at "bin"))
  | ((with_reducible apply Q.ev_compV); (walk_at "ev"); (walk_at "it"); omega; (intro _ _ _; (walk_at "set"); walk_at "ev"))
  | ((with_reducible apply Q.ev_compFV); (walk_at "ev"); (walk_at "it"); omega; (intro _ _ _; (walk_at "set"); walk_at "ev"); (intro _ _ _ _; (walk_at "set"); walk_at "ev")))
local macro_rules | `(tactic| walk_at "red") => `(tactic| try dsimp only [Q.fnP, Q.inP])
local macro_rules | `(tactic| walk_at "st") => `(tactic| first
  | with_reducible apply Q.wp_seq
  | ((with_reducible apply Q.wp_asg); (walk_at "ev"); rfl; (walk_at "set"); (walk_at "red"))
  | ((with_reducible apply Q.wp_drop); (walk_at "ev"); (walk_at "red"))
  | ((with_reducible apply Q.wp_frz); rfl; (walk_at "keep"); (walk_at "set"); (walk_at "red"))
  | ((with_reducible apply Q.wp_frzU); rfl; (walk_at "red"))
  | ((with_reducible apply Q.wp_app); rfl; (walk_at "ev"); rfl; (walk_at "sm"); (walk_at "set"); (walk_at "red"))
  | ((with_reducible apply Q.wp_aug); rfl; (walk_at "ev"); rfl; (walk_at "set"); (walk_at "red"))
  | ((with_reducible apply Q.wp_par); (walk_at "ev"); (walk_at "ev"); rfl; rfl; (walk_at "set"); (walk_at "red"))
  | ((with_reducible apply Q.wp_unp); (walk_at "ev"); rfl; (walk_at "set"); (walk_at "red"))
  | ((with_reducible apply Q.wp_ret); (walk_at "ev"); rfl; (walk_at "red"))
  | ((with_reducible apply Q.wp_retv); rfl; rfl; (walk_at "red"))
  | ((with_reducible apply Q.wp_retn); (walk_at "red"))
  | ((with_reducible apply Q.wp_raiseM); (walk_at "red"))
  | ((with_reducible apply Q.wp_brk); (walk_at "red"))
  | ((with_reducible apply Q.wp_cont); (walk_at "red"))
  | ((with_reducible apply Q.wp_skip); (walk_at "red")))
local macro_rules | `(tactic| walk_at "go") => `(tactic| repeat (walk_at "st"))
local macro_rules | `(tactic| walk_at "for") => `(tactic| first | with_reducible exact Q.walk_own _ _ _ | with_reducible exact Q.walk_tup | with_reducible exact Q.walk_lst)
namespace Q
open PySem
/-! is_integer(value); names 0:value -/
def B_is_integer : IS :=
 (.seq (.ret (.and (.isi (.var 0) [.int]) (.not (.isi (.var 0) [.bool]))))
 .skip)
def F_is_integer : Fn := ⟨1, 1, false, 0, 0, B_is_integer⟩
/-! is_item(value, n); names 0:value 1:n -/
def B_is_item (f_is_integer : Nat) : IS :=
 (.seq (.ret (.and (.call f_is_integer (.cons (.var 0) .nil)) (.chn .le .lt (.con (.int 0)) (.var 0) (.var 1))))
 .skip)
def F_is_item (f_is_integer : Nat) : Fn := ⟨2, 2, false, 0, 0, B_is_item f_is_integer⟩
/-! taken_table(table); names 0:table 1:found 2:row 3:item -/
def B_taken_table (f_is_item : Nat) : IS :=
 (.seq (.ite (.or (.not (.isi (.var 0) [.list, .tuple])) (.bin .eq (.bi .len (.cons (.var 0) .nil)) (.con (.int 0))))
 (.seq (.raiseM 1)
 .skip)
 .skip)
 (.seq (.asg 1 (.lst .nil))
 (.seq (.for_ 2 (.var 0)
 (.seq (.ite (.or (.not (.isi (.var 2) [.list, .tuple])) (.bin .ne (.bi .len (.cons (.var 2) .nil)) (.bi .len (.cons (.var 0) .nil))))
 (.seq (.raiseM 1)
 .skip)
 .skip)
 (.seq (.for_ 3 (.var 2)
 (.seq (.ite (.not (.call f_is_item (.cons (.var 3) (.cons (.bi .len (.cons (.var 0) .nil)) .nil))))
 (.seq (.raiseM 1)
 .skip)
 .skip)
 .skip))
 (.seq (.app 1 (.bi .tuple (.cons (.var 2) .nil)))
 .skip))))
 (.seq (.frz 1)
 (.seq (.ret (.bi .tuple (.cons (.var 1) .nil)))
 .skip)))))
def F_taken_table (f_is_item : Nat) : Fn := ⟨1, 4, false, 0, 0, B_taken_table f_is_item⟩
/-! is_associative(table); names 0:table 1:row 2:y 3:z 4:item -/
def B_is_associative : IS :=
 (.seq (.for_ 1 (.var 0)
 (.seq (.for_ 2 (.range1 (.bi .len (.cons (.var 0) .nil)))
 (.seq (.ite (.bin .ne (.comp 3 (.range1 (.bi .len (.cons (.var 0) .nil))) (.con (.bl true)) (.ix (.ix (.var 0) (.ix (.var 1) (.var 2))) (.var 3))) (.comp 4 (.ix (.var 0) (.var 2)) (.con (.bl true)) (.ix (.var 1) (.var 4))))
 (.seq (.ret (.con (.bl false)))
 .skip)
 .skip)
 .skip))
 .skip))
 (.seq (.ret (.con (.bl true)))
 .skip))
def F_is_associative : Fn := ⟨1, 5, false, 0, 0, B_is_associative⟩
/-! Semigroup.__init__(self, table); names 0:self 1:table 2:own -/
def B_Semigroup___init__ (f_taken_table f_is_associative : Nat) (rL rA : IS) : IS :=
 (.seq (.asg 2 (.call f_taken_table (.cons (.var 1) .nil)))
 (.seq (.frz 2)
 (.seq (.ite (.bin .gt (.bi .len (.cons (.var 2) .nil)) (.glob "MOST" (.int 24)))
 (.seq rL
 .skip)
 .skip)
 (.seq (.ite (.not (.call f_is_associative (.cons (.var 2) .nil)))
 (.seq rA
 .skip)
 .skip)
 (.seq (.setf 0 0 (.bi .len (.cons (.var 2) .nil)))
 (.seq (.setf 0 1 (.var 2))
 .skip))))))
def F_Semigroup___init__ (f_taken_table f_is_associative : Nat) (rL rA : IS) : Fn := ⟨2, 3, true, 0, 2, B_Semigroup___init__ f_taken_table f_is_associative rL rA⟩
/-! Semigroup.unit(self); names 0:self 1:x 2:y -/
def B_Semigroup_unit (es : List (Nat × Nat)) : IS :=
 (.seq (.for_ 1 (.range1 (.fld (.var 0) 0 0))
 (.seq (.ite (.bi .all (.cons (.comp 2 (.range1 (.fld (.var 0) 0 0)) (.con (.bl true)) (.and (.eqm es (.ix (.ix (.fld (.var 0) 0 1) (.var 1)) (.var 2)) (.var 2)) (.eqm es (.ix (.ix (.fld (.var 0) 0 1) (.var 2)) (.var 1)) (.var 2)))) .nil))
 (.seq (.retv 1)
 .skip)
 .skip)
 .skip))
 (.seq .retn
 .skip))
def F_Semigroup_unit (es : List (Nat × Nat)) : Fn := ⟨1, 3, false, 0, 0, B_Semigroup_unit es⟩
/-! composed(f, g); names 0:f 1:g 2:x -/
def B_composed : IS :=
 (.seq (.ret (.bi .tuple (.cons (.comp 2 (.var 0) (.con (.bl true)) (.ite (.bin .ge (.var 2) (.con (.int 0))) (.ix (.var 1) (.var 2)) (.neg (.con (.int 1))))) .nil)))
 .skip)
def F_composed : Fn := ⟨2, 3, false, 0, 0, B_composed⟩
/-! right_regular(s); names 0:s 1:found 2:x 3:images 4:y -/
def B_right_regular (f_Semigroup_unit : Nat) : IS :=
 (.seq (.asg 1 (.lst .nil))
 (.seq (.for_ 2 (.range1 (.fld (.var 0) 0 0))
 (.seq (.asg 3 (.comp 4 (.range1 (.fld (.var 0) 0 0)) (.con (.bl true)) (.ix (.ix (.fld (.var 0) 0 1) (.var 4)) (.var 2))))
 (.seq (.ite (.bin .is_ (.meth 0 f_Semigroup_unit (.var 0) .nil) (.con .non))
 (.seq (.app 3 (.var 2))
 .skip)
 .skip)
 (.seq (.frz 3)
 (.seq (.app 1 (.bi .tuple (.cons (.var 3) .nil)))
 .skip)))))
 (.seq (.frz 1)
 (.seq (.ret (.bi .tuple (.cons (.var 1) .nil)))
 .skip))))
def F_right_regular (f_Semigroup_unit : Nat) : Fn := ⟨1, 5, false, 0, 0, B_right_regular f_Semigroup_unit⟩
/-! _law_odd(value); names 0:value 1:item -/
def B_law_odd (f__law_odd : Nat) (es : List (Nat × Nat)) : IS :=
 (.seq (.ite (.eqm es (.var 0) (.con (.str "a word that nothing else is")))
 (.seq (.ret (.con (.bl true)))
 .skip)
 .skip)
 (.seq (.ret (.and (.isi (.var 0) [.tuple, .list]) (.bin .gt (.bi .len (.cons (.comp 1 (.var 0) (.call f__law_odd (.cons (.var 1) .nil)) (.var 1)) .nil)) (.con (.int 0)))))
 .skip))
def F_law_odd (f__law_odd : Nat) (es : List (Nat × Nat)) : Fn := ⟨1, 2, false, 0, 0, B_law_odd f__law_odd es⟩
/-! _law_honest(value); names 0:value -/
def B_law_honest (f__law_odd : Nat) : IS :=
 (.seq (.ret (.ite (.call f__law_odd (.cons (.var 0) .nil)) (.con (.str "odd")) (.var 0)))
 .skip)
def F_law_honest (f__law_odd : Nat) : Fn := ⟨1, 1, false, 0, 0, B_law_honest f__law_odd⟩

/-! ### whole.py, semigroup.py -/
def isInt : D → Bool
  | .int _ => true
  | _ => false
def isItem (d : D) (n : Int) : Bool := match d with
  | .int i => decide (0 ≤ i) && decide (i < n)
  | _ => false
abbrev Rn := List Cell → Store → Re Cell
def okT (d : D) : Prop := tyD d ≠ none
def SpInt (g : Rn) : Prop := ∀ d st, okT d → g [.imm d] st = .ok (.imm (.bl (isInt d))) st
theorem sp_int {cf : CF} {W : Nat} : SpInt (runFn cf W F_is_integer) := by
  intro d st hd
  refine Re.wp_eq (run_wp rfl rfl ?_)
  show (evS cf W B_is_integer [.imm d] st).wp _
  unfold B_is_integer
  apply wp_seq
  cases d <;> first | exact (hd rfl).elim | (walk_at "go"; exact ⟨rfl, rfl⟩)
def SpItem (g : Rn) : Prop := ∀ d n st, okT d → g [.imm d, .imm (.int n)] st = .ok (.imm (.bl (isItem d n))) st
theorem sp_item {cf : CF} {W i : Nat} (h : SpInt (cf i)) : SpItem (runFn cf W (F_is_item i)) := by
  intro d n st hd
  refine Re.wp_eq (run_wp rfl rfl ?_)
  show (evS cf W (B_is_item i) [.imm d, .imm (.int n)] st).wp _
  unfold B_is_item
  have e : evE cf (.call i (.cons (.var 0) .nil)) [.imm d, .imm (.int n)] st = .ok (.imm (.bl (isInt d))) st := ev_call (by walk_at "ev") (by walk_at "pass") (h d st hd)
  apply wp_seq
  cases d with
  | int v =>
    apply wp_ret
    · apply ev_andB e
      intro _
      walk_at "ev"
    · rfl
    · exact ⟨rfl, rfl⟩
  | _ => exact wp_ret (ev_andF e rfl) rfl ⟨rfl, rfl⟩
abbrev seqD (k : Bool) (xs : List D) : D := bif k then .tup xs else .lst xs
def SpTaken (g : Rn) : Prop := ∀ (n : Nat) (m : Int → Int → Int) (k : Bool) (kr : Int → Bool) (st : Store), 1 ≤ n → n ≤ 1000 → Clo n m → g [.imm (seqD k (vec n fun x => seqD (kr x) (vec n fun y => .int (m x y))))] st = .ok (.imm (tabT n m)) st
theorem len_S {k : Bool} {n : Nat} {f : Int → D} : biC .len [.imm (seqD k (vec n f))] = some (.imm (.int (n : Int))) := by
  cases k
  · exact len_L (vec_length _ _)
  · exact len_T (vec_length _ _)
theorem tup_S {k : Bool} {ds : List D} : biC .tuple [.imm (seqD k ds)] = some (.imm (.tup ds)) := by cases k <;> rfl
theorem isi_S {cf : CF} {ρ : Ev} {st s1 : Store} {a : IE} {k : Bool} {ds : List D} (h : evE cf a ρ st = .ok (.imm (seqD k ds)) s1) : evE cf (.isi a [.list, .tuple]) ρ st = .ok (.imm (.bl true)) s1 := by
  cases k
  · exact ev_isi h rfl rfl
  · exact ev_isi h rfl rfl
theorem sp_taken {cf : CF} {W i : Nat} (h : SpItem (cf i)) : SpTaken (runFn cf W (F_taken_table i)) := by
  intro n m k kr st n1 n2 hm
  have hitem : ∀ (v : Int) s, 0 ≤ v → v < (n : Int) → cf i [.imm (.int v), .imm (.int (n : Int))] s = .ok (.imm (.bl true)) s := fun v s v0 v1 => by
    rw [h (.int v) n s (fun z => nomatch z)]
    simp [isItem, v0, v1]
  clear h
  refine Re.wp_eq (run_wp rfl rfl ?_)
  generalize hT : seqD k (vec n fun x => seqD (kr x) (vec n fun y => .int (m x y))) = T
  show (evS cf W (B_taken_table i) [.imm T, .undef, .undef, .undef] st).wp _
  have hlen : biC .len [.imm T] = some (.imm (.int (n : Int))) := by rw [← hT]; exact len_S
  have hw : walkC (.var 0) [.imm T, .own [], .undef, .undef] (.imm T) = some (vec n fun x => seqD (kr x) (vec n fun y => .int (m x y))) := by rw [← hT]; cases k <;> rfl
  unfold B_taken_table
  walk_at "go"
  apply wp_iteF
  · apply ev_orB
    · apply ev_not
      · exact isi_S (k := k) (by rw [hT]; walk_at "ev")
      · rfl
    · intro _; walk_at "ev"
  · exact congrArg some (by simp; omega)
  walk_at "go"
  apply wp_for (fun j ρ s => s = st ∧ ∃ b c, ρ = [.imm T, .own ((vec j fun x => rowT n (m x)).map .imm), b, c])
  · walk_at "ev"
  · exact hw
  · exact ⟨rfl, _, _, rfl⟩
  · rintro x ρ s hx ⟨rfl, b, c, rfl⟩
    walk_at "set"
    generalize hR : seqD (kr x) (vec n fun y => .int (m x y)) = R
    have hlenR : biC .len [.imm R] = some (.imm (.int (n : Int))) := by rw [← hR]; exact len_S
    have htupR : biC .tuple [.imm R] = some (.imm (rowT n (m x))) := by rw [← hR]; exact tup_S
    walk_at "go"
    apply wp_iteF
    · apply ev_orB
      · apply ev_not
        · exact isi_S (k := kr x) (by rw [hR]; walk_at "ev")
        · rfl
      · intro _; walk_at "ev"
    · exact congrArg some (by simp)
    walk_at "go"
    apply wp_for (f := fun y => .int (m x y)) (fun j ρ s' => s' = s ∧ ∃ c, ρ = [.imm T, .own ((vec x fun x => rowT n (m x)).map .imm), .imm R, c])
    · walk_at "ev"
    · rw [← hR]; cases kr x <;> rfl
    · exact ⟨rfl, _, rfl⟩
    · rintro y ρ s' hy ⟨rfl, c, rfl⟩
      walk_at "set"
      walk_at "go"
      apply wp_iteF
      · walk_at "ev"
      · rfl
      walk_at "go"
      exact ⟨rfl, _, rfl⟩
    · rintro ρ s' ⟨rfl, c, rfl⟩
      walk_at "go"
      rw [app_vec rfl]
      exact ⟨rfl, _, _, rfl⟩
  · rintro ρ s ⟨rfl, b, c, rfl⟩
    walk_at "go"
    exact ⟨rfl, rfl⟩
theorem nice_row {n k : Nat} {f : Int → Int} : nice (k + 1) (rowT n f) = true := nice_ints
def SpAsc (g : Rn) : Prop := ∀ (n : Nat) (m : Int → Int → Int) (st : Store), n ≤ 1000 → Clo n m → Asc n m → g [.imm (tabT n m)] st = .ok (.imm (.bl true)) st
theorem sp_asc {cf : CF} {W : Nat} : SpAsc (runFn cf W F_is_associative) := by
  intro n m st hn hm ha
  refine Re.wp_eq (run_wp rfl rfl ?_)
  show (evS cf W B_is_associative [.imm (tabT n m), .undef, .undef, .undef, .undef] st).wp _
  unfold B_is_associative
  apply wp_seq
  apply wp_for (fun i ρ s => s = st ∧ ∃ a b c d, ρ = [.imm (tabT n m), a, b, c, d])
  · walk_at "ev"
  · walk_at "for"
  · exact ⟨rfl, _, _, _, _, rfl⟩
  · rintro x ρ s hx ⟨rfl, a, b, c, d, rfl⟩
    walk_at "set"
    apply wp_seq
    apply wp_for (fun i ρ s' => s' = s ∧ ∃ b c d, ρ = [.imm (tabT n m), .imm (rowT n (m x)), b, c, d])
    · walk_at "ev"
    · walk_at "for"
    · exact ⟨rfl, _, _, _, rfl⟩
    · rintro y ρ s hy ⟨rfl, b, c, d, rfl⟩
      walk_at "set"
      apply wp_seq
      apply wp_ite
      · walk_at "ev"
      · walk_at "tru"
      · intro h
        have : vec n (fun z => D.int (m (m x y) z)) = vec n (fun z => .int (m x (m y z))) := vec_congr fun z z0 z1 => by rw [ha x y z (by omega) (by omega) (by omega) (by omega) z0 z1]
        rw [this, (eqN_iff (nice_lst fun _ _ => nice_int) (nice_lst fun _ _ => nice_int)).mpr rfl] at h
        cases h
      · intro h
        walk_at "go"
        exact ⟨rfl, _, _, _, rfl⟩
    · rintro ρ s ⟨rfl, b, c, d, rfl⟩
      walk_at "go"
      exact ⟨rfl, _, _, _, _, rfl⟩
  · rintro ρ s ⟨rfl, a, b, c, d, rfl⟩
    walk_at "go"
    exact ⟨rfl, rfl⟩
abbrev semD (n : Nat) (m : Int → Int → Int) : D := .ins 0 [.int (n : Int), tabT n m]
def SpSem (g : Rn) : Prop := ∀ (n : Nat) (m : Int → Int → Int) (k : Bool) (kr : Int → Bool) (st : Store), 1 ≤ n → n ≤ 24 → Clo n m → Asc n m → g [.obj 0 [], .imm (seqD k (vec n fun x => seqD (kr x) (vec n fun y => .int (m x y))))] st = .ok (.imm (semD n m)) st
theorem sp_sem {cf : CF} {W i j : Nat} {rL rA : IS} (h1 : SpTaken (cf i)) (h2 : SpAsc (cf j)) : SpSem (runFn cf W (F_Semigroup___init__ i j rL rA)) := by
  intro n m k kr st n1 n2 hm ha
  have e1 := h1 n m k kr st n1 (by omega) hm
  have e2 := h2 n m st (by omega) hm ha
  clear h1 h2
  refine Re.wp_eq (run_wpI rfl rfl ?_)
  generalize seqD k (vec n fun x => seqD (kr x) (vec n fun y => D.int (m x y))) = T at *
  show (evS cf W (B_Semigroup___init__ i j rL rA) [.obj 0 [], .imm T, .undef] st).wp _
  unfold B_Semigroup___init__
  walk_at "go"
  apply wp_iteF
  · walk_at "ev"
  · exact congrArg some (by simp; omega)
  walk_at "go"
  apply wp_iteF
  · walk_at "ev"
  · rfl
  walk_at "go"
  apply wp_setf
  · walk_at "ev"
  · rfl
  · rfl
  · rfl
  · decide
  walk_at "set"
  walk_at "red"
  walk_at "go"
  apply wp_setf
  · walk_at "ev"
  · rfl
  · rfl
  · rfl
  · decide
  walk_at "set"
  walk_at "red"
  walk_at "go"
  exact ⟨_, rfl, rfl, rfl, rfl⟩
/-! ### search -/
theorem find_rng {n : Nat} {p : Int → Bool} {x : Nat} (hx : x < n) (h : ∀ y : Int, 0 ≤ y → y < x → p y = false) (hp : p x = true) : (rng n).find? p = some (x : Int) := by
  rw [List.find?_eq_some_iff_getElem]
  refine ⟨hp, x, by rw [rng_length]; exact hx, ?_, fun j hj => ?_⟩
  · have := rng_get hx
    rw [List.getElem?_eq_getElem (by rw [rng_length]; exact hx)] at this
    exact Option.some.inj this
  · have h2 := rng_get (n := n) (i := j) (by omega)
    rw [List.getElem?_eq_getElem (by rw [rng_length]; omega)] at h2
    rw [Option.some.inj h2, h j (by omega) (by omega)]
    rfl
theorem find_none {n : Nat} {p : Int → Bool} (h : ∀ y : Int, 0 ≤ y → y < n → p y = false) : (rng n).find? p = none := by
  rw [List.find?_eq_none]
  intro y hy
  rw [rng_mem] at hy
  rw [h y hy.1 hy.2]
  exact Bool.false_ne_true
def optD : Option Int → D
  | none => .non
  | some i => .int i
def unitOf (n : Nat) (m : Int → Int → Int) : Option Int := (rng n).find? fun x => (rng n).all fun y => decide (m x y = y) && decide (m y x = y)
def SpUnit (g : Rn) : Prop := ∀ (n : Nat) (m : Int → Int → Int) (st : Store), n ≤ 1000 → Clo n m → g [.imm (semD n m)] st = .ok (.imm (optD (unitOf n m))) st
theorem sp_unit {cf : CF} {W : Nat} {es : List (Nat × Nat)} : SpUnit (runFn cf W (F_Semigroup_unit es)) := by
  intro n m st hn hm
  refine Re.wp_eq (run_wp rfl rfl ?_)
  show (evS cf W (B_Semigroup_unit es) [.imm (semD n m), .undef, .undef] st).wp _
  unfold B_Semigroup_unit
  apply wp_seq
  apply wp_for (fun i ρ s => s = st ∧ (∀ y : Int, 0 ≤ y → y < i → ((rng n).all fun z => decide (m y z = z) && decide (m z y = z)) = false) ∧ ∃ a b, ρ = [.imm (semD n m), a, b])
  · walk_at "ev"
  · walk_at "for"
  · exact ⟨rfl, fun y h1 h2 => by omega, _, _, rfl⟩
  · rintro x ρ s hx ⟨rfl, hq, a, b, rfl⟩
    walk_at "set"
    apply wp_seq
    apply wp_ite
    · walk_at "ev"
    · walk_at "tru"
    · intro h
      walk_at "go"
      exact ⟨by unfold unitOf; rw [find_rng hx hq h]; rfl, rfl⟩
    · intro h
      walk_at "go"
      refine ⟨rfl, fun y h1 h2 => ?_, _, _, rfl⟩
      by_cases e : y = x
      · subst e; exact h
      · exact hq y h1 (by omega)
  · rintro ρ s ⟨rfl, hq, a, b, rfl⟩
    walk_at "go"
    exact ⟨by unfold unitOf; rw [find_none hq]; rfl, rfl⟩
def SpComposed (g : Rn) : Prop := ∀ (n k : Nat) (f h : Int → Int) (st : Store), n ≤ 1000 → k ≤ 1000 → Clo1 n k f → g [.imm (rowT n f), .imm (rowT k h)] st = .ok (.imm (rowT n fun x => h (f x))) st
theorem sp_composed {cf : CF} {W : Nat} : SpComposed (runFn cf W F_composed) := by
  intro n k f h st hn hk hf
  refine Re.wp_eq (run_wp rfl rfl ?_)
  show (evS cf W B_composed [.imm (rowT n f), .imm (rowT k h), .undef] st).wp _
  unfold B_composed
  apply wp_seq
  apply wp_ret
  · apply ev_bi
    · apply ev_cons
      · apply ev_compV (g := fun x => .int (h (f x)))
        · walk_at "ev"
        · walk_at "it"
        · omega
        · intro x x0 x1
          walk_at "set"
          have := hf x x0 x1
          apply ev_iteT
          · walk_at "ev"
          · exact congrArg some (decide_eq_true this.1)
          · walk_at "ev"
      · walk_at "ev"
    · walk_at "bi"
  · rfl
  · exact ⟨rfl, rfl⟩
def SpRightReg (g : Rn) : Prop := ∀ (n : Nat) (m : Int → Int → Int) (st : Store), n ≤ 1000 → Clo n m → g [.imm (semD n m)] st = .ok (.imm (.tup (vec n fun x => .tup ((vec n fun y => .int (m y x)) ++ if unitOf n m = none then [.int x] else [])))) st
theorem isNone_opt {o : Option Int} : isNone (optD o) = decide (o = none) := by cases o <;> rfl
theorem sp_rightreg {cf : CF} {W i : Nat} (h : SpUnit (cf i)) : SpRightReg (runFn cf W (F_right_regular i)) := by
  intro n m st hn hm
  have e1 := fun s => h n m s hn hm
  clear h
  refine Re.wp_eq (run_wp rfl rfl ?_)
  show (evS cf W (B_right_regular i) [.imm (semD n m), .undef, .undef, .undef, .undef] st).wp _
  unfold B_right_regular
  walk_at "go"
  apply wp_for (fun j ρ s => s = st ∧ ∃ a b c, ρ = [.imm (semD n m), .own ((vec j fun x => .tup ((vec n fun y => .int (m y x)) ++ if unitOf n m = none then [.int x] else [])).map .imm), a, b, c])
  · walk_at "ev"
  · walk_at "for"
  · exact ⟨rfl, _, _, _, rfl⟩
  · rintro x ρ s hx ⟨rfl, a, b, c, rfl⟩
    walk_at "set"
    walk_at "go"
    apply wp_ite
    · walk_at "ev"
    · walk_at "tru"
    · intro hu
      rw [isNone_opt, decide_eq_true_eq] at hu
      walk_at "go"
      rw [app_vec (by rw [if_pos hu])]
      exact ⟨rfl, _, _, _, rfl⟩
    · intro hu
      rw [isNone_opt, decide_eq_false_iff_not] at hu
      walk_at "go"
      rw [app_vec (by rw [if_neg hu, List.append_nil])]
      exact ⟨rfl, _, _, _, rfl⟩
  · rintro ρ s ⟨rfl, a, b, c, rfl⟩
    walk_at "go"
    exact ⟨rfl, rfl⟩
/-! ### a law's own words: odd, honest -/
theorem ev_compFL {cf : CF} {ρ : Ev} {st s1 : Store} {c e : IE} {x : Cell} {xs : List D} {p : D → Bool} {j : Nat} {it : IE} (hit : evE cf it ρ st = .ok x s1) (hx : iterC x = some (xs.map .imm)) (hn : small xs.length = true)
    (hc : ∀ b ∈ xs, evE cf c (ρ.set j (.imm b)) s1 = .ok (.imm (.bl (p b))) s1) (he : ∀ b ∈ xs, p b = true → evE cf e (ρ.set j (.imm b)) s1 = .ok (.imm b) s1) :
    evE cf (.comp j it c e) ρ st = .ok (.own ((xs.filter p).map .imm)) s1 := by
  have := ev_compFD (h := id) (g := id) (p := p) (xs := xs) hit (by rw [List.map_id]; exact hx) hn hc he
  rw [List.map_id] at this
  exact this
-- without texts
def noStr : Nat → D → Bool
  | 0, x => match x with
    | .non => true
    | .bl _ => true
    | .int _ => true
    | _ => false
  | n + 1, x => match x with
    | .non => true
    | .bl _ => true
    | .int _ => true
    | .tup xs => decide (xs.length ≤ 1000000) && xs.all (noStr n)
    | .lst xs => decide (xs.length ≤ 1000000) && xs.all (noStr n)
    | _ => false
theorem noStr_ok : ∀ {n : Nat} {x : D}, noStr n x = true → okN n x = true := by
  intro n
  induction n with
  | zero => intro x h; cases x <;> first | rfl | (cases h; done)
  | succ n ih =>
    intro x h
    cases x <;> first | rfl | (cases h; done) | skip
    · simp only [noStr, okN, List.all_eq_true, Bool.and_eq_true] at h ⊢
      exact fun y hy => ih (h.2 y hy)
    · simp only [noStr, okN, List.all_eq_true, Bool.and_eq_true] at h ⊢
      exact fun y hy => ih (h.2 y hy)
def SpOdd (n : Nat) (g : Rn) : Prop := ∀ d st, noStr n d = true → g [.imm d] st = .ok (.imm (.bl false)) st
theorem odd_eq {cf : CF} {ρ : Ev} {st : Store} {es : List (Nat × Nat)} {d : D} {n : Nat} (hn : n ≤ 4) (hd : noStr n d = true) (h0 : ρ[0]? = some (.imm d)) : evE cf (.eqm es (.var 0) (.con (.str "a word that nothing else is"))) ρ st = .ok (.imm (.bl false)) st := by
  have h1 : eqN 4 d (.str "a word that nothing else is") = false := eq_str fun t e => by subst e; cases n <;> cases hd
  have := ev_eqm (es := es) (cf := cf) (st := st) (ev_var h0) (ev_con (d := .str "a word that nothing else is")) (by cases n <;> cases d <;> first | rfl | cases hd) (b_eqN dat_imm dat_imm (okN_up hn (noStr_ok hd)) (by decide +kernel))
  rw [h1] at this
  exact this
theorem sp_odd0 {cf : CF} {W i : Nat} {es : List (Nat × Nat)} : SpOdd 0 (runFn cf W (F_law_odd i es)) := by
  intro d st hd
  refine Re.wp_eq (run_wp rfl rfl ?_)
  show (evS cf W (B_law_odd i es) [.imm d, .undef] st).wp _
  unfold B_law_odd
  apply wp_seq
  apply wp_iteF (odd_eq (n := 0) (by omega) hd rfl) rfl
  walk_at "go"
  cases d <;> first | (cases hd; done) | exact wp_ret (ev_andF (ev_isi (ev_var rfl) rfl rfl) rfl) rfl ⟨rfl, rfl⟩
theorem sp_oddS {cf : CF} {W i n : Nat} {es : List (Nat × Nat)} (hn : n + 1 ≤ 4) (h : SpOdd n (cf i)) : SpOdd (n + 1) (runFn cf W (F_law_odd i es)) := by
  intro d st hd
  refine Re.wp_eq (run_wp rfl rfl ?_)
  show (evS cf W (B_law_odd i es) [.imm d, .undef] st).wp _
  unfold B_law_odd
  apply wp_seq
  apply wp_iteF (odd_eq hn hd rfl) rfl
  walk_at "go"
  have go : ∀ xs : List D, (xs.length ≤ 1000000) → (∀ x ∈ xs, noStr n x = true) → (d = .tup xs ∨ d = .lst xs) → evE cf (.comp 1 (.var 0) (.call i (.cons (.var 1) .nil)) (.var 1)) [.imm d, .undef] st = .ok (.own []) st := fun xs hl hx hd => by
    have := ev_compFL (cf := cf) (ρ := [.imm d, .undef]) (st := st) (s1 := st) (x := .imm d) (c := .call i (.cons (.var 1) .nil)) (e := .var 1) (xs := xs) (p := fun _ => false) (j := 1) (it := .var 0) (by walk_at "ev") (by rcases hd with rfl | rfl <;> rfl) (small_of hl) (fun b hb => by
      have := h b st (hx b hb)
      walk_at "ev") (fun _ _ z => by cases z)
    rw [this, List.filter_eq_nil_iff.mpr (fun _ _ z => by cases z)]
    rfl
  cases d with
  | tup xs =>
    simp only [noStr, Bool.and_eq_true, List.all_eq_true, decide_eq_true_eq] at hd
    have e := go xs hd.1 hd.2 (.inl rfl)
    refine wp_ret (ev_andT (ev_isi (ev_var rfl) rfl rfl) rfl (ev_bin (ev_bi (ev_cons e ev_nil) (len_O rfl)) ev_con b_gt)) rfl ⟨rfl, rfl⟩
  | lst xs =>
    simp only [noStr, Bool.and_eq_true, List.all_eq_true, decide_eq_true_eq] at hd
    have e := go xs hd.1 hd.2 (.inr rfl)
    refine wp_ret (ev_andT (ev_isi (ev_var rfl) rfl rfl) rfl (ev_bin (ev_bi (ev_cons e ev_nil) (len_O rfl)) ev_con b_gt)) rfl ⟨rfl, rfl⟩
  | non => exact wp_ret (ev_andF (ev_isi (ev_var rfl) rfl rfl) rfl) rfl ⟨rfl, rfl⟩
  | bl _ => exact wp_ret (ev_andF (ev_isi (ev_var rfl) rfl rfl) rfl) rfl ⟨rfl, rfl⟩
  | int _ => exact wp_ret (ev_andF (ev_isi (ev_var rfl) rfl rfl) rfl) rfl ⟨rfl, rfl⟩
  | _ => cases hd
def SpHonest (n : Nat) (g : Rn) : Prop := ∀ d st, noStr n d = true → g [.imm d] st = .ok (.imm d) st
theorem sp_honest {cf : CF} {W i n : Nat} (h : SpOdd n (cf i)) : SpHonest n (runFn cf W (F_law_honest i)) := by
  intro d st hd
  have e1 := h d st hd
  clear h
  refine Re.wp_eq (run_wp rfl rfl ?_)
  show (evS cf W (B_law_honest i) [.imm d] st).wp _
  unfold B_law_honest
  apply wp_seq
  apply wp_ret
  · apply ev_iteF
    · walk_at "ev"
    · rfl
    · walk_at "ev"
  · rfl
  · exact ⟨rfl, rfl⟩
end Q

set_option maxRecDepth 100000
set_option maxHeartbeats 1000000
namespace Q
open PySem
/-! _law_order_of(state, n); names 0:state 1:n 2:left 3:found 4:k -/
def B_law_order_of (f__law_take : Nat) : IS :=
 (.seq (.asg 2 (.lrange false (.range1 (.var 1))))
 (.seq (.asg 3 (.lst .nil))
 (.seq (.for_ 4 (.range1 (.var 1))
 (.seq (.apop 3 2 (.call f__law_take (.cons (.var 0) (.cons (.bi .len (.cons (.var 2) .nil)) .nil))))
 .skip))
 (.seq (.frz 2)
 (.seq (.frz 3)
 (.seq (.retv 3)
 .skip))))))
def F_law_order_of (f__law_take : Nat) : Fn := ⟨2, 5, false, 0, 0, B_law_order_of f__law_take⟩
/-! _law_renamed(table, order); names 0:table 1:order 2:n 3:found 4:x 5:y 6:row -/
def B_law_renamed : IS :=
 (.seq (.asg 2 (.bi .len (.cons (.var 0) .nil)))
 (.seq (.asg 3 (.comp 4 (.range1 (.var 2)) (.con (.bl true)) (.comp 5 (.range1 (.var 2)) (.con (.bl true)) (.con (.int 0)))))
 (.seq (.for_ 4 (.range1 (.var 2))
 (.seq (.for_ 5 (.range1 (.var 2))
 (.seq (.set2 3 (.ix (.var 1) (.var 4)) (.ix (.var 1) (.var 5)) (.ix (.var 1) (.ix (.ix (.var 0) (.var 4)) (.var 5))))
 .skip))
 .skip))
 (.seq (.frz 3)
 (.seq (.ret (.comp 6 (.var 3) (.con (.bl true)) (.bi .tuple (.cons (.var 6) .nil))))
 .skip)))))
def F_law_renamed : Fn := ⟨2, 7, false, 0, 0, B_law_renamed⟩
/-! _law_after(f, g); names 0:f 1:g 2:x -/
def B_law_after : IS :=
 (.seq (.ret (.bi .tuple (.cons (.comp 2 (.var 0) (.con (.bl true)) (.ix (.var 1) (.var 2))) .nil)))
 .skip)
def F_law_after : Fn := ⟨2, 3, false, 0, 0, B_law_after⟩
/-! _law_closed(maps); names 0:maps 1:found 2:f 3:turn 4:g 5:h -/
def B_law_closed (f__law_after : Nat) : IS :=
 (.seq (.asg 1 (.lst .nil))
 (.seq (.for_ 2 (.var 0)
 (.seq (.ite (.bin .notin (.var 2) (.var 1))
 (.seq (.app 1 (.var 2))
 .skip)
 .skip)
 .skip))
 (.seq (.for_ 3 (.range1 (.con (.int 30)))
 (.seq (.for_ 2 (.bi .list (.cons (.var 1) .nil))
 (.seq (.for_ 4 (.var 0)
 (.seq (.asg 5 (.call f__law_after (.cons (.var 2) (.cons (.var 4) .nil))))
 (.seq (.frz 5)
 (.seq (.ite (.and (.bin .notin (.var 5) (.var 1)) (.bin .lt (.bi .len (.cons (.var 1) .nil)) (.con (.int 30))))
 (.seq (.app 1 (.var 5))
 .skip)
 .skip)
 .skip))))
 .skip))
 .skip))
 (.seq (.frz 1)
 (.seq (.retv 1)
 .skip)))))
def F_law_closed (f__law_after : Nat) : Fn := ⟨1, 6, false, 0, 0, B_law_closed f__law_after⟩
/-! _law_of_maps(state, most); names 0:state 1:most 2:k 3:maps 4:turn 5:found 6:f 7:g 8:x -/
def B_law_of_maps (f__law_take f__law_closed f__law_after : Nat) : IS :=
 (.seq (.asg 2 (.bin .add (.con (.int 2)) (.call f__law_take (.cons (.var 0) (.cons (.con (.int 2)) .nil)))))
 (.seq (.frz 2)
 (.seq (.asg 3 (.lst .nil))
 (.seq (.for_ 4 (.range1 (.bin .add (.con (.int 1)) (.call f__law_take (.cons (.var 0) (.cons (.con (.int 2)) .nil)))))
 (.seq (.app 3 (.bi .tuple (.cons (.comp 8 (.range1 (.var 2)) (.con (.bl true)) (.call f__law_take (.cons (.var 0) (.cons (.var 2) .nil)))) .nil)))
 .skip))
 (.seq (.frz 3)
 (.seq (.asg 5 (.call f__law_closed (.cons (.var 3) .nil)))
 (.seq (.frz 5)
 (.seq (.ite (.bin .gt (.bi .len (.cons (.var 5) .nil)) (.var 1))
 (.seq (.asg 5 (.call f__law_closed (.cons (.slc (.var 3) .nopart (.con (.int 1))) .nil)))
 (.seq (.frz 5)
 .skip))
 .skip)
 (.seq (.ite (.bin .gt (.bi .len (.cons (.var 5) .nil)) (.var 1))
 (.seq (.asg 5 (.lst (.cons (.bi .tuple (.cons (.comp 8 (.range1 (.var 2)) (.con (.bl true)) (.ix (.ix (.var 3) (.con (.int 0))) (.con (.int 0)))) .nil)) .nil)))
 (.seq (.frz 5)
 .skip))
 .skip)
 (.seq (.ret (.comp 6 (.var 5) (.con (.bl true)) (.bi .tuple (.cons (.comp 7 (.var 5) (.con (.bl true)) (.index (.var 5) (.call f__law_after (.cons (.var 6) (.cons (.var 7) .nil))))) .nil))))
 .skip))))))))))
def F_law_of_maps (f__law_take f__law_closed f__law_after : Nat) : Fn := ⟨2, 9, false, 0, 0, B_law_of_maps f__law_take f__law_closed f__law_after⟩
/-! _law_monogenic(state, most); names 0:state 1:most 2:n 3:period 4:index 5:rows 6:x 7:row 8:y 9:k -/
def B_law_monogenic (f__law_take : Nat) : IS :=
 (.seq (.asg 2 (.bin .add (.con (.int 1)) (.call f__law_take (.cons (.var 0) (.cons (.var 1) .nil)))))
 (.seq (.frz 2)
 (.seq (.asg 3 (.bin .add (.con (.int 1)) (.call f__law_take (.cons (.var 0) (.cons (.var 2) .nil)))))
 (.seq (.frz 3)
 (.seq (.asg 4 (.bin .sub (.bin .add (.var 2) (.con (.int 1))) (.var 3)))
 (.seq (.asg 5 (.lst .nil))
 (.seq (.for_ 6 (.range1 (.var 2))
 (.seq (.asg 7 (.lst .nil))
 (.seq (.for_ 8 (.range1 (.var 2))
 (.seq (.asg 9 (.bin .add (.bin .add (.var 6) (.var 8)) (.con (.int 2))))
 (.seq (.ite (.bin .gt (.var 9) (.var 2))
 (.seq (.asg 9 (.bin .add (.var 4) (.bin .mod (.bi .int (.cons (.bin .sub (.var 9) (.var 4)) .nil)) (.var 3))))
 .skip)
 .skip)
 (.seq (.app 7 (.bin .sub (.var 9) (.con (.int 1))))
 .skip))))
 (.seq (.frz 7)
 (.seq (.app 5 (.bi .tuple (.cons (.var 7) .nil)))
 .skip)))))
 (.seq (.frz 5)
 (.seq (.retv 5)
 .skip)))))))))
def F_law_monogenic (f__law_take : Nat) : Fn := ⟨2, 10, false, 0, 0, B_law_monogenic f__law_take⟩
/-! _law_triples(a, b, g, twist, holes, zero); names 0:a 1:b 2:g 3:twist 4:holes 5:zero 6:size 7:rows 8:x 9:row 10:y 11:j 12:i 13:turn 14:k -/
def B_law_triples : IS :=
 (.seq (.asg 6 (.bin .mul (.bin .mul (.var 0) (.var 1)) (.var 2)))
 (.seq (.asg 7 (.lst .nil))
 (.seq (.for_ 8 (.range1 (.var 6))
 (.seq (.asg 9 (.lst .nil))
 (.seq (.for_ 10 (.range1 (.var 6))
 (.seq (.asg 11 (.bin .mod (.bi .int (.cons (.var 8) .nil)) (.var 1)))
 (.seq (.asg 12 (.bin .fdiv (.var 10) (.bin .mul (.var 2) (.var 1))))
 (.seq (.ite (.and (.var 5) (.ix (.ix (.var 4) (.var 11)) (.var 12)))
 (.seq (.app 9 (.var 6))
 .skip)
 (.seq (.asg 13 (.bin .mod (.bi .int (.cons (.bin .add (.bin .add (.bin .fdiv (.var 8) (.var 1)) (.ix (.ix (.var 3) (.var 11)) (.var 12))) (.bin .fdiv (.var 10) (.var 1))) .nil)) (.var 2)))
 (.seq (.app 9 (.bin .add (.bin .mul (.bin .add (.bin .mul (.bin .fdiv (.var 8) (.bin .mul (.var 2) (.var 1))) (.var 2)) (.var 13)) (.var 1)) (.bin .mod (.bi .int (.cons (.var 10) .nil)) (.var 1))))
 .skip)))
 .skip))))
 (.seq (.frz 9)
 (.seq (.app 7 (.bi .tuple (.cons (.bin .add (.var 9) (.comp 14 (.range1 (.bi .int (.cons (.var 5) .nil))) (.con (.bl true)) (.var 6))) .nil)))
 .skip)))))
 (.seq (.ite (.var 5)
 (.seq (.app 7 (.bi .tuple (.cons (.comp 14 (.range1 (.bin .add (.var 6) (.con (.int 1)))) (.con (.bl true)) (.var 6)) .nil)))
 .skip)
 .skip)
 (.seq (.frz 7)
 (.seq (.retv 7)
 .skip))))))
def F_law_triples : Fn := ⟨6, 15, false, 0, 0, B_law_triples⟩
/-! _law_blocks(state, most); names 0:state 1:most 2:a 3:b 4:g 5:twist 6:holes 7:zero 8:j 9:i -/
def B_law_blocks (f__law_take f__law_triples : Nat) (es : List (Nat × Nat)) : IS :=
 (.seq (.asg 2 (.bin .add (.con (.int 1)) (.call f__law_take (.cons (.var 0) (.cons (.con (.int 2)) .nil)))))
 (.seq (.frz 2)
 (.seq (.asg 3 (.bin .add (.con (.int 1)) (.call f__law_take (.cons (.var 0) (.cons (.con (.int 2)) .nil)))))
 (.seq (.frz 3)
 (.seq (.asg 4 (.bin .add (.con (.int 1)) (.call f__law_take (.cons (.var 0) (.cons (.con (.int 2)) .nil)))))
 (.seq (.frz 4)
 (.seq (.ite (.bin .gt (.bin .add (.bin .mul (.bin .mul (.var 2) (.var 3)) (.var 4)) (.con (.int 1))) (.var 1))
 (.seq (.unp [2, 3, 4] (.tup (.cons (.con (.int 1)) (.cons (.con (.int 1)) (.cons (.bi .min2 (.cons (.con (.int 2)) (.cons (.var 1) .nil))) .nil)))))
 .skip)
 .skip)
 (.seq (.asg 5 (.comp 8 (.range1 (.var 3)) (.con (.bl true)) (.comp 9 (.range1 (.var 2)) (.con (.bl true)) (.call f__law_take (.cons (.var 0) (.cons (.var 4) .nil))))))
 (.seq (.frz 5)
 (.seq (.asg 6 (.comp 8 (.range1 (.var 3)) (.con (.bl true)) (.comp 9 (.range1 (.var 2)) (.con (.bl true)) (.eqm es (.call f__law_take (.cons (.var 0) (.cons (.con (.int 3)) .nil))) (.con (.int 0))))))
 (.seq (.frz 6)
 (.seq (.asg 7 (.and (.eqm es (.call f__law_take (.cons (.var 0) (.cons (.con (.int 2)) .nil))) (.con (.int 0))) (.bin .lt (.bin .mul (.bin .mul (.var 2) (.var 3)) (.var 4)) (.var 1))))
 (.seq (.ret (.call f__law_triples (.cons (.var 2) (.cons (.var 3) (.cons (.var 4) (.cons (.var 5) (.cons (.var 6) (.cons (.var 7) .nil))))))))
 .skip)))))))))))))
def F_law_blocks (f__law_take f__law_triples : Nat) (es : List (Nat × Nat)) : Fn := ⟨2, 10, false, 0, 0, B_law_blocks f__law_take f__law_triples es⟩
/-! _law_plain(state, most); names 0:state 1:most 2:pick 3:n 4:x 5:y -/
def B_law_plain (f__law_take f__law_monogenic f__law_of_maps f__law_blocks : Nat) (es : List (Nat × Nat)) : IS :=
 (.seq (.asg 2 (.call f__law_take (.cons (.var 0) (.cons (.con (.int 8)) .nil))))
 (.seq (.frz 2)
 (.seq (.asg 3 (.bin .add (.con (.int 1)) (.call f__law_take (.cons (.var 0) (.cons (.var 1) .nil)))))
 (.seq (.frz 3)
 (.seq (.ite (.eqm es (.var 2) (.con (.int 0)))
 (.seq (.ret (.comp 4 (.range1 (.var 3)) (.con (.bl true)) (.bi .tuple (.cons (.comp 5 (.range1 (.var 3)) (.con (.bl true)) (.var 4)) .nil))))
 .skip)
 .skip)
 (.seq (.ite (.eqm es (.var 2) (.con (.int 1)))
 (.seq (.ret (.comp 4 (.range1 (.var 3)) (.con (.bl true)) (.bi .tuple (.cons (.comp 5 (.range1 (.var 3)) (.con (.bl true)) (.con (.int 0))) .nil))))
 .skip)
 .skip)
 (.seq (.ite (.eqm es (.var 2) (.con (.int 2)))
 (.seq (.ret (.call f__law_monogenic (.cons (.var 0) (.cons (.var 1) .nil))))
 .skip)
 .skip)
 (.seq (.ite (.eqm es (.var 2) (.con (.int 3)))
 (.seq (.ret (.comp 4 (.range1 (.var 3)) (.con (.bl true)) (.bi .tuple (.cons (.comp 5 (.range1 (.var 3)) (.con (.bl true)) (.bi .min2 (.cons (.var 4) (.cons (.var 5) .nil)))) .nil))))
 .skip)
 .skip)
 (.seq (.ite (.bin .lt (.var 2) (.con (.int 6)))
 (.seq (.ret (.call f__law_of_maps (.cons (.var 0) (.cons (.var 1) .nil))))
 .skip)
 .skip)
 (.seq (.ret (.call f__law_blocks (.cons (.var 0) (.cons (.var 1) .nil))))
 .skip))))))))))
def F_law_plain (f__law_take f__law_monogenic f__law_of_maps f__law_blocks : Nat) (es : List (Nat × Nat)) : Fn := ⟨2, 6, false, 0, 0, B_law_plain f__law_take f__law_monogenic f__law_of_maps f__law_blocks es⟩
/-! _law_extended(state, table, most); names 0:state 1:table 2:most 3:n 4:pick 5:second 6:x 7:row 8:y -/
def B_law_extended (f__law_take : Nat) (es : List (Nat × Nat)) : IS :=
 (.seq (.asg 3 (.bi .len (.cons (.var 1) .nil)))
 (.seq (.asg 4 (.call f__law_take (.cons (.var 0) (.cons (.con (.int 6)) .nil))))
 (.seq (.frz 4)
 (.seq (.ite (.eqm es (.var 4) (.con (.int 0)))
 (.seq (.ret (.comp 6 (.range1 (.var 3)) (.con (.bl true)) (.bi .tuple (.cons (.comp 8 (.range1 (.var 3)) (.con (.bl true)) (.ix (.ix (.var 1) (.var 8)) (.var 6))) .nil))))
 .skip)
 .skip)
 (.seq (.ite (.and (.eqm es (.var 4) (.con (.int 1))) (.bin .lt (.var 3) (.var 2)))
 (.seq (.ret (.bin .add (.comp 7 (.var 1) (.con (.bl true)) (.bin .add (.var 7) (.tup (.cons (.var 3) .nil)))) (.lst (.cons (.bi .tuple (.cons (.comp 8 (.range1 (.bin .add (.var 3) (.con (.int 1)))) (.con (.bl true)) (.var 3)) .nil)) .nil))))
 .skip)
 .skip)
 (.seq (.ite (.and (.eqm es (.var 4) (.con (.int 2))) (.bin .lt (.var 3) (.var 2)))
 (.seq (.ret (.bin .add (.comp 6 (.range1 (.var 3)) (.con (.bl true)) (.bin .add (.ix (.var 1) (.var 6)) (.tup (.cons (.var 6) .nil)))) (.lst (.cons (.lrange true (.range1 (.bin .add (.var 3) (.con (.int 1))))) .nil))))
 .skip)
 .skip)
 (.seq (.ite (.and (.eqm es (.var 4) (.con (.int 3))) (.bin .le (.bin .mul (.con (.int 2)) (.var 3)) (.var 2)))
 (.seq (.asg 5 (.lst (.cons (.tup (.cons (.con (.int 0)) (.cons (.con (.int 0)) .nil))) (.cons (.tup (.cons (.con (.int 0)) (.cons (.con (.int 1)) .nil))) .nil))))
 (.seq (.frz 5)
 (.seq (.ite (.eqm es (.call f__law_take (.cons (.var 0) (.cons (.con (.int 2)) .nil))) (.con (.int 0)))
 (.seq (.asg 5 (.lst (.cons (.tup (.cons (.con (.int 0)) (.cons (.con (.int 1)) .nil))) (.cons (.tup (.cons (.con (.int 1)) (.cons (.con (.int 0)) .nil))) .nil))))
 (.seq (.frz 5)
 .skip))
 .skip)
 (.seq (.ret (.comp 6 (.range1 (.bin .mul (.con (.int 2)) (.var 3))) (.con (.bl true)) (.bi .tuple (.cons (.comp 8 (.range1 (.bin .mul (.con (.int 2)) (.var 3))) (.con (.bl true)) (.bin .add (.bin .mul (.con (.int 2)) (.ix (.ix (.var 1) (.bin .fdiv (.var 6) (.con (.int 2)))) (.bin .fdiv (.var 8) (.con (.int 2))))) (.ix (.ix (.var 5) (.bin .mod (.bi .int (.cons (.var 6) .nil)) (.con (.int 2)))) (.bin .mod (.bi .int (.cons (.var 8) .nil)) (.con (.int 2)))))) .nil))))
 .skip))))
 .skip)
 (.seq (.retv 1)
 .skip))))))))
def F_law_extended (f__law_take : Nat) (es : List (Nat × Nat)) : Fn := ⟨3, 9, false, 0, 0, B_law_extended f__law_take es⟩
/-! _law_semigroup(state, most); names 0:state 1:most 2:table -/
def B_law_semigroup (f__law_extended f__law_plain f__law_renamed f__law_order_of : Nat) : IS :=
 (.seq (.asg 2 (.call f__law_extended (.cons (.var 0) (.cons (.call f__law_plain (.cons (.var 0) (.cons (.var 1) .nil))) (.cons (.var 1) .nil)))))
 (.seq (.frz 2)
 (.seq (.ret (.call f__law_renamed (.cons (.var 2) (.cons (.call f__law_order_of (.cons (.var 0) (.cons (.bi .len (.cons (.var 2) .nil)) .nil))) .nil))))
 .skip)))
def F_law_semigroup (f__law_extended f__law_plain f__law_renamed f__law_order_of : Nat) : Fn := ⟨2, 3, false, 0, 0, B_law_semigroup f__law_extended f__law_plain f__law_renamed f__law_order_of⟩

/-! ### drawing -/
def SpTake (g : Rn) : Prop := ∀ (m : Int) (s : List D), 0 < m → m < 1000000000000 → StOk s → ∃ v s', StOk s' ∧ 0 ≤ v ∧ v < m ∧ g [.imm (.sref 0), .imm (.int m)] [s] = .ok (.imm (.int v)) [s']
theorem sp_take {cf : CF} {W : Nat} : SpTake (runFn cf W fTake) := by
  intro m s h0 h1 hs
  obtain ⟨v, s', k1, k2, k3, k4⟩ := take_run (cf := cf) (W := W) (k := 0) (m := m) (st := [s]) rfl hs h0 h1
  exact ⟨v, s', k1, k2, k3, k4⟩
/-! ### an order of n numbers -/
def Pm (n : Nat) (f : Int → Int) : Prop := (vec n f).Perm (rng n)
theorem pm_clo {n : Nat} {f : Int → Int} (h : Pm n f) : Clo1 n n f := fun x x0 x1 => by
  have : f x ∈ vec n f := List.mem_map.mpr ⟨x, rng_mem.mpr ⟨x0, x1⟩, rfl⟩
  exact rng_mem.mp (h.mem_iff.mp this)
theorem rng_nodup (n : Nat) : (rng n).Nodup := by
  exact List.Pairwise.map Int.ofNat (fun a b h e => h (Int.ofNat.inj e)) List.nodup_range
theorem nodup_inj {β γ : Type} {f : β → γ} : ∀ {xs : List β}, (xs.map f).Nodup → ∀ x ∈ xs, ∀ y ∈ xs, f x = f y → x = y
  | [], _, x, hx, _, _, _ => nomatch hx
  | a :: xs, h, x, hx, y, hy, e => by
    rw [List.map_cons, List.nodup_cons] at h
    cases hx with
    | head => cases hy with
      | head => rfl
      | tail _ hy => exact absurd (List.mem_map.mpr ⟨y, hy, e.symm⟩) h.1
    | tail _ hx => cases hy with
      | head => exact absurd (List.mem_map.mpr ⟨x, hx, e⟩) h.1
      | tail _ hy => exact nodup_inj h.2 x hx y hy e
theorem pm_inj {n : Nat} {f : Int → Int} (h : Pm n f) {x y : Int} (x0 : 0 ≤ x) (x1 : x < (n : Int)) (y0 : 0 ≤ y) (y1 : y < (n : Int)) (e : f x = f y) : x = y :=
  nodup_inj (h.nodup_iff.mpr (rng_nodup n)) x (rng_mem.mpr ⟨x0, x1⟩) y (rng_mem.mpr ⟨y0, y1⟩) e
theorem pm_sur {n : Nat} {f : Int → Int} (h : Pm n f) {y : Int} (y0 : 0 ≤ y) (y1 : y < (n : Int)) : ∃ x, 0 ≤ x ∧ x < (n : Int) ∧ f x = y := by
  have : y ∈ vec n f := h.mem_iff.mpr (rng_mem.mpr ⟨y0, y1⟩)
  obtain ⟨x, hx, e⟩ := List.mem_map.mp this
  exact ⟨x, (rng_mem.mp hx).1, (rng_mem.mp hx).2, e⟩
theorem erase_map {β γ : Type} (f : β → γ) (xs : List β) (i : Nat) : (xs.map f).eraseIdx i = (xs.eraseIdx i).map f := by
  rw [List.eraseIdx_eq_take_drop_succ, List.eraseIdx_eq_take_drop_succ, List.map_append, List.map_take, List.map_drop]
theorem erase_perm {β : Type} {xs : List β} {i : Nat} (h : i < xs.length) : (xs[i] :: xs.eraseIdx i).Perm xs := by
  rw [List.eraseIdx_eq_take_drop_succ]
  refine List.perm_middle.symm.trans ?_
  rw [← List.drop_eq_getElem_cons h, List.take_append_drop]
def SpOrder (g : Rn) : Prop := ∀ (n : Nat) (s : List D), n ≤ 1000 → StOk s → ∃ f s', StOk s' ∧ Pm n f ∧ g [.imm (.sref 0), .imm (.int (n : Int))] [s] = .ok (.imm (.lst (vec n fun x => .int (f x)))) [s']
theorem sp_order {cf : CF} {W i : Nat} (h : SpTake (cf i)) : SpOrder (runFn cf W (F_law_order_of i)) := by
  intro n s hn hs
  have key : (runFn cf W (F_law_order_of i) [.imm (.sref 0), .imm (.int (n : Int))] [s]).wp (fun c s => ∃ f s', s = [s'] ∧ StOk s' ∧ Pm n f ∧ c = .imm (.lst (vec n fun x => .int (f x)))) noX := by
    refine run_wp rfl rfl ?_
    show (evS cf W (B_law_order_of i) [.imm (.sref 0), .imm (.int (n : Int)), .undef, .undef, .undef] [s]).wp _
    unfold B_law_order_of
    walk_at "go"
    apply wp_for (fun j ρ s => ∃ (s' : List D) (L R : List Int) (a : Cell), s = [s'] ∧ StOk s' ∧ ρ = [.imm (.sref 0), .imm (.int (n : Int)), .own ((L.map D.int).map .imm), .own ((R.map D.int).map .imm), a] ∧ R.length = j ∧ (R ++ L).Perm (rng n))
    · walk_at "ev"
    · walk_at "for"
    · exact ⟨s, rng n, [], _, rfl, hs, rfl, rfl, List.Perm.refl _⟩
    · rintro j ρ _ hj ⟨s', L, R, a, rfl, hs', rfl, hR, hp⟩
      have hlen : L.length = n - j := by
        have := hp.length_eq
        rw [List.length_append, rng_length] at this
        omega
      have hl : (((L.map D.int).map Cell.imm).length : Int) = ((n - j : Nat) : Int) := by rw [List.length_map, List.length_map, hlen]
      obtain ⟨v, s2, q1, q2, q3, q4⟩ := h ((n - j : Nat) : Int) s' (by omega) (by omega) hs'
      walk_at "set"
      apply wp_seq
      have hget : L[v.toNat]? = some (L[v.toNat]'(by omega)) := List.getElem?_eq_getElem (by omega)
      apply wp_apopQ rfl rfl (by decide) (small_of (by rw [List.length_map, List.length_map]; omega))
      have e : evE cf (.call i (.cons (.var 0) (.cons (.bi .len (.cons (.var 2) .nil)) .nil))) [.imm (.sref 0), .imm (.int (n : Int)), .own ((L.map D.int).map .imm), .own ((R.map D.int).map .imm), .imm (.int (j : Int))] [s'] = .ok (.imm (.int v)) [s2] := by
        refine ev_call (xs := [.imm (.sref 0), .imm (.int ((n - j : Nat) : Int))]) ?_ (by walk_at "pass") q4
        refine ev_cons (ev_var rfl) (ev_cons (ev_bi (ev_cons (ev_varO rfl) ev_nil) (len_B ?_)) ev_nil)
        rw [List.length_map, List.length_map, hlen]
      refine Re.wp_of e ⟨v, v.toNat, .int (L[v.toNat]'(by omega)), rfl, decide_eq_true (by omega), ixOf_in q2 (by omega), ?_, ?_⟩
      · rw [List.getElem?_map, List.getElem?_map, hget]; rfl
      · walk_at "set"
        walk_at "go"
        refine ⟨s2, L.eraseIdx v.toNat, R ++ [L[v.toNat]'(by omega)], .imm (.int (j : Int)), rfl, q1, ?_, ?_, ?_⟩
        · rw [List.map_append, List.map_append, ← erase_map, ← erase_map]
          rfl
        · rw [List.length_append, hR]; rfl
        · refine List.Perm.trans ?_ hp
          rw [List.append_assoc]
          exact List.Perm.append_left R (erase_perm (by omega))
    · rintro ρ _ ⟨s', L, R, a, rfl, hs', rfl, hR, hp⟩
      walk_at "go"
      have hL : L = [] := by
        have := hp.length_eq
        rw [List.length_append, rng_length] at this
        exact List.length_eq_zero_iff.mp (by omega)
      subst hL
      rw [List.append_nil] at hp
      obtain ⟨f, rfl⟩ := of_vec hR
      refine ⟨f, s', rfl, hs', hp, ?_⟩
      rw [vec_map]
  obtain ⟨c, _, e, f, s', rfl, h1, h2, rfl⟩ := Re.wp_ex key
  exact ⟨f, s', h1, h2, e⟩
/-! ### a table with other numbers -/
def SpRenamed (g : Rn) : Prop := ∀ (n : Nat) (m : Int → Int → Int) (f : Int → Int) (st : Store), n ≤ 1000 → Clo n m → Pm n f → ∃ m' : Int → Int → Int, (∀ x y : Int, 0 ≤ x → x < (n : Int) → 0 ≤ y → y < (n : Int) → m' (f x) (f y) = f (m x y)) ∧ g [.imm (tabL n m), .imm (.lst (vec n fun x => .int (f x)))] st = .ok (.own ((vec n fun x => rowT n (m' x)).map .imm)) st
theorem sp_renamed {cf : CF} {W : Nat} : SpRenamed (runFn cf W F_law_renamed) := by
  intro n m f st hn hm hf
  have hf1 := pm_clo hf
  have key : (runFn cf W F_law_renamed [.imm (tabL n m), .imm (.lst (vec n fun x => .int (f x)))] st).wp (fun c s => s = st ∧ ∃ m' : Int → Int → Int, (∀ x y : Int, 0 ≤ x → x < (n : Int) → 0 ≤ y → y < (n : Int) → m' (f x) (f y) = f (m x y)) ∧ c = .own ((vec n fun x => rowT n (m' x)).map .imm)) noX := by
    refine run_wp rfl rfl ?_
    show (evS cf W B_law_renamed [.imm (tabL n m), .imm (.lst (vec n fun x => .int (f x))), .undef, .undef, .undef, .undef, .undef] st).wp _
    unfold B_law_renamed
    walk_at "go"
    apply wp_asg (c := .own (vec n fun x => .own ((vec n fun y => .int ((fun _ _ => 0) x y)).map .imm)))
    · apply ev_compVC (g := fun x => .own ((vec n fun y => .int 0).map .imm))
      · walk_at "ev"
      · walk_at "it"
      · omega
      · intro x x0 x1
        walk_at "set"
        walk_at "ev"
      · intro x; rfl
    · rw [ownable]
    walk_at "set"
    walk_at "red"
    apply wp_seq
    apply wp_for (fun i ρ s => s = st ∧ ∃ (g : Int → Int → Int) (a b c : Cell), ρ = [.imm (tabL n m), .imm (.lst (vec n fun x => .int (f x))), .imm (.int (n : Int)), .own (vec n fun x => .own ((vec n fun y => .int (g x y)).map .imm)), a, b, c] ∧ ∀ x y : Int, 0 ≤ x → x < (i : Int) → 0 ≤ y → y < (n : Int) → g (f x) (f y) = f (m x y))
    · walk_at "ev"
    · walk_at "for"
    · exact ⟨rfl, _, _, _, _, rfl, fun x y h1 h2 => by omega⟩
    · rintro x ρ s hx ⟨rfl, g, a, b, c, rfl, hg⟩
      walk_at "set"
      apply wp_seq
      apply wp_for (fun j ρ s' => s' = s ∧ ∃ (g : Int → Int → Int) (b c : Cell), ρ = [.imm (tabL n m), .imm (.lst (vec n fun x => .int (f x))), .imm (.int (n : Int)), .own (vec n fun x => .own ((vec n fun y => .int (g x y)).map .imm)), .imm (.int (x : Int)), b, c] ∧ (∀ x' y : Int, 0 ≤ x' → x' < (x : Int) → 0 ≤ y → y < (n : Int) → g (f x') (f y) = f (m x' y)) ∧ ∀ y : Int, 0 ≤ y → y < (j : Int) → g (f x) (f y) = f (m x y))
      · walk_at "ev"
      · walk_at "for"
      · exact ⟨rfl, g, _, _, rfl, hg, fun y h1 h2 => by omega⟩
      · rintro y ρ s hy ⟨rfl, g, b, c, rfl, hg, hh⟩
        walk_at "set"
        have h1 := hf1 x (by omega) (by omega)
        have h2 := hf1 y (by omega) (by omega)
        apply wp_seq
        apply wp_set2V (g := fun x y => .int (g x y)) rfl
        · walk_at "ev"
        · walk_at "ev"
        · walk_at "ev"
        · omega
        · omega
        · omega
        · omega
        walk_at "set"
        walk_at "go"
        refine ⟨rfl, fun u v => if u = f x ∧ v = f y then f (m x y) else g u v, .imm (.int (y : Int)), c, ?_, fun u v u0 u1 v0 v1 => ?_, fun v v0 v1 => ?_⟩
        · have : (fun u => Cell.own ((vec n fun v => if u = f x ∧ v = f y then D.int (f (m x y)) else D.int (g u v)).map .imm)) = fun u => Cell.own ((vec n fun v => D.int (if u = f x ∧ v = f y then f (m x y) else g u v)).map .imm) := by
            funext u
            refine congrArg (fun z => Cell.own (z.map .imm)) (vec_congr fun v _ _ => ?_)
            split <;> rfl
          rw [this]
        · have : ¬ (f u = f x ∧ f v = f y) := fun z => by
            have := pm_inj hf u0 (by omega) (by omega) (by omega) z.1
            omega
          simp only [if_neg this]
          exact hg u v u0 u1 v0 v1
        · by_cases e : v = y
          · subst e
            simp only [and_self, if_true]
          · have : ¬ (f v = f y) := fun z => e (pm_inj hf v0 (by omega) (by omega) (by omega) z)
            simp only [this, and_false, if_false]
            exact hh v v0 (by omega)
      · rintro ρ s ⟨rfl, g, b, c, rfl, hg, hh⟩
        walk_at "go"
        refine ⟨rfl, g, _, _, _, rfl, fun u v u0 u1 v0 v1 => ?_⟩
        by_cases e : u = x
        · subst e; exact hh v v0 v1
        · exact hg u v u0 (by omega) v0 v1
    · rintro ρ s ⟨rfl, g, a, b, c, rfl, hg⟩
      apply wp_seq
      apply wp_frz rfl (keep_ownM (g := fun x => .lst (vec n fun y => .int (g x y))) fun b _ => keep_own _)
      walk_at "set"
      walk_at "red"
      apply wp_seq
      apply wp_ret
      · walk_at "ev"
      · rfl
      · exact ⟨rfl, g, hg, rfl⟩
  obtain ⟨c, _, e, rfl, m', h1, rfl⟩ := Re.wp_ex key
  exact ⟨m', h1, e⟩
/-! ### maps as lists of numbers -/
abbrev mapT (l : List Int) : D := .tup (l.map .int)
def gat (l : List Int) (i : Int) : Int := l.getD i.toNat 0
def aft (f g : List Int) : List Int := f.map (gat g)
def Vd (k : Nat) (l : List Int) : Prop := l.length = k ∧ ∀ x ∈ l, 0 ≤ x ∧ x < (k : Int)
theorem gat_get {l : List Int} {i : Int} (h0 : 0 ≤ i) (h1 : i < (l.length : Int)) : l[i.toNat]? = some (gat l i) := by
  unfold gat
  rw [List.getD_eq_getElem?_getD, List.getElem?_eq_getElem (by omega)]
  rfl
theorem gat_mem {l : List Int} {i : Int} (h0 : 0 ≤ i) (h1 : i < (l.length : Int)) : gat l i ∈ l := List.mem_of_getElem? (gat_get h0 h1)
theorem aft_vd {k : Nat} {f g : List Int} (hf : Vd k f) (hg : Vd k g) : Vd k (aft f g) := by
  refine ⟨by unfold aft; rw [List.length_map, hf.1], fun x hx => ?_⟩
  obtain ⟨y, hy, rfl⟩ := List.mem_map.mp hx
  have := hf.2 y hy
  exact hg.2 _ (gat_mem this.1 (by rw [hg.1]; exact this.2))
theorem gat_aft {f g : List Int} {i : Int} (h0 : 0 ≤ i) (h1 : i < (f.length : Int)) : gat (aft f g) i = gat g (gat f i) := by
  have h2 := gat_get (l := aft f g) h0 (by unfold aft; rw [List.length_map]; exact h1)
  have h3 := gat_get h0 h1
  unfold aft at h2
  rw [List.getElem?_map, h3] at h2
  exact (Option.some.inj h2).symm
theorem aft_assoc {k : Nat} {f g h : List Int} (hf : Vd k f) (hg : Vd k g) : aft (aft f g) h = aft f (aft g h) := by
  unfold aft
  rw [List.map_map]
  refine List.map_congr_left fun x hx => ?_
  have := hf.2 x hx
  exact (gat_aft (f := g) (g := h) this.1 (by rw [hg.1]; exact this.2)).symm
theorem mapT_inj {a b : List Int} (h : mapT a = mapT b) : a = b := by
  injection h with h
  exact List.map_inj_right (fun x y e => D.int.inj e) |>.mp h
theorem mapT_eq {n : Nat} (a b : List Int) : eqN (n + 1) (mapT a) (mapT b) = decide (a = b) := by
  rw [Bool.eq_iff_iff, eqN_iff nice_ints nice_ints, decide_eq_true_eq]
  exact ⟨mapT_inj, fun e => by rw [e]⟩
theorem any_map {n : Nat} {F : List (List Int)} {a : List Int} : ((F.map mapT).any fun y => eqN (n + 1) y (mapT a)) = decide (a ∈ F) := by
  rw [Bool.eq_iff_iff, List.any_eq_true, decide_eq_true_eq]
  constructor
  · rintro ⟨y, hy, e⟩
    obtain ⟨b, hb, rfl⟩ := List.mem_map.mp hy
    rw [mapT_eq, decide_eq_true_eq] at e
    subst e; exact hb
  · intro h
    exact ⟨mapT a, List.mem_map.mpr ⟨a, h, rfl⟩, by rw [mapT_eq, decide_eq_true_eq]⟩
theorem all_maps {n : Nat} {F : List (List Int)} : (F.map mapT).all (okN (n + 1)) = true := by
  rw [List.all_eq_true]
  intro y hy
  obtain ⟨b, _, rfl⟩ := List.mem_map.mp hy
  exact nice_ok nice_ints
-- the place of a map
def pos (F : List (List Int)) (a : List Int) : Int := (F.findIdx fun b => decide (b = a) : Nat)
theorem pos_lt {F : List (List Int)} {a : List Int} (h : a ∈ F) : 0 ≤ pos F a ∧ pos F a < (F.length : Int) := by
  have := List.findIdx_lt_length_of_exists (p := fun b => decide (b = a)) ⟨a, h, decide_eq_true rfl⟩
  unfold pos
  omega
theorem pos_get {F : List (List Int)} {a : List Int} (h : a ∈ F) : F[(pos F a).toNat]? = some a := by
  have h1 := List.findIdx_lt_length_of_exists (p := fun b => decide (b = a)) ⟨a, h, decide_eq_true rfl⟩
  have h2 := List.findIdx_getElem (p := fun b => decide (b = a)) (xs := F) (w := h1)
  have : (pos F a).toNat = F.findIdx fun b => decide (b = a) := by unfold pos; omega
  rw [this, List.getElem?_eq_getElem h1, of_decide_eq_true h2]
theorem index_maps {F : List (List Int)} {a : List Int} (h : a ∈ F) : indexD (F.map mapT) (mapT a) = some (pos F a).toNat := by
  rw [indexD_N (nice_ok nice_ints) all_maps, List.findIdx?_map]
  have e : ((fun y => eqN 4 y (mapT a)) ∘ mapT) = fun b => decide (b = a) := by
    funext b
    exact mapT_eq b a
  rw [e, List.findIdx?_eq_some_of_exists ⟨a, h, decide_eq_true rfl⟩]
  unfold pos
  rw [Int.toNat_natCast]
def SpAfter (g : Rn) : Prop := ∀ (f h : List Int) (st : Store), f.length ≤ 1000 → (∀ x ∈ f, 0 ≤ x ∧ x < (h.length : Int)) → g [.imm (mapT f), .imm (mapT h)] st = .ok (.imm (mapT (aft f h))) st
theorem sp_after {cf : CF} {W : Nat} : SpAfter (runFn cf W F_law_after) := by
  intro f h st hl hx
  refine Re.wp_eq (run_wp rfl rfl ?_)
  show (evS cf W B_law_after [.imm (mapT f), .imm (mapT h), .undef] st).wp _
  unfold B_law_after
  apply wp_seq
  apply wp_ret (c := .imm (mapT (aft f h)))
  · apply ev_bi
    · apply ev_cons
      · apply ev_compD (xs := f) (h := .int) (g := fun x => .int (gat h x))
        · walk_at "ev"
        · exact iterC_tup _
        · exact small_of (by omega)
        · intro x hxm
          have := hx x hxm
          walk_at "set"
          apply ev_ix
          · walk_at "ev"
          · walk_at "ev"
          · exact ix_T this.1 (by rw [List.getElem?_map, gat_get this.1 this.2]; rfl)
      · walk_at "ev"
    · have e : mapT (aft f h) = .tup (f.map fun x => .int (gat h x)) := by
        unfold mapT aft
        rw [List.map_map]
        rfl
      rw [e]
      exact tup_O
  · rfl
  · exact ⟨rfl, rfl⟩
/-! ### all products of maps -/
inductive Gen (ms : List (List Int)) : List Int → Prop where
  | base {g : List Int} (h : g ∈ ms) : Gen ms g
  | step {f g : List Int} (hf : Gen ms f) (h : g ∈ ms) : Gen ms (aft f g)
theorem Gen.vd {k : Nat} {ms : List (List Int)} (hm : ∀ g ∈ ms, Vd k g) {f : List Int} (h : Gen ms f) : Vd k f := by
  induction h with
  | base h => exact hm _ h
  | step _ h ih => exact aft_vd ih (hm _ h)
theorem gen_closed {k : Nat} {ms F : List (List Int)} (hm : ∀ g ∈ ms, Vd k g) (hF : ∀ f ∈ F, Gen ms f) (hc : ∀ f ∈ F, ∀ g ∈ ms, aft f g ∈ F) {g : List Int} (h : Gen ms g) : ∀ f ∈ F, aft f g ∈ F := by
  induction h with
  | base h => exact fun f hf => hc f hf _ h
  | step h1 h2 ih =>
    intro f hf
    rw [← aft_assoc ((hF f hf).vd hm) (h1.vd hm)]
    exact hc _ (ih f hf) _ h2
structure Cls (ms F : List (List Int)) : Prop where
  ne : F ≠ []
  gen : ∀ f ∈ F, Gen ms f
  le : F.length ≤ 30
  cl : F.length < 30 → ∀ f ∈ F, ∀ g ∈ ms, aft f g ∈ F
def SpClosed (g : Rn) : Prop := ∀ (k : Nat) (ms : List (List Int)) (st : Store), k ≤ 1000 → ms ≠ [] → ms.length ≤ 30 → (∀ f ∈ ms, Vd k f) → ∃ F, Cls ms F ∧ g [.imm (.lst (ms.map mapT))] st = .ok (.imm (.lst (F.map mapT))) st
abbrev ownF (F : List (List Int)) : Cell := .own ((F.map mapT).map .imm)
theorem sp_closed {cf : CF} {W i : Nat} (h : SpAfter (cf i)) : SpClosed (runFn cf W (F_law_closed i)) := by
  intro k ms st hk hne hl hm
  have key : (runFn cf W (F_law_closed i) [.imm (.lst (ms.map mapT))] st).wp (fun c s => s = st ∧ ∃ F, Cls ms F ∧ c = .imm (.lst (F.map mapT))) noX := by
    refine run_wp rfl rfl ?_
    generalize hT : D.lst (ms.map mapT) = T
    show (evS cf W (B_law_closed i) [.imm T, .undef, .undef, .undef, .undef, .undef] st).wp _
    unfold B_law_closed
    walk_at "go"
    apply wp_forL (xs := ms) (f := mapT) (fun ys ρ s => s = st ∧ ∃ (F : List (List Int)) (a b c d : Cell), ρ = [.imm T, ownF F, a, b, c, d] ∧ F.length ≤ ys.length ∧ (ys ≠ [] → F ≠ []) ∧ ∀ f ∈ F, Gen ms f)
    · walk_at "ev"
    · rw [← hT]; rfl
    · exact ⟨rfl, [], _, _, _, _, rfl, Nat.le_refl _, fun z => absurd rfl z, fun _ z => nomatch z⟩
    · rintro ys x zs ρ s e ⟨rfl, F, a, b, c, d, rfl, hF1, hF2, hF3⟩
      walk_at "set"
      have hlen : ys.length < ms.length := by rw [e, List.length_append, List.length_cons]; omega
      apply wp_seq
      apply wp_ite (t := !decide (x ∈ F))
      · apply ev_bin
        · walk_at "ev"
        · walk_at "ev"
        · rw [b_notinL dat_imm dat_bor (nice_ok nice_ints) all_maps, any_map]
      · rfl
      · intro hx
        walk_at "go"
        refine ⟨rfl, F ++ [x], .imm (mapT x), b, c, d, ?_, ?_, fun _ => by simp, fun f hf => ?_⟩
        · rw [ownF, List.map_append, List.map_append]; rfl
        · rw [List.length_append, List.length_append]; exact Nat.add_le_add_right hF1 1
        · rcases List.mem_append.mp hf with hf | hf
          · exact hF3 f hf
          · rw [List.mem_singleton.mp hf]
            exact .base (by rw [e]; exact List.mem_append_right _ List.mem_cons_self)
      · intro hx
        rw [Bool.not_eq_false', decide_eq_true_eq] at hx
        walk_at "go"
        exact ⟨rfl, F, _, _, _, _, rfl, by rw [List.length_append]; omega, fun _ z => (by rw [z] at hx; cases hx), hF3⟩
    · rintro ρ s ⟨rfl, F, a, b, c, d, rfl, hF1, hF2, hF3⟩
      have hF2 := hF2 hne
      walk_at "go"
      apply wp_for (n := 30) (fun t ρ s' => s' = s ∧ ∃ (F : List (List Int)) (a b c d : Cell), ρ = [.imm T, ownF F, a, b, c, d] ∧ F ≠ [] ∧ F.length ≤ 30 ∧ (∀ f ∈ F, Gen ms f) ∧ (t + 1 ≤ F.length ∨ 30 ≤ F.length ∨ ∀ f ∈ F, ∀ g ∈ ms, aft f g ∈ F))
      · exact ev_range1 ev_con (by decide)
      · walk_at "for"
      · refine ⟨rfl, F, _, _, _, _, rfl, hF2, by omega, hF3, .inl ?_⟩
        have := List.length_pos_iff.mpr hF2
        omega
      · rintro t ρ s ht ⟨rfl, F, a, b, c, d, rfl, hF2, hF1, hF3, hF4⟩
        walk_at "set"
        apply wp_seq
        apply wp_forL (xs := F) (f := mapT) (fun ys ρ s' => s' = s ∧ ∃ (F' : List (List Int)) (a c d : Cell), ρ = [.imm T, ownF (F ++ F'), a, .imm (.int (t : Int)), c, d] ∧ (F ++ F').length ≤ 30 ∧ (∀ f ∈ F', Gen ms f) ∧ (F' = [] ∨ ¬ ∀ f ∈ F, ∀ g ∈ ms, aft f g ∈ F) ∧ (30 ≤ (F ++ F').length ∨ ∀ f ∈ ys, ∀ g ∈ ms, aft f g ∈ F ++ F'))
        · walk_at "ev"
        · exact walk_own _ _ _
        · exact ⟨rfl, [], _, _, _, (by rw [List.append_nil]), (by rw [List.append_nil]; exact hF1), fun _ z => (nomatch z), .inl rfl, .inr fun _ z => nomatch z⟩
        · rintro ys x zs ρ s e ⟨rfl, F', a, c, d, rfl, q1, q2, q3, q4⟩
          walk_at "set"
          have hxF : x ∈ F := by rw [e]; exact List.mem_append_right _ List.mem_cons_self
          apply wp_seq
          apply wp_forL (xs := ms) (f := mapT) (fun us ρ s' => s' = s ∧ ∃ (F' : List (List Int)) (c d : Cell), ρ = [.imm T, ownF (F ++ F'), .imm (mapT x), .imm (.int (t : Int)), c, d] ∧ (F ++ F').length ≤ 30 ∧ (∀ f ∈ F', Gen ms f) ∧ (F' = [] ∨ ¬ ∀ f ∈ F, ∀ g ∈ ms, aft f g ∈ F) ∧ (30 ≤ (F ++ F').length ∨ ((∀ f ∈ ys, ∀ g ∈ ms, aft f g ∈ F ++ F') ∧ ∀ g ∈ us, aft x g ∈ F ++ F')))
          · walk_at "ev"
          · rw [← hT]; rfl
          · refine ⟨rfl, F', _, _, rfl, q1, q2, q3, ?_⟩
            rcases q4 with q4 | q4
            · exact .inl q4
            · exact .inr ⟨q4, fun _ z => nomatch z⟩
          · rintro us g ws ρ s e2 ⟨rfl, F', c, d, rfl, q1, q2, q3, q4⟩
            walk_at "set"
            have q1' := q1
            rw [List.length_append] at q1'
            have hg : g ∈ ms := by rw [e2]; exact List.mem_append_right _ List.mem_cons_self
            have hvx := (hF3 x hxF).vd hm
            have hvg := hm g hg
            have e1 := h x g s (by rw [hvx.1]; exact hk) (fun y hy => by rw [hvg.1]; exact hvx.2 y hy)
            walk_at "go"
            apply wp_ite (t := !decide (aft x g ∈ F ++ F') && decide (((F ++ F').length : Int) < 30))
            · apply ev_andB
              · apply ev_bin
                · walk_at "ev"
                · walk_at "ev"
                · rw [b_notinL dat_imm dat_bor (nice_ok nice_ints) all_maps, any_map]
              · intro _
                apply ev_bin
                · apply ev_bi
                  · walk_at "ev"
                  · exact len_B (n := (F ++ F').length) (by rw [List.length_map, List.length_map])
                · walk_at "ev"
                · walk_at "bin"
            · rfl
            · intro hx
              simp only [Bool.and_eq_true, Bool.not_eq_true', decide_eq_true_eq, decide_eq_false_iff_not] at hx
              walk_at "go"
              refine ⟨rfl, F' ++ [aft x g], .imm (mapT g), .imm (mapT (aft x g)), ?_, ?_, fun f hf => ?_, .inr fun z => hx.1 (List.mem_append_left _ (z x hxF g hg)), ?_⟩
              · simp only [ownF, List.map_append, List.append_assoc, List.map_cons, List.map_nil]
              · rw [← List.append_assoc, List.length_append]
                have := hx.2
                simp only [List.length_cons, List.length_nil]
                omega
              · rcases List.mem_append.mp hf with hf | hf
                · exact q2 f hf
                · rw [List.mem_singleton.mp hf]
                  exact .step (hF3 x hxF) hg
              · rcases q4 with q4 | ⟨q4, q5⟩
                · exact .inl (by rw [← List.append_assoc, List.length_append]; omega)
                · refine .inr ⟨fun f hf u hu => ?_, fun u hu => ?_⟩
                  · rw [← List.append_assoc]; exact List.mem_append_left _ (q4 f hf u hu)
                  · rw [← List.append_assoc]
                    rcases List.mem_append.mp hu with hu | hu
                    · exact List.mem_append_left _ (q5 u hu)
                    · rw [List.mem_singleton.mp hu]
                      exact List.mem_append_right _ List.mem_cons_self
            · intro hx
              walk_at "go"
              refine ⟨rfl, F', _, _, rfl, q1, q2, q3, ?_⟩
              by_cases h30 : 30 ≤ (F ++ F').length
              · exact .inl h30
              · rcases q4 with q4 | ⟨q4, q5⟩
                · exact .inl q4
                · refine .inr ⟨q4, fun u hu => ?_⟩
                  rcases List.mem_append.mp hu with hu | hu
                  · exact q5 u hu
                  · rw [List.mem_singleton.mp hu]
                    have h30' : (((F ++ F').length : Nat) : Int) < 30 := by omega
                    rw [decide_eq_true h30', Bool.and_true, Bool.not_eq_false', decide_eq_true_eq] at hx
                    exact hx
          · rintro ρ s ⟨rfl, F', c, d, rfl, q1, q2, q3, q4⟩
            walk_at "go"
            refine ⟨rfl, F', _, _, _, rfl, q1, q2, q3, ?_⟩
            rcases q4 with q4 | ⟨q4, q5⟩
            · exact .inl q4
            · refine .inr fun f hf g hg => ?_
              rcases List.mem_append.mp hf with hf | hf
              · exact q4 f hf g hg
              · rw [List.mem_singleton.mp hf]
                exact q5 g hg
        · rintro ρ s ⟨rfl, F', a, c, d, rfl, q1, q2, q3, q4⟩
          walk_at "go"
          refine ⟨rfl, F ++ F', _, _, _, _, rfl, fun z => hF2 (List.append_eq_nil_iff.mp z).1, q1, fun f hf => ?_, ?_⟩
          · rcases List.mem_append.mp hf with hf | hf
            · exact hF3 f hf
            · exact q2 f hf
          · by_cases hF' : F' = []
            · subst hF'
              rw [List.append_nil] at q4 ⊢
              exact .inr q4
            · have hpos := List.length_pos_iff.mpr hF'
              rw [List.length_append]
              rcases q3 with q3 | q3
              · exact absurd q3 hF'
              · rcases hF4 with z | z | z
                · exact .inl (by omega)
                · exact .inr (.inl (by omega))
                · exact absurd z q3
      · rintro ρ s ⟨rfl, F, a, b, c, d, rfl, hF2, hF1, hF3, hF4⟩
        walk_at "go"
        refine ⟨rfl, F, ⟨hF2, hF3, hF1, fun hl => ?_⟩, rfl⟩
        rcases hF4 with z | z | z
        · omega
        · omega
        · exact z
  obtain ⟨c, _, e, rfl, F, h1, rfl⟩ := Re.wp_ex key
  exact ⟨F, h1, e⟩
end Q

set_option maxRecDepth 100000
set_option maxHeartbeats 1000000
namespace Q
open PySem
/-! ### drawn lists -/
theorem list_choose {β γ : Type} {F : β → γ} {Q : β → Prop} : ∀ {ys : List γ}, (∀ y ∈ ys, ∃ a, y = F a ∧ Q a) → ∃ as : List β, ys = as.map F ∧ ∀ a ∈ as, Q a
  | [], _ => ⟨[], rfl, fun _ h => nomatch h⟩
  | y :: ys, h => by
    obtain ⟨a, rfl, ha⟩ := h y List.mem_cons_self
    obtain ⟨as, rfl, has⟩ := list_choose fun y hy => h y (List.mem_cons_of_mem _ hy)
    refine ⟨a :: as, rfl, fun b hb => ?_⟩
    cases hb with
    | head => exact ha
    | tail _ hb => exact has b hb
theorem ev_draws {cf : CF} {ρ : Ev} {st : Store} {s1 : List D} {e it : IE} {x : Cell} {n j : Nat} {h : Int → D} {γ : Type} {F : γ → Cell} {Q : γ → Prop} (hit : evE cf it ρ st = .ok x [s1]) (hx : iterC x = some ((vec n h).map .imm)) (hn : n ≤ 1000000) (hs1 : StOk s1) (ho : ∀ a, ownable (F a) = true)
    (he : ∀ i s, 0 ≤ i → i < (n : Int) → StOk s → ∃ a s', StOk s' ∧ Q a ∧ evE cf e (ρ.set j (.imm (h i))) [s] = .ok (F a) [s']) :
    ∃ (as : List γ) (s' : List D), StOk s' ∧ as.length = n ∧ (∀ a ∈ as, Q a) ∧ evE cf (.comp j it (.con (.bl true)) e) ρ st = .ok (.own (as.map F)) [s'] := by
  obtain ⟨ys, _, ⟨s', rfl, k1⟩, k2, k3, k4⟩ := ev_compX (cf := cf) (ρ := ρ) (st := st) (s1 := [s1]) (e := e) (j := j) (J := fun s => ∃ t, s = [t] ∧ StOk t) (xs := rng n) (h := h) (P := fun _ y => ∃ a, y = F a ∧ Q a) hit hx (small_of (by rw [rng_length]; exact hn)) ⟨s1, rfl, hs1⟩ (by
    rintro i hi _ ⟨s, rfl, hs⟩
    rw [rng_mem] at hi
    obtain ⟨a, s', q1, q2, q3⟩ := he i s hi.1 hi.2 hs
    exact ⟨F a, [s'], ⟨s', rfl, q1⟩, ⟨a, rfl, q2⟩, ho a, q3⟩)
  rw [rng_length] at k2
  obtain ⟨as, rfl, h2⟩ := list_choose (ys := ys) (F := F) (Q := Q) fun y hy => by
    obtain ⟨i, hi, e⟩ := List.mem_iff_getElem.mp hy
    obtain ⟨y', e1, e2⟩ := k3 i i (rng_get (by omega))
    rw [List.getElem?_eq_getElem hi, e] at e1
    cases e1
    exact e2
  exact ⟨as, s', k1, by rw [← k2, List.length_map], h2, k4⟩
/-! ### drawn tables -/
abbrev rowsOf (n : Nat) (m : Int → Int → Int) : List D := vec n fun x => rowT n (m x)
def IsL (c : Cell) (ds : List D) : Prop := c = .own (ds.map .imm) ∨ c = .imm (.lst ds)
theorem IsL.own {c : Cell} {ds : List D} (h : IsL c ds) : ownable c = true := by rcases h with rfl | rfl <;> rfl
theorem IsL.keep {c : Cell} {ds : List D} (h : IsL c ds) : keepC c = some (.lst ds) := by
  rcases h with rfl | rfl
  · exact keep_own ds
  · rfl
theorem IsL.pass {c : Cell} {ds : List D} (h : IsL c ds) : passC c = some (.imm (.lst ds)) := by
  rcases h with rfl | rfl
  · exact pass_own (keep_own ds)
  · rfl
def DrawT (g : Rn) (as : List Cell) (most : Nat) (s : List D) : Prop := ∃ (n : Nat) (m : Int → Int → Int) (c : Cell) (s' : List D), StOk s' ∧ 1 ≤ n ∧ n ≤ most ∧ Clo n m ∧ Asc n m ∧ IsL c (rowsOf n m) ∧ g as [s] = .ok c [s']
def SpTab (g : Rn) : Prop := ∀ (most : Nat) (s : List D), 1 ≤ most → most ≤ 24 → StOk s → DrawT g [.imm (.sref 0), .imm (.int (most : Int))] most s
theorem map_vec {β γ : Type} (xs : List β) (d : β) (f : β → γ) : xs.map f = vec xs.length fun i => f (xs.getD i.toNat d) := by
  refine List.ext_getElem? fun j => ?_
  by_cases hj : j < xs.length
  · rw [vec_get hj, List.getElem?_map, List.getElem?_eq_getElem hj, List.getD_eq_getElem?_getD, Int.toNat_natCast, List.getElem?_eq_getElem hj]
    rfl
  · rw [List.getElem?_eq_none_iff.mpr (by rw [List.length_map]; omega), List.getElem?_eq_none_iff.mpr (by rw [vec_length]; omega)]
-- a closed list of maps as a table
theorem maps_table {k : Nat} {F : List (List Int)} (hv : ∀ f ∈ F, Vd k f) (hc : ∀ f ∈ F, ∀ g ∈ F, aft f g ∈ F) :
    ∃ m, Clo F.length m ∧ Asc F.length m ∧ (F.map fun f => D.tup (F.map fun g => .int (pos F (aft f g)))) = rowsOf F.length m := by
  have at_ : ∀ x : Int, 0 ≤ x → x < (F.length : Int) → F.getD x.toNat [] ∈ F := fun x x0 x1 => by
    rw [List.getD_eq_getElem?_getD, List.getElem?_eq_getElem (by omega)]
    exact List.getElem_mem _
  have ps : ∀ a ∈ F, F.getD (pos F a).toNat [] = a := fun a ha => by rw [List.getD_eq_getElem?_getD, pos_get ha]; rfl
  refine ⟨fun x y => pos F (aft (F.getD x.toNat []) (F.getD y.toNat [])), fun x y x0 x1 y0 y1 => pos_lt (hc _ (at_ x x0 x1) _ (at_ y y0 y1)), fun x y z x0 x1 y0 y1 z0 z1 => ?_, ?_⟩
  · simp only
    rw [ps _ (hc _ (at_ x x0 x1) _ (at_ y y0 y1)), ps _ (hc _ (at_ y y0 y1) _ (at_ z z0 z1)), aft_assoc (hv _ (at_ x x0 x1)) (hv _ (at_ y y0 y1))]
  · rw [map_vec F [] fun f => D.tup (F.map fun g => .int (pos F (aft f g)))]
    refine vec_congr fun x _ _ => ?_
    rw [map_vec F [] fun g => D.int (pos F (aft (F.getD x.toNat []) g))]
theorem cls_closed {k : Nat} {ms F : List (List Int)} (hm : ∀ g ∈ ms, Vd k g) (h : Cls ms F) (hl : F.length < 30) : ∀ f ∈ F, ∀ g ∈ F, aft f g ∈ F :=
  fun f hf g hg => gen_closed hm h.gen (h.cl hl) (h.gen g hg) f hf
theorem sp_of_maps {cf : CF} {W i j l : Nat} (ht : SpTake (cf i)) (hcl : SpClosed (cf j)) (haf : SpAfter (cf l)) : SpTab (runFn cf W (F_law_of_maps i j l)) := by
  intro most s hmo hmo2 hs
  have key : (runFn cf W (F_law_of_maps i j l) [.imm (.sref 0), .imm (.int (most : Int))] [s]).wp (fun c st => ∃ (n : Nat) (m : Int → Int → Int) (s' : List D), st = [s'] ∧ StOk s' ∧ 1 ≤ n ∧ n ≤ most ∧ Clo n m ∧ Asc n m ∧ IsL c (rowsOf n m)) noX := by
    refine run_wp rfl rfl ?_
    show (evS cf W (B_law_of_maps i j l) [.imm (.sref 0), .imm (.int (most : Int)), .undef, .undef, .undef, .undef, .undef, .undef, .undef] [s]).wp _
    unfold B_law_of_maps
    obtain ⟨v, s1, hs1, v0, v1, e1⟩ := ht 2 s (by decide) (by decide) hs
    obtain ⟨k, hk⟩ : ∃ k : Nat, 2 + v = (k : Int) := ⟨(2 + v).toNat, by omega⟩
    apply wp_seq
    apply wp_asg (c := .imm (.int (k : Int)))
    · rw [← hk]
      walk_at "ev"
    · rfl
    walk_at "set"
    walk_at "red"
    walk_at "go"
    obtain ⟨u, s2, hs2, u0, u1, e2⟩ := ht 2 s1 (by decide) (by decide) hs1
    obtain ⟨c, hc⟩ : ∃ c : Nat, 1 + u = (c : Int) := ⟨(1 + u).toNat, by omega⟩
    apply wp_for (n := c) (f := .int) (fun t ρ st => ∃ (s' : List D) (ms : List (List Int)) (a b c d e : Cell), st = [s'] ∧ StOk s' ∧ ms.length = t ∧ (∀ f ∈ ms, Vd k f) ∧ ρ = [.imm (.sref 0), .imm (.int (most : Int)), .imm (.int (k : Int)), ownF ms, a, b, c, d, e])
    · apply ev_range1
      · rw [← hc]
        walk_at "ev"
      · omega
    · walk_at "for"
    · exact ⟨s2, [], _, _, _, _, _, rfl, hs2, rfl, fun _ z => (nomatch z), rfl⟩
    · rintro t ρ _ ht' ⟨s', ms, a, b, c', d, e, rfl, hs', hl, hv, rfl⟩
      walk_at "set"
      apply wp_seq
      obtain ⟨as, s3, q1, q2, q3, q4⟩ := ev_draws (cf := cf) (ρ := [.imm (.sref 0), .imm (.int (most : Int)), .imm (.int (k : Int)), ownF ms, .imm (.int (t : Int)), b, c', d, e]) (st := [s']) (s1 := s') (e := .call i (.cons (.var 0) (.cons (.var 2) .nil))) (it := .range1 (.var 2)) (n := k) (j := 8) (h := .int) (F := fun v : Int => .imm (.int v)) (Q := fun v => 0 ≤ v ∧ v < (k : Int)) (ev_range1 (ev_var rfl) (by omega)) it_own (by omega) hs' (fun _ => rfl) (fun x s x0 x1 hs => by
        obtain ⟨v, s', p1, p2, p3, p4⟩ := ht k s (by omega) (by omega) hs
        exact ⟨v, s', p1, ⟨p2, p3⟩, by walk_at "set"; walk_at "ev"⟩)
      have et : biC .tuple [.own (as.map fun v => Cell.imm (.int v))] = some (.imm (mapT as)) := by
        rw [show (as.map fun v => Cell.imm (.int v)) = (as.map D.int).map Cell.imm by rw [List.map_map]; rfl]
        exact tup_O
      apply wp_app rfl (ev_bi (ev_cons q4 ev_nil) et) rfl (small_of (by rw [List.length_map, List.length_map]; omega))
      walk_at "set"
      walk_at "red"
      walk_at "go"
      refine ⟨s3, ms ++ [as], _, b, c', d, e, rfl, q1, by rw [List.length_append, hl]; rfl, fun f hf => ?_, by simp only [ownF, List.map_append, List.map_cons, List.map_nil]; rfl⟩
      rcases List.mem_append.mp hf with hf | hf
      · exact hv f hf
      · rw [List.mem_singleton.mp hf]
        exact ⟨q2, q3⟩
    · rintro ρ _ ⟨s', ms, a, b, c', d, e, rfl, hs', hl, hv, rfl⟩
      have hne : ms ≠ [] := fun z => by rw [z] at hl; simp at hl; omega
      obtain ⟨F, hF, e3⟩ := hcl k ms [s'] (by omega) hne (by omega) hv
      obtain ⟨f0, ms', rfl⟩ : ∃ f0 ms', ms = f0 :: ms' := by
        cases ms with
        | nil => exact absurd rfl hne
        | cons f0 ms' => exact ⟨f0, ms', rfl⟩
      have hv0 := hv f0 List.mem_cons_self
      obtain ⟨F1, hF1, e4⟩ := hcl k [f0] [s'] (by omega) (by simp) (by simp) (fun f hf => by rw [List.mem_singleton.mp hf]; exact hv0)
      have fin : ∀ (G : List (List Int)) (a b c d : Cell) (K : Wish), G ≠ [] → (∀ f ∈ G, Vd k f) → (∀ f ∈ G, ∀ g ∈ G, aft f g ∈ G) → G.length ≤ most → (∀ c, IsL c (G.map fun f => D.tup (G.map fun g => .int (pos G (aft f g)))) → K.R c [s']) → (evS cf W (.ret (.comp 6 (.var 5) (.con (.bl true)) (.bi .tuple (.cons (.comp 7 (.var 5) (.con (.bl true)) (.index (.var 5) (.call l (.cons (.var 6) (.cons (.var 7) .nil))))) .nil)))) [.imm (.sref 0), .imm (.int (most : Int)), .imm (.int (k : Int)), .imm (.lst ((f0 :: ms').map mapT)), a, .imm (.lst (G.map mapT)), b, c, d] [s']).wp K := by
        intro G a b c d K hG0 hGv hGc hGl hK
        have haf' := fun (f : List Int) (hf : f ∈ G) (g : List Int) (hg : g ∈ G) => haf f g [s'] (by rw [(hGv f hf).1]; omega) (fun y hy => by rw [(hGv g hg).1]; exact (hGv f hf).2 y hy)
        walk_at "go"
        apply wp_ret
        · apply ev_compD (xs := G) (h := mapT) (g := fun f => D.tup (G.map fun g => .int (pos G (aft f g))))
          · walk_at "ev"
          · exact iterC_lst _
          · exact small_of (by omega)
          · intro f hf
            walk_at "set"
            apply ev_bi
            · apply ev_cons
              · apply ev_compD (xs := G) (h := mapT) (g := fun g => .int (pos G (aft f g)))
                · walk_at "ev"
                · exact iterC_lst _
                · exact small_of (by omega)
                · intro g hg
                  walk_at "set"
                  have hin := hGc f hf g hg
                  refine ev_to (ev_index (xs := G.map mapT) (j := (pos G (aft f g)).toNat) (by walk_at "ev") rfl (ev_call (by walk_at "ev") (by walk_at "pass") (haf' f hf g hg)) ?_) ?_
                  · exact index_maps hin
                  · rw [Int.toNat_of_nonneg (pos_lt hin).1]
              · walk_at "ev"
            · exact tup_O
        · rfl
        · exact hK _ (.inl rfl)
      walk_at "go"
      apply wp_ite (t := decide ((most : Int) < (F.length : Int)))
      · apply ev_bin
        · apply ev_bi
          · walk_at "ev"
          · exact len_L (n := F.length) (List.length_map _)
        · walk_at "ev"
        · walk_at "bin"
      · rfl
      · intro h1
        rw [decide_eq_true_eq] at h1
        have esl : evE cf (.slc (.var 3) .nopart (.con (.int 1))) [.imm (.sref 0), .imm (.int (most : Int)), .imm (.int (k : Int)), .imm (.lst ((f0 :: ms').map mapT)), a, .imm (.lst (F.map mapT)), c', d, e] [s'] = .ok (.own (([f0].map mapT).map .imm)) [s'] := by
          refine ev_slc (ev_var rfl) ev_nopart rfl ev_con (ph := some 1) rfl ?_
          show some (owns (cutD ((f0 :: ms').map mapT) none (some 1))) = _
          unfold cutD HT.sIx
          simp [owns]
        apply wp_seq
        apply wp_asg
        · exact ev_call (ev_cons esl ev_nil) (by walk_at "pass") e4
        · rfl
        walk_at "set"
        walk_at "red"
        walk_at "go"
        apply wp_ite (t := decide ((most : Int) < (F1.length : Int)))
        · apply ev_bin
          · apply ev_bi
            · walk_at "ev"
            · exact len_L (n := F1.length) (List.length_map _)
          · walk_at "ev"
          · walk_at "bin"
        · rfl
        · intro h2
          rw [decide_eq_true_eq] at h2
          have hk1 : (0 : Int) < (f0.length : Int) := by rw [hv0.1]; omega
          have hw := hv0.2 _ (gat_mem (l := f0) (Int.le_refl 0) hk1)
          have hG : Vd k (vec k fun _ => gat f0 0) := ⟨vec_length _ _, fun x hx => by obtain ⟨_, _, rfl⟩ := List.mem_map.mp hx; exact hw⟩
          have hA : aft (vec k fun _ => gat f0 0) (vec k fun _ => gat f0 0) = vec k fun _ => gat f0 0 := by
            unfold aft
            rw [vec_map]
            refine vec_congr fun x _ _ => ?_
            have := gat_get (l := vec k fun _ => gat f0 0) (i := gat f0 0) hw.1 (by rw [vec_length]; exact hw.2)
            rw [vec_get (by omega)] at this
            exact (Option.some.inj this).symm
          have ev0 : evE cf (.lst (.cons (.bi .tuple (.cons (.comp 8 (.range1 (.var 2)) (.con (.bl true)) (.ix (.ix (.var 3) (.con (.int 0))) (.con (.int 0)))) .nil)) .nil)) [.imm (.sref 0), .imm (.int (most : Int)), .imm (.int (k : Int)), .imm (.lst ((f0 :: ms').map mapT)), a, .imm (.lst (F1.map mapT)), c', d, e] [s'] = .ok (.own (([vec k fun _ => gat f0 0].map mapT).map .imm)) [s'] := by
            refine ev_lst (ev_cons (ev_bi (ev_cons (ev_compV (n := k) (g := fun _ => .int (gat f0 0)) (ev_range1 (ev_var rfl) (by omega)) it_own (by omega) ?_) ev_nil) ?_) ev_nil) rfl rfl
            · intro x x0 x1
              walk_at "set"
              refine ev_ix (ev_ix (ev_var rfl) ev_con (ix_L (d := mapT f0) (Int.le_refl 0) rfl)) ev_con (ix_T (Int.le_refl 0) ?_)
              rw [List.getElem?_map, gat_get (Int.le_refl 0) hk1]
              rfl
            · have e9 : mapT (vec k fun _ => gat f0 0) = .tup (vec k fun _ => .int (gat f0 0)) := by
                unfold mapT
                rw [vec_map]
              rw [e9]
              exact tup_O
          apply wp_seq
          apply wp_asg ev0 rfl
          walk_at "set"
          walk_at "red"
          walk_at "go"
          apply fin [vec k fun _ => gat f0 0] _ _ _ _ _ (by simp) (fun f hf => by rw [List.mem_singleton.mp hf]; exact hG) (fun f hf g hg => by rw [List.mem_singleton.mp hf, List.mem_singleton.mp hg, hA]; exact List.mem_cons_self) hmo
          intro c hc
          obtain ⟨m, q1, q2, q3⟩ := maps_table (k := k) (F := [vec k fun _ => gat f0 0]) (fun f hf => by rw [List.mem_singleton.mp hf]; exact hG) (fun f hf g hg => by rw [List.mem_singleton.mp hf, List.mem_singleton.mp hg, hA]; exact List.mem_cons_self)
          rw [q3] at hc
          exact ⟨1, m, s', rfl, hs', Nat.le_refl _, hmo, q1, q2, hc⟩
        · intro h2
          rw [decide_eq_false_iff_not] at h2
          have hvs : ∀ f ∈ F1, Vd k f := fun f hf => (hF1.gen f hf).vd (fun f hf => by rw [List.mem_singleton.mp hf]; exact hv0)
          have hcs := cls_closed (k := k) (fun f hf => by rw [List.mem_singleton.mp hf]; exact hv0) hF1 (by omega)
          walk_at "go"
          apply fin F1 _ _ _ _ _ hF1.ne hvs hcs (by omega)
          intro c hc
          obtain ⟨m, q1, q2, q3⟩ := maps_table hvs hcs
          rw [q3] at hc
          have := List.length_pos_iff.mpr hF1.ne
          exact ⟨_, m, s', rfl, hs', by omega, by omega, q1, q2, hc⟩
      · intro h1
        rw [decide_eq_false_iff_not] at h1
        walk_at "go"
        apply wp_iteF
        · apply ev_bin
          · apply ev_bi
            · walk_at "ev"
            · exact len_L (n := F.length) (List.length_map _)
          · walk_at "ev"
          · walk_at "bin"
        · exact congrArg some (decide_eq_false h1)
        have hvs : ∀ f ∈ F, Vd k f := fun f hf => (hF.gen f hf).vd hv
        have hcs := cls_closed (k := k) hv hF (by omega)
        walk_at "go"
        apply fin F _ _ _ _ _ hF.ne hvs hcs (by omega)
        intro c hc
        obtain ⟨m, q1, q2, q3⟩ := maps_table hvs hcs
        rw [q3] at hc
        have := List.length_pos_iff.mpr hF.ne
        exact ⟨_, m, s', rfl, hs', by omega, by omega, q1, q2, hc⟩
  obtain ⟨c, _, e, n, m, s', rfl, h1, h2, h3, h4, h5, h6⟩ := Re.wp_ex key
  exact ⟨n, m, c, s', h1, h2, h3, h4, h5, h6, e⟩

/-! ### powers of one element -/
def red (idx p n k : Int) : Int := if n < k then idx + (k - idx) % p else k
theorem red_red {idx p n k j : Int} (hp : 0 < p) (h1 : 1 ≤ idx) (hn : n = idx + p - 1) (hj : 0 ≤ j) (hk : 0 ≤ k) : red idx p n (red idx p n k + j) = red idx p n (k + j) := by
  unfold red
  by_cases h : n < k
  · rw [if_pos h, if_pos (show n < k + j by omega)]
    have b0 := Int.emod_nonneg (k - idx) (show p ≠ 0 by omega)
    have b1 := Int.emod_lt_of_pos (k - idx) hp
    have e : (k + j - idx) % p = ((k - idx) % p + j) % p := by
      rw [Int.emod_add_emod]
      congr 1
      omega
    by_cases h2 : n < idx + (k - idx) % p + j
    · rw [if_pos h2, e]
      congr 2
      omega
    · rw [if_neg h2, e, Int.emod_eq_of_lt (a := (k - idx) % p + j) (b := p) (by omega) (by omega)]
      omega
  · rw [if_neg h]
theorem red_le {idx p n k : Int} (hp : 0 < p) (h1 : 1 ≤ idx) (hn : n = idx + p - 1) (hk : 1 ≤ k) : 1 ≤ red idx p n k ∧ red idx p n k ≤ n := by
  unfold red
  have b0 := Int.emod_nonneg (k - idx) (show p ≠ 0 by omega)
  have b1 := Int.emod_lt_of_pos (k - idx) hp
  split <;> omega
theorem mono_clo {n : Nat} {idx p : Int} (hp : 0 < p) (h1 : 1 ≤ idx) (hn : (n : Int) = idx + p - 1) : Clo n fun x y => red idx p n (x + y + 2) - 1 := fun x y x0 x1 y0 y1 => by
  have := red_le (k := x + y + 2) hp h1 hn (by omega)
  simp only
  omega
theorem mono_asc {n : Nat} {idx p : Int} (hp : 0 < p) (h1 : 1 ≤ idx) (hn : (n : Int) = idx + p - 1) : Asc n fun x y => red idx p n (x + y + 2) - 1 := fun x y z x0 x1 y0 y1 z0 z1 => by
  simp only
  have e1 := red_red (k := x + y + 2) (j := z + 1) hp h1 hn (by omega) (by omega)
  have e2 := red_red (k := y + z + 2) (j := x + 1) hp h1 hn (by omega) (by omega)
  rw [show red idx p n (x + y + 2) - 1 + z + 2 = red idx p n (x + y + 2) + (z + 1) by omega, e1, show x + (red idx p n (y + z + 2) - 1) + 2 = red idx p n (y + z + 2) + (x + 1) by omega, e2]
  congr 2
  omega
theorem sp_monogenic {cf : CF} {W i : Nat} (ht : SpTake (cf i)) : SpTab (runFn cf W (F_law_monogenic i)) := by
  intro most s hmo hmo2 hs
  have key : (runFn cf W (F_law_monogenic i) [.imm (.sref 0), .imm (.int (most : Int))] [s]).wp (fun c st => ∃ (n : Nat) (m : Int → Int → Int) (s' : List D), st = [s'] ∧ StOk s' ∧ 1 ≤ n ∧ n ≤ most ∧ Clo n m ∧ Asc n m ∧ IsL c (rowsOf n m)) noX := by
    refine run_wp rfl rfl ?_
    show (evS cf W (B_law_monogenic i) [.imm (.sref 0), .imm (.int (most : Int)), .undef, .undef, .undef, .undef, .undef, .undef, .undef, .undef] [s]).wp _
    unfold B_law_monogenic
    obtain ⟨v, s1, hs1, v0, v1, e1⟩ := ht most s (by omega) (by omega) hs
    obtain ⟨n, hn⟩ : ∃ n : Nat, 1 + v = (n : Int) := ⟨(1 + v).toNat, by omega⟩
    obtain ⟨u, s2, hs2, u0, u1, e2⟩ := ht n s1 (by omega) (by omega) hs1
    apply wp_seq
    apply wp_asg (c := .imm (.int (n : Int)))
    · rw [← hn]; walk_at "ev"
    · rfl
    walk_at "set"
    walk_at "red"
    walk_at "go"
    generalize hp : 1 + u = p
    generalize hx : (n : Int) + 1 - p = idx
    have hn' : (n : Int) = idx + p - 1 := by omega
    apply wp_for (fun j ρ st => st = [s2] ∧ ∃ a b c d : Cell, ρ = [.imm (.sref 0), .imm (.int (most : Int)), .imm (.int (n : Int)), .imm (.int p), .imm (.int idx), .own ((vec j fun x => rowT n fun y => red idx p n (x + y + 2) - 1).map .imm), a, b, c, d])
    · walk_at "ev"
    · walk_at "for"
    · exact ⟨rfl, _, _, _, _, rfl⟩
    · rintro x ρ _ hx' ⟨rfl, a, b, c, d, rfl⟩
      walk_at "set"
      walk_at "go"
      apply wp_for (fun j ρ st => st = [s2] ∧ ∃ c d : Cell, ρ = [.imm (.sref 0), .imm (.int (most : Int)), .imm (.int (n : Int)), .imm (.int p), .imm (.int idx), .own ((vec x fun x => rowT n fun y => red idx p n (x + y + 2) - 1).map .imm), .imm (.int (x : Int)), .own ((vec j fun y => .int (red idx p n (x + y + 2) - 1)).map .imm), c, d])
      · walk_at "ev"
      · walk_at "for"
      · exact ⟨rfl, _, _, rfl⟩
      · rintro y ρ _ hy' ⟨rfl, c, d, rfl⟩
        walk_at "set"
        walk_at "go"
        apply wp_ite
        · walk_at "ev"
        · walk_at "tru"
        · intro h
          rw [decide_eq_true_eq] at h
          walk_at "go"
          rw [app_vec (by show _ = D.int _; unfold red; rw [if_pos h])]
          exact ⟨rfl, _, _, rfl⟩
        · intro h
          rw [decide_eq_false_iff_not] at h
          walk_at "go"
          rw [app_vec (by show _ = D.int _; unfold red; rw [if_neg h])]
          exact ⟨rfl, _, _, rfl⟩
      · rintro ρ _ ⟨rfl, c, d, rfl⟩
        walk_at "go"
        rw [app_vec rfl]
        exact ⟨rfl, _, _, _, _, rfl⟩
    · rintro ρ _ ⟨rfl, a, b, c, d, rfl⟩
      walk_at "go"
      exact ⟨n, _, s2, rfl, hs2, by omega, by omega, mono_clo (by omega) (by omega) hn', mono_asc (by omega) (by omega) hn', .inr rfl⟩
  obtain ⟨c, _, e, n, m, s', rfl, h1, h2, h3, h4, h5, h6⟩ := Re.wp_ex key
  exact ⟨n, m, c, s', h1, h2, h3, h4, h5, h6, e⟩

/-! ### triples -/
section
variable {a b g : Int} {tw : Int → Int → Int}
def tval (b g : Int) (tw : Int → Int → Int) (x y : Int) : Int := (x / (g * b) * g + (x / b + tw (x % b) (y / (g * b)) + y / b) % g) * b + y % b
def tri (N b g : Int) (tw : Int → Int → Int) (ho : Int → Int → Bool) (z : Bool) (x y : Int) : Int := if x = N ∨ y = N ∨ (z = true ∧ ho (x % b) (y / (g * b)) = true) then N else tval b g tw x y
theorem tdec {A T j : Int} (hb : 0 < b) (hg : 0 < g) (hT0 : 0 ≤ T) (hT : T < g) (hj0 : 0 ≤ j) (hj : j < b) : ((A * g + T) * b + j) % b = j ∧ ((A * g + T) * b + j) / b = A * g + T ∧ ((A * g + T) * b + j) / (g * b) = A := by
  refine ⟨?_, ?_, ?_⟩
  · rw [Int.add_comm, Int.add_mul_emod_self_right, Int.emod_eq_of_lt hj0 hj]
  · rw [Int.add_comm, Int.add_mul_ediv_right _ _ (by omega), Int.ediv_eq_zero_of_lt hj0 hj, Int.zero_add]
  · have e : (A * g + T) * b + j = (T * b + j) + A * (g * b) := by
      rw [Int.add_mul, Int.mul_assoc]
      omega
    have h0 : 0 ≤ T * b := Int.mul_nonneg hT0 (by omega)
    have h1 : (T + 1) * b ≤ g * b := Int.mul_le_mul_of_nonneg_right (by omega) (by omega)
    rw [Int.add_mul] at h1
    rw [e, Int.add_mul_ediv_right _ _ (show g * b ≠ 0 by omega), Int.ediv_eq_zero_of_lt (by omega) (by omega), Int.zero_add]
theorem tval_dec {x y : Int} (hb : 0 < b) (hg : 0 < g) : tval b g tw x y % b = y % b ∧ tval b g tw x y / b = x / (g * b) * g + (x / b + tw (x % b) (y / (g * b)) + y / b) % g ∧ tval b g tw x y / (g * b) = x / (g * b) :=
  tdec hb hg (Int.emod_nonneg _ (by omega)) (Int.emod_lt_of_pos _ hg) (Int.emod_nonneg _ (by omega)) (Int.emod_lt_of_pos _ hb)
theorem tval_assoc {x y z : Int} (hb : 0 < b) (hg : 0 < g) : tval b g tw (tval b g tw x y) z = tval b g tw x (tval b g tw y z) := by
  obtain ⟨h1, h2, h3⟩ := tval_dec (x := x) (y := y) (tw := tw) hb hg
  obtain ⟨k1, k2, k3⟩ := tval_dec (x := y) (y := z) (tw := tw) hb hg
  rw [show tval b g tw (tval b g tw x y) z = (tval b g tw x y / (g * b) * g + (tval b g tw x y / b + tw (tval b g tw x y % b) (z / (g * b)) + z / b) % g) * b + z % b from rfl]
  rw [show tval b g tw x (tval b g tw y z) = (x / (g * b) * g + (x / b + tw (x % b) (tval b g tw y z / (g * b)) + tval b g tw y z / b) % g) * b + tval b g tw y z % b from rfl]
  rw [h1, h2, h3, k1, k2, k3]
  congr 3
  generalize tw (x % b) (y / (g * b)) = t1
  generalize tw (y % b) (z / (g * b)) = t2
  have e1 : (x / (g * b) * g + (x / b + t1 + y / b) % g + t2 + z / b) % g = (x / b + t1 + y / b + t2 + z / b) % g := by
    rw [show x / (g * b) * g + (x / b + t1 + y / b) % g + t2 + z / b = ((x / b + t1 + y / b) % g + (t2 + z / b)) + x / (g * b) * g by omega, Int.add_mul_emod_self_right, Int.emod_add_emod]
    congr 1
    omega
  have e2 : (x / b + t1 + (y / (g * b) * g + (y / b + t2 + z / b) % g)) % g = (x / b + t1 + y / b + t2 + z / b) % g := by
    rw [show x / b + t1 + (y / (g * b) * g + (y / b + t2 + z / b) % g) = ((y / b + t2 + z / b) % g + (x / b + t1)) + y / (g * b) * g by omega, Int.add_mul_emod_self_right, Int.emod_add_emod]
    congr 1
    omega
  rw [e1, e2]
theorem tval_lt {x y : Int} (hb : 0 < b) (hg : 0 < g) (x0 : 0 ≤ x) (x1 : x < a * b * g) : 0 ≤ tval b g tw x y ∧ tval b g tw x y < a * b * g := by
  have hgb : 0 < g * b := Int.mul_pos hg hb
  have e0 : a * b * g = a * (g * b) := by rw [Int.mul_assoc, Int.mul_comm b g]
  rw [e0] at x1 ⊢
  have hA0 : 0 ≤ x / (g * b) := Int.ediv_nonneg x0 (by omega)
  have hA1 : x / (g * b) < a := Int.ediv_lt_of_lt_mul hgb x1
  unfold tval
  have t0 := Int.emod_nonneg (x / b + tw (x % b) (y / (g * b)) + y / b) (show g ≠ 0 by omega)
  have t1 := Int.emod_lt_of_pos (x / b + tw (x % b) (y / (g * b)) + y / b) hg
  generalize (x / b + tw (x % b) (y / (g * b)) + y / b) % g = T at *
  have j0 := Int.emod_nonneg y (show b ≠ 0 by omega)
  have j1 := Int.emod_lt_of_pos y hb
  generalize y % b = j at *
  generalize x / (g * b) = A at *
  have q0 : 0 ≤ A * g := Int.mul_nonneg hA0 (by omega)
  have q1 : 0 ≤ (A * g + T) * b := Int.mul_nonneg (by omega) (by omega)
  have q2 : (A * g + T + 1) * b ≤ (A * g + g) * b := Int.mul_le_mul_of_nonneg_right (by omega) (by omega)
  have q3 : (A + 1) * (g * b) ≤ a * (g * b) := Int.mul_le_mul_of_nonneg_right (by omega) (by omega)
  have q4 : (A * g + g) * b = (A + 1) * (g * b) := by rw [← Int.mul_assoc, Int.add_mul A 1 g, Int.one_mul]
  rw [Int.add_mul (A * g + T) 1 b, Int.one_mul] at q2
  omega
theorem tri_ok {n : Nat} {N : Int} {ho : Int → Int → Bool} {z : Bool} (ha : 0 < a) (hb : 0 < b) (hg : 0 < g) (hN : N = a * b * g) (hn : (n : Int) = N + (if z then 1 else 0)) : Clo n (tri N b g tw ho z) ∧ Asc n (tri N b g tw ho z) := by
  subst hN
  have lim : ∀ x : Int, 0 ≤ x → x < n → (x ≠ a * b * g → x < a * b * g) := fun x x0 x1 h => by split at hn <;> omega
  have hp : 0 < a * b * g := Int.mul_pos (Int.mul_pos ha hb) hg
  have key : ∀ x y : Int, 0 ≤ x → x < n → 0 ≤ y → y < n → ¬ (x = a * b * g ∨ y = a * b * g ∨ (z = true ∧ ho (x % b) (y / (g * b)) = true)) → 0 ≤ tval b g tw x y ∧ tval b g tw x y < a * b * g := fun x y x0 x1 y0 y1 h =>
    tval_lt hb hg x0 (lim x x0 x1 fun e => h (.inl e))
  constructor
  · intro x y x0 x1 y0 y1
    unfold tri
    split
    · rename_i h
      have hz : z = true := by
        cases z with
        | true => rfl
        | false =>
          simp only [Bool.false_eq_true, false_and, or_false, if_false] at h hn
          omega
      rw [hz] at hn
      simp only [if_true] at hn
      omega
    · rename_i h
      have := key x y x0 x1 y0 y1 h
      split at hn <;> omega
  · intro x y w x0 x1 y0 y1 w0 w1
    by_cases hx : x = a * b * g
    · simp only [tri, hx, true_or, if_true]
    by_cases hw : w = a * b * g
    · simp only [tri, hw, true_or, or_true, if_true]
    by_cases hy : y = a * b * g
    · simp only [tri, hy, true_or, or_true, if_true]
    have hxy := tval_lt (tw := tw) (y := y) hb hg x0 (lim x x0 x1 hx)
    have hyw := tval_lt (tw := tw) (y := w) hb hg y0 (lim y y0 y1 hy)
    obtain ⟨h1, h2, h3⟩ := tval_dec (x := x) (y := y) (tw := tw) hb hg
    obtain ⟨k1, k2, k3⟩ := tval_dec (x := y) (y := w) (tw := tw) hb hg
    have nx : tval b g tw x y ≠ a * b * g := by omega
    have nw : tval b g tw y w ≠ a * b * g := by omega
    have e1 : tri (a * b * g) b g tw ho z x y = if z = true ∧ ho (x % b) (y / (g * b)) = true then a * b * g else tval b g tw x y := by simp only [tri, hx, hy, false_or]
    have e2 : tri (a * b * g) b g tw ho z y w = if z = true ∧ ho (y % b) (w / (g * b)) = true then a * b * g else tval b g tw y w := by simp only [tri, hw, hy, false_or]
    rw [e1, e2]
    by_cases c1 : z = true ∧ ho (x % b) (y / (g * b)) = true
    · rw [if_pos c1]
      by_cases c2 : z = true ∧ ho (y % b) (w / (g * b)) = true
      · rw [if_pos c2]
        simp only [tri, true_or, or_true, if_true]
      · rw [if_neg c2]
        simp only [tri, true_or, if_true, hx, nw, false_or, k3, c1, and_self]
    · rw [if_neg c1]
      by_cases c2 : z = true ∧ ho (y % b) (w / (g * b)) = true
      · rw [if_pos c2]
        simp only [tri, true_or, or_true, if_true, nx, hw, false_or, h1, c2, and_self]
      · rw [if_neg c2]
        simp only [tri, nx, hw, hx, nw, false_or, h1, k3, if_neg c1, if_neg c2]
        exact tval_assoc hb hg
end

def SpTriples (f : Rn) : Prop := ∀ (a b g N : Nat) (tw : Int → Int → Int) (ho : Int → Int → Bool) (z : Bool) (st : Store), 1 ≤ a → a ≤ 100 → 1 ≤ b → b ≤ 100 → 1 ≤ g → g ≤ 100 → N = a * b * g → N ≤ 1000 →
  f [.imm (.int (a : Int)), .imm (.int (b : Int)), .imm (.int (g : Int)), .imm (.lst (vec b fun j => .lst (vec a fun i => .int (tw j i)))), .imm (.lst (vec b fun j => .lst (vec a fun i => .bl (ho j i)))), .imm (.bl z)] st =
    .ok (.imm (.lst (rowsOf (N + if z then 1 else 0) (tri N b g tw ho z)))) st
theorem ix_vecLL {st : Store} {n : Nat} {f : Int → List D} {i : Int} (h0 : 0 ≤ i) (h1 : i < (n : Int)) : ixC (.imm (.lst (vec n fun j => .lst (f j)))) (.imm (.int i)) st = some (.imm (.lst (f i))) := ix_vecL h0 h1
theorem sp_triples {cf : CF} {W : Nat} : SpTriples (runFn cf W F_law_triples) := by
  intro a b g N tw ho z st a0 a1 b0 b1 g0 g1 hN hN1
  have hgb : 0 < (g : Int) * b := Int.mul_pos (by omega) (by omega)
  have hgb2 : (g : Int) * b ≤ 10000 := by
    have : g * b ≤ 100 * 100 := Nat.mul_le_mul g1 b1
    have : ((g * b : Nat) : Int) = (g : Int) * b := Int.natCast_mul g b
    omega
  have hab : (a : Int) * b ≤ 10000 ∧ 0 ≤ (a : Int) * b := by
    have : a * b ≤ 100 * 100 := Nat.mul_le_mul a1 b1
    have : ((a * b : Nat) : Int) = (a : Int) * b := Int.natCast_mul a b
    omega
  have hNi : (N : Int) = (a : Int) * b * g := by rw [hN, Int.natCast_mul, Int.natCast_mul]
  have e0 : (a : Int) * b * g = (a : Int) * (g * b) := by rw [Int.mul_assoc, Int.mul_comm (b : Int) g]
  have hI : ∀ y : Int, 0 ≤ y → y < N → 0 ≤ y / ((g : Int) * b) ∧ y / ((g : Int) * b) < a := fun y y0 y1 => ⟨Int.ediv_nonneg y0 (by omega), Int.ediv_lt_of_lt_mul hgb (by omega)⟩
  have hJ : ∀ y : Int, 0 ≤ y % (b : Int) ∧ y % (b : Int) < b := fun y => ⟨Int.emod_nonneg y (by omega), Int.emod_lt_of_pos y (by omega)⟩
  have hT : ∀ y : Int, 0 ≤ y % (g : Int) ∧ y % (g : Int) < g := fun y => ⟨Int.emod_nonneg y (by omega), Int.emod_lt_of_pos y (by omega)⟩
  have hIg : ∀ i : Int, 0 ≤ i → i < a → 0 ≤ i * (g : Int) ∧ i * (g : Int) ≤ 10000 := fun i i0 i1 => ⟨Int.mul_nonneg i0 (by omega), by
    have := Int.mul_le_mul_of_nonneg_right (a := i) (b := 100) (c := (g : Int)) (by omega) (by omega)
    omega⟩
  refine Re.wp_eq (run_wp rfl rfl ?_)
  generalize hTW : D.lst (vec b fun j => .lst (vec a fun i => .int (tw j i))) = TW
  generalize hHO : D.lst (vec b fun j => .lst (vec a fun i => .bl (ho j i))) = HO
  have ixT : ∀ (j : Int) (st : Store), 0 ≤ j → j < b → ixC (.imm TW) (.imm (.int j)) st = some (.imm (.lst (vec a fun i => .int (tw j i)))) := fun j st h0 h1 => by rw [← hTW]; exact ix_vecL h0 h1
  have ixH : ∀ (j : Int) (st : Store), 0 ≤ j → j < b → ixC (.imm HO) (.imm (.int j)) st = some (.imm (.lst (vec a fun i => .bl (ho j i)))) := fun j st h0 h1 => by rw [← hHO]; exact ix_vecL h0 h1
  generalize hm : tri N b g tw ho z = m
  show (evS cf W B_law_triples [.imm (.int (a : Int)), .imm (.int (b : Int)), .imm (.int (g : Int)), .imm TW, .imm HO, .imm (.bl z), .undef, .undef, .undef, .undef, .undef, .undef, .undef, .undef, .undef] st).wp _
  unfold B_law_triples
  walk_at "go"
  rw [← hNi]
  generalize hn : (N + if z then 1 else 0) = n
  apply wp_for (fun i ρ s => s = st ∧ ∃ q1 q2 q3 q4 q5 q6 q7 : Cell, ρ = [.imm (.int (a : Int)), .imm (.int (b : Int)), .imm (.int (g : Int)), .imm TW, .imm HO, .imm (.bl z), .imm (.int (N : Int)), .own ((vec i fun x => rowT n (m x)).map .imm), q1, q2, q3, q4, q5, q6, q7])
  · walk_at "ev"
  · walk_at "for"
  · exact ⟨rfl, _, _, _, _, _, _, _, rfl⟩
  · rintro x ρ s hx ⟨rfl, q1, q2, q3, q4, q5, q6, q7, rfl⟩
    walk_at "set"
    walk_at "go"
    apply wp_for (fun i ρ s' => s' = s ∧ ∃ q3 q4 q5 q6 q7 : Cell, ρ = [.imm (.int (a : Int)), .imm (.int (b : Int)), .imm (.int (g : Int)), .imm TW, .imm HO, .imm (.bl z), .imm (.int (N : Int)), .own ((vec x fun x => rowT n (m x)).map .imm), .imm (.int (x : Int)), .own ((vec i fun y => .int (m x y)).map .imm), q3, q4, q5, q6, q7])
    · walk_at "ev"
    · walk_at "for"
    · exact ⟨rfl, _, _, _, _, _, rfl⟩
    · rintro y ρ s hy ⟨rfl, q3, q4, q5, q6, q7, rfl⟩
      walk_at "set"
      obtain ⟨hI0, hI1⟩ := hI y (by omega) (by omega)
      obtain ⟨hX0, hX1⟩ := hI x (by omega) (by omega)
      obtain ⟨hJ0, hJ1⟩ := hJ x
      obtain ⟨hY0, hY1⟩ := hJ y
      obtain ⟨hG0, hG1⟩ := hIg _ hX0 hX1
      have hTT := hT ((x : Int) / b + tw ((x : Int) % b) ((y : Int) / (g * b)) + (y : Int) / b)
      have iT := ixT ((x : Int) % b) s hJ0 hJ1
      have iH := ixH ((x : Int) % b) s hJ0 hJ1
      have hxy : m x y = if z = true ∧ ho ((x : Int) % b) ((y : Int) / (g * b)) = true then (N : Int) else tval b g tw x y := by
        rw [← hm]
        unfold tri
        have h1 : (x : Int) ≠ N := by omega
        have h2 : (y : Int) ≠ N := by omega
        simp only [h1, h2, false_or]
      walk_at "go"
      apply wp_ite (t := z && ho ((x : Int) % b) ((y : Int) / (g * b)))
      · apply ev_andB
        · walk_at "ev"
        · intro _
          walk_at "ev"
      · rfl
      · intro h
        rw [Bool.and_eq_true] at h
        walk_at "go"
        rw [app_vec (by rw [hxy, if_pos h])]
        exact ⟨rfl, _, _, _, _, _, rfl⟩
      · intro h
        have h' : ¬ (z = true ∧ ho ((x : Int) % b) ((y : Int) / (g * b)) = true) := fun q => by rw [q.1, q.2] at h; cases h
        walk_at "go"
        rw [app_vec (by rw [hxy, if_neg h']; rfl)]
        exact ⟨rfl, _, _, _, _, _, rfl⟩
    · rintro ρ s ⟨rfl, q3, q4, q5, q6, q7, rfl⟩
      walk_at "go"
      have hfin : (vec N fun y => D.int (m x y)) ++ (vec (if z then 1 else 0) fun _ => D.int N) = vec n fun y => .int (m x y) := by
        cases z with
        | true =>
          simp only [if_true] at hn ⊢
          have : m x N = N := by rw [← hm]; simp [tri]
          rw [← hn, vec_succ N, this]
          rfl
        | false =>
          simp only [Bool.false_eq_true, if_false] at hn ⊢
          rw [← hn]
          exact List.append_nil _
      apply wp_app rfl
      · apply ev_bi
        · apply ev_cons
          · apply ev_bin
            · walk_at "ev"
            · apply ev_compV (n := if z then 1 else 0) (g := fun _ => .int (N : Int))
              · apply ev_range1 (n := if z then 1 else 0)
                · apply ev_to (x := .imm (.int (if z then 1 else 0)))
                  · walk_at "ev"
                  · cases z <;> rfl
                · split <;> omega
              · walk_at "it"
              · split <;> omega
              · intro i i0 i1
                walk_at "set"
                walk_at "ev"
            · apply b_addL lst_imm lst_own
              rw [vec_length, vec_length]
              split <;> omega
          · walk_at "ev"
        · exact tup_O
      · rfl
      · walk_at "sm"
      walk_at "set"
      walk_at "red"
      walk_at "go"
      rw [hfin, app_vec rfl]
      exact ⟨rfl, _, _, _, _, _, _, _, rfl⟩
  · rintro ρ s ⟨rfl, q1, q2, q3, q4, q5, q6, q7, rfl⟩
    walk_at "go"
    apply wp_ite (t := z)
    · walk_at "ev"
    · rfl
    · intro h
      subst h
      simp only [if_true] at hn
      have : rowT n (m N) = .tup (vec (N + 1) fun _ => D.int (N : Int)) := by
        rw [hn]
        refine congrArg D.tup (vec_congr fun y _ _ => ?_)
        rw [← hm]
        simp [tri]
      walk_at "go"
      apply wp_app rfl (c := .imm (rowT n (m N)))
      · rw [this]
        apply ev_bi
        · apply ev_cons
          · apply ev_compV (n := N + 1) (g := fun _ => .int (N : Int))
            · apply ev_range1 (n := N + 1)
              · apply ev_to (x := .imm (.int ((N : Int) + 1)))
                · walk_at "ev"
                · rfl
              · omega
            · walk_at "it"
            · omega
            · intro i i0 i1
              walk_at "set"
              walk_at "ev"
          · walk_at "ev"
        · exact tup_O
      · rfl
      · walk_at "sm"
      walk_at "set"
      walk_at "red"
      walk_at "go"
      refine ⟨?_, rfl⟩
      have := vec_succ N fun x => rowT n (m x)
      rw [hn] at this
      rw [rowsOf, this]
    · intro h
      subst h
      simp only [Bool.false_eq_true, if_false, Nat.add_zero] at hn
      subst hn
      walk_at "go"
      exact ⟨rfl, rfl⟩

end Q

set_option maxRecDepth 100000
set_option maxHeartbeats 1000000
namespace Q
open PySem
/-! ### blocks -/
theorem sp_blocks {cf : CF} {W i j : Nat} {es : List (Nat × Nat)} (ht : SpTake (cf i)) (htr : SpTriples (cf j)) : SpTab (runFn cf W (F_law_blocks i j es)) := by
  intro most s hmo hmo2 hs
  have key : (runFn cf W (F_law_blocks i j es) [.imm (.sref 0), .imm (.int (most : Int))] [s]).wp (fun c st => ∃ (n : Nat) (m : Int → Int → Int) (s' : List D), st = [s'] ∧ StOk s' ∧ 1 ≤ n ∧ n ≤ most ∧ Clo n m ∧ Asc n m ∧ IsL c (rowsOf n m)) noX := by
    refine run_wp rfl rfl ?_
    show (evS cf W (B_law_blocks i j es) [.imm (.sref 0), .imm (.int (most : Int)), .undef, .undef, .undef, .undef, .undef, .undef, .undef, .undef] [s]).wp _
    unfold B_law_blocks
    obtain ⟨v1, s1, hs1, p1, r1, e1⟩ := ht 2 s (by decide) (by decide) hs
    obtain ⟨v2, s2, hs2, p2, r2, e2⟩ := ht 2 s1 (by decide) (by decide) hs1
    obtain ⟨v3, s3, hs3, p3, r3, e3⟩ := ht 2 s2 (by decide) (by decide) hs2
    obtain ⟨a, ha⟩ : ∃ a : Nat, 1 + v1 = (a : Int) := ⟨(1 + v1).toNat, by omega⟩
    obtain ⟨b, hb⟩ : ∃ b : Nat, 1 + v2 = (b : Int) := ⟨(1 + v2).toNat, by omega⟩
    obtain ⟨g, hg⟩ : ∃ g : Nat, 1 + v3 = (g : Int) := ⟨(1 + v3).toNat, by omega⟩
    apply wp_seq
    apply wp_asg (c := .imm (.int (a : Int)))
    · rw [← ha]; walk_at "ev"
    · rfl
    walk_at "set"
    walk_at "red"
    apply wp_seq
    apply wp_frz rfl rfl
    walk_at "set"
    walk_at "red"
    apply wp_seq
    apply wp_asg (c := .imm (.int (b : Int)))
    · rw [← hb]; walk_at "ev"
    · rfl
    walk_at "set"
    walk_at "red"
    apply wp_seq
    apply wp_frz rfl rfl
    walk_at "set"
    walk_at "red"
    apply wp_seq
    apply wp_asg (c := .imm (.int (g : Int)))
    · rw [← hg]; walk_at "ev"
    · rfl
    walk_at "set"
    walk_at "red"
    apply wp_seq
    apply wp_frz rfl rfl
    walk_at "set"
    walk_at "red"
    -- behind the choice of the sizes
    have fin : ∀ (a b g : Nat) (q1 q2 q3 q4 q5 : Cell) (K : Wish), 1 ≤ a → a ≤ 2 → 1 ≤ b → b ≤ 2 → 1 ≤ g → g ≤ 2 → a * b * g ≤ most →
        (∀ (n : Nat) (m : Int → Int → Int) (s' : List D) (c : Cell), StOk s' → 1 ≤ n → n ≤ most → Clo n m → Asc n m → IsL c (rowsOf n m) → K.R c [s']) →
        (evS cf W (.seq (.asg 5 (.comp 8 (.range1 (.var 3)) (.con (.bl true)) (.comp 9 (.range1 (.var 2)) (.con (.bl true)) (.call i (.cons (.var 0) (.cons (.var 4) .nil))))))
 (.seq (.frz 5)
 (.seq (.asg 6 (.comp 8 (.range1 (.var 3)) (.con (.bl true)) (.comp 9 (.range1 (.var 2)) (.con (.bl true)) (.eqm es (.call i (.cons (.var 0) (.cons (.con (.int 3)) .nil))) (.con (.int 0))))))
 (.seq (.frz 6)
 (.seq (.asg 7 (.and (.eqm es (.call i (.cons (.var 0) (.cons (.con (.int 2)) .nil))) (.con (.int 0))) (.bin .lt (.bin .mul (.bin .mul (.var 2) (.var 3)) (.var 4)) (.var 1))))
 (.seq (.ret (.call j (.cons (.var 2) (.cons (.var 3) (.cons (.var 4) (.cons (.var 5) (.cons (.var 6) (.cons (.var 7) .nil))))))))
 .skip)))))) [.imm (.sref 0), .imm (.int (most : Int)), .imm (.int (a : Int)), .imm (.int (b : Int)), .imm (.int (g : Int)), q1, q2, q3, q4, q5] [s3]).wp K := by
      intro a b g q1 q2 q3 q4 q5 K a0 a1 b0 b1 g0 g1 hN hK
      -- the turnings
      obtain ⟨T, s4, hs4, hT1, hT2, e4⟩ := ev_draws (cf := cf) (ρ := [.imm (.sref 0), .imm (.int (most : Int)), .imm (.int (a : Int)), .imm (.int (b : Int)), .imm (.int (g : Int)), q1, q2, q3, q4, q5]) (st := [s3]) (s1 := s3) (e := .comp 9 (.range1 (.var 2)) (.con (.bl true)) (.call i (.cons (.var 0) (.cons (.var 4) .nil)))) (it := .range1 (.var 3)) (n := b) (j := 8) (h := .int) (F := fun l : List Int => .own (l.map fun v => .imm (.int v))) (Q := fun l => l.length = a) (ev_range1 (ev_var rfl) (by omega)) it_own (by omega) hs3 (fun _ => rfl) (fun x s x0 x1 hs => by
        walk_at "set"
        obtain ⟨as, s', k1, k2, _, k4⟩ := ev_draws (cf := cf) (ρ := [.imm (.sref 0), .imm (.int (most : Int)), .imm (.int (a : Int)), .imm (.int (b : Int)), .imm (.int (g : Int)), q1, q2, q3, .imm (.int x), q5]) (st := [s]) (s1 := s) (e := .call i (.cons (.var 0) (.cons (.var 4) .nil))) (it := .range1 (.var 2)) (n := a) (j := 9) (h := .int) (F := fun v : Int => .imm (.int v)) (Q := fun _ => True) (ev_range1 (ev_var rfl) (by omega)) it_own (by omega) hs (fun _ => rfl) (fun x s x0 x1 hs => by
          obtain ⟨v, s', p1, p2, p3, p4⟩ := ht g s (by omega) (by omega) hs
          exact ⟨v, s', p1, trivial, by walk_at "set"; walk_at "ev"⟩)
        exact ⟨as, s', k1, k2, k4⟩)
      obtain ⟨O, s5, hs5, hO1, hO2, e5⟩ := ev_draws (cf := cf) (ρ := [.imm (.sref 0), .imm (.int (most : Int)), .imm (.int (a : Int)), .imm (.int (b : Int)), .imm (.int (g : Int)), .imm (.lst (T.map fun l => .lst (l.map .int))), q2, q3, q4, q5]) (st := [s4]) (s1 := s4) (e := .comp 9 (.range1 (.var 2)) (.con (.bl true)) (.eqm es (.call i (.cons (.var 0) (.cons (.con (.int 3)) .nil))) (.con (.int 0)))) (it := .range1 (.var 3)) (n := b) (j := 8) (h := .int) (F := fun l : List Bool => .own (l.map fun v => .imm (.bl v))) (Q := fun l => l.length = a) (ev_range1 (ev_var rfl) (by omega)) it_own (by omega) hs4 (fun _ => rfl) (fun x s x0 x1 hs => by
        walk_at "set"
        obtain ⟨as, s', k1, k2, _, k4⟩ := ev_draws (cf := cf) (ρ := [.imm (.sref 0), .imm (.int (most : Int)), .imm (.int (a : Int)), .imm (.int (b : Int)), .imm (.int (g : Int)), .imm (.lst (T.map fun l => .lst (l.map .int))), q2, q3, .imm (.int x), q5]) (st := [s]) (s1 := s) (e := .eqm es (.call i (.cons (.var 0) (.cons (.con (.int 3)) .nil))) (.con (.int 0))) (it := .range1 (.var 2)) (n := a) (j := 9) (h := .int) (F := fun v : Bool => .imm (.bl v)) (Q := fun _ => True) (ev_range1 (ev_var rfl) (by omega)) it_own (by omega) hs (fun _ => rfl) (fun x s x0 x1 hs => by
          obtain ⟨v, s', p1, p2, p3, p4⟩ := ht 3 s (by omega) (by omega) hs
          exact ⟨decide (v = 0), s', p1, trivial, by walk_at "set"; walk_at "ev"⟩)
        exact ⟨as, s', k1, k2, k4⟩)
      obtain ⟨v6, s6, hs6, p6, r6, e6⟩ := ht 2 s5 (by decide) (by decide) hs5
      have kT : keepC (.own (T.map fun l => Cell.own (l.map fun v => .imm (.int v)))) = some (.lst (T.map fun l => .lst (l.map .int))) := keep_ownM fun l _ => by
        rw [show (l.map fun v => Cell.imm (.int v)) = (l.map D.int).map Cell.imm by rw [List.map_map]; rfl]
        exact keep_own _
      have kO : keepC (.own (O.map fun l => Cell.own (l.map fun v => .imm (.bl v)))) = some (.lst (O.map fun l => .lst (l.map .bl))) := keep_ownM fun l _ => by
        rw [show (l.map fun v => Cell.imm (.bl v)) = (l.map D.bl).map Cell.imm by rw [List.map_map]; rfl]
        exact keep_own _
      have dT : (T.map fun l => D.lst (l.map .int)) = vec b fun j => .lst (vec a fun i => .int (gat (T.getD j.toNat []) i)) := by
        rw [map_vec T [] fun l => D.lst (l.map .int), hT1]
        refine vec_congr fun j j0 j1 => ?_
        have : T.getD j.toNat [] ∈ T := by rw [List.getD_eq_getElem?_getD, List.getElem?_eq_getElem (by omega)]; exact List.getElem_mem _
        rw [map_vec (T.getD j.toNat []) 0 D.int, hT2 _ this]
        rfl
      have dO : (O.map fun l => D.lst (l.map .bl)) = vec b fun j => .lst (vec a fun i => .bl ((O.getD j.toNat []).getD i.toNat false)) := by
        rw [map_vec O [] fun l => D.lst (l.map .bl), hO1]
        refine vec_congr fun j j0 j1 => ?_
        have : O.getD j.toNat [] ∈ O := by rw [List.getD_eq_getElem?_getD, List.getElem?_eq_getElem (by omega)]; exact List.getElem_mem _
        rw [map_vec (O.getD j.toNat []) false D.bl, hO2 _ this]
      apply wp_seq
      apply wp_asg e4 rfl
      walk_at "set"
      walk_at "red"
      apply wp_seq
      apply wp_frz rfl kT
      walk_at "set"
      walk_at "red"
      apply wp_seq
      apply wp_asg e5 rfl
      walk_at "set"
      walk_at "red"
      apply wp_seq
      apply wp_frz rfl kO
      walk_at "set"
      walk_at "red"
      have hab : (a : Int) * b * g = ((a * b * g : Nat) : Int) := by rw [Int.natCast_mul, Int.natCast_mul]
      have hab1 : (a : Int) * b = ((a * b : Nat) : Int) := by rw [Int.natCast_mul]
      have hab2 : a * b ≤ 4 := Nat.mul_le_mul a1 b1
      have hab3 : 1 ≤ a * b * g := Nat.mul_pos (Nat.mul_pos a0 b0) g0
      generalize hz : (decide (v6 = 0) && decide ((a : Int) * b * g < (most : Int))) = z
      apply wp_seq
      apply wp_asg (c := .imm (.bl z)) (s1 := [s6])
      · rw [← hz]
        walk_at "ev"
      · rfl
      walk_at "set"
      walk_at "red"
      have e7 := htr a b g (a * b * g) (fun j i => gat (T.getD j.toNat []) i) (fun j i => (O.getD j.toNat []).getD i.toNat false) z [s6] a0 (by omega) b0 (by omega) g0 (by omega) rfl (by omega)
      rw [← dT, ← dO] at e7
      walk_at "go"
      have hzn : (if z then 1 else 0 : Nat) + a * b * g ≤ most := by
        cases z with
        | false => simp only [Bool.false_eq_true, if_false]; omega
        | true =>
          rw [Bool.and_eq_true, decide_eq_true_eq, decide_eq_true_eq] at hz
          simp only [if_true]
          omega
      have tk := tri_ok (n := a * b * g + if z then 1 else 0) (N := ((a * b * g : Nat) : Int)) (tw := fun j i => gat (T.getD j.toNat []) i) (ho := fun j i => (O.getD j.toNat []).getD i.toNat false) (z := z) (a := a) (b := b) (g := g) (by omega) (by omega) (by omega) hab.symm (by split <;> omega)
      exact hK _ _ s6 _ hs6 (by omega) (by omega) tk.1 tk.2 (.inr rfl)
    have hab : (a : Int) * b * g = ((a * b * g : Nat) : Int) := by rw [Int.natCast_mul, Int.natCast_mul]
    have hab1 : (a : Int) * b = ((a * b : Nat) : Int) := by rw [Int.natCast_mul]
    have hab2 : a * b ≤ 4 := Nat.mul_le_mul (show a ≤ 2 by omega) (show b ≤ 2 by omega)
    apply wp_seq
    apply wp_ite
    · walk_at "ev"
    · walk_at "tru"
    · intro h
      rw [decide_eq_true_eq] at h
      apply wp_seq
      apply wp_unp (ds := [.int 1, .int 1, .int (if (most : Int) < 2 then (most : Int) else 2)]) (s1 := [s3])
      · exact ev_tup (ev_cons ev_con (ev_cons ev_con (ev_cons (ev_bi (ev_cons ev_con (ev_cons (ev_var rfl) ev_nil)) min2_I) ev_nil))) rfl rfl
      · rfl
      walk_at "set"
      walk_at "red"
      apply wp_skip
      walk_at "red"
      obtain ⟨g', hg'⟩ : ∃ g' : Nat, (if (most : Int) < 2 then (most : Int) else 2) = (g' : Int) := ⟨if most < 2 then most else 2, by split <;> split <;> omega⟩
      rw [hg']
      have hg1 : 1 ≤ g' ∧ g' ≤ 2 ∧ g' ≤ most := by split at hg' <;> omega
      exact fin 1 1 g' _ _ _ _ _ _ (by omega) (by omega) (by omega) (by omega) hg1.1 hg1.2.1 (by omega) fun n m s' c h1 h2 h3 h4 h5 h6 => ⟨n, m, s', rfl, h1, h2, h3, h4, h5, h6⟩
    · intro h
      rw [decide_eq_false_iff_not] at h
      apply wp_skip
      walk_at "red"
      exact fin a b g _ _ _ _ _ _ (by omega) (by omega) (by omega) (by omega) (by omega) (by omega) (by omega) fun n m s' c h1 h2 h3 h4 h5 h6 => ⟨n, m, s', rfl, h1, h2, h3, h4, h5, h6⟩
  obtain ⟨c, _, e, n, m, s', rfl, h1, h2, h3, h4, h5, h6⟩ := Re.wp_ex key
  exact ⟨n, m, c, s', h1, h2, h3, h4, h5, h6, e⟩

/-! ### a plain one -/
theorem min_asc (n : Nat) : Clo n (fun x y => if y < x then y else x) ∧ Asc n (fun x y => if y < x then y else x) := by
  constructor
  · intro x y x0 x1 y0 y1
    simp only
    split <;> omega
  · intro x y z x0 x1 y0 y1 z0 z1
    simp only
    (repeat' split) <;> omega
theorem sp_plain {cf : CF} {W i j k l : Nat} {es : List (Nat × Nat)} (ht : SpTake (cf i)) (hmo : SpTab (cf j)) (hma : SpTab (cf k)) (hbl : SpTab (cf l)) : SpTab (runFn cf W (F_law_plain i j k l es)) := by
  intro most s m0 m1 hs
  have key : (runFn cf W (F_law_plain i j k l es) [.imm (.sref 0), .imm (.int (most : Int))] [s]).wp (fun c st => ∃ (n : Nat) (m : Int → Int → Int) (s' : List D), st = [s'] ∧ StOk s' ∧ 1 ≤ n ∧ n ≤ most ∧ Clo n m ∧ Asc n m ∧ IsL c (rowsOf n m)) noX := by
    refine run_wp rfl rfl ?_
    show (evS cf W (B_law_plain i j k l es) [.imm (.sref 0), .imm (.int (most : Int)), .undef, .undef, .undef, .undef] [s]).wp _
    unfold B_law_plain
    obtain ⟨p, s1, hs1, p0, p1, e1⟩ := ht 8 s (by decide) (by decide) hs
    obtain ⟨v, s2, hs2, v0, v1, e2⟩ := ht most s1 (by omega) (by omega) hs1
    obtain ⟨n, hn⟩ : ∃ n : Nat, 1 + v = (n : Int) := ⟨(1 + v).toNat, by omega⟩
    walk_at "go"
    rw [hn]
    apply wp_ite
    · walk_at "ev"
    · walk_at "tru"
    · intro h
      apply wp_seq
      apply wp_ret (c := .own ((rowsOf n fun x _ => x).map .imm)) (by walk_at "ev") rfl
      exact ⟨n, _, s2, rfl, hs2, by omega, by omega, fun x y x0 x1 _ _ => ⟨x0, x1⟩, fun _ _ _ _ _ _ _ _ _ => rfl, .inl rfl⟩
    intro h
    walk_at "go"
    apply wp_ite
    · walk_at "ev"
    · walk_at "tru"
    · intro h
      apply wp_seq
      apply wp_ret (c := .own ((rowsOf n fun _ _ => 0).map .imm)) (by walk_at "ev") rfl
      exact ⟨n, _, s2, rfl, hs2, by omega, by omega, fun x y x0 x1 _ _ => ⟨Int.le_refl 0, by omega⟩, fun _ _ _ _ _ _ _ _ _ => rfl, .inl rfl⟩
    intro h
    walk_at "go"
    apply wp_ite
    · walk_at "ev"
    · walk_at "tru"
    · intro h
      obtain ⟨n, m, c, s3, q1, q2, q3, q4, q5, q6, q7⟩ := hmo most s2 m0 m1 hs2
      apply wp_seq
      apply wp_ret (ev_call (ev_cons (ev_var rfl) (ev_cons (ev_var rfl) ev_nil)) (by walk_at "pass") q7) q6.own
      exact ⟨n, m, s3, rfl, q1, q2, q3, q4, q5, q6⟩
    intro h
    walk_at "go"
    apply wp_ite
    · walk_at "ev"
    · walk_at "tru"
    · intro h
      apply wp_seq
      apply wp_ret (c := .own ((rowsOf n fun x y => if y < x then y else x).map .imm)) (by walk_at "ev") rfl
      exact ⟨n, _, s2, rfl, hs2, by omega, by omega, (min_asc n).1, (min_asc n).2, .inl rfl⟩
    intro h
    walk_at "go"
    apply wp_ite
    · walk_at "ev"
    · walk_at "tru"
    · intro h
      obtain ⟨n, m, c, s3, q1, q2, q3, q4, q5, q6, q7⟩ := hma most s2 m0 m1 hs2
      apply wp_seq
      apply wp_ret (ev_call (ev_cons (ev_var rfl) (ev_cons (ev_var rfl) ev_nil)) (by walk_at "pass") q7) q6.own
      exact ⟨n, m, s3, rfl, q1, q2, q3, q4, q5, q6⟩
    intro h
    walk_at "go"
    obtain ⟨n, m, c, s3, q1, q2, q3, q4, q5, q6, q7⟩ := hbl most s2 m0 m1 hs2
    apply wp_ret (ev_call (ev_cons (ev_var rfl) (ev_cons (ev_var rfl) ev_nil)) (by walk_at "pass") q7) q6.own
    exact ⟨n, m, s3, rfl, q1, q2, q3, q4, q5, q6⟩
  obtain ⟨c, _, e, n, m, s', rfl, h1, h2, h3, h4, h5, h6⟩ := Re.wp_ex key
  exact ⟨n, m, c, s', h1, h2, h3, h4, h5, h6, e⟩
/-! ### made greater -/
def extZ (n : Int) (m : Int → Int → Int) (x y : Int) : Int := if x = n ∨ y = n then n else m x y
def extU (n : Int) (m : Int → Int → Int) (x y : Int) : Int := if y = n then x else if x = n then y else m x y
def extD (m : Int → Int → Int) (o : Int → Int → Int) (x y : Int) : Int := 2 * m (x / 2) (y / 2) + o (x % 2) (y % 2)
theorem extZ_ok {n : Nat} {m : Int → Int → Int} (h : Clo n m) (ha : Asc n m) : Clo (n + 1) (extZ n m) ∧ Asc (n + 1) (extZ n m) := by
  constructor
  · intro x y x0 x1 y0 y1
    unfold extZ
    split
    · omega
    · have := h x y (by omega) (by omega) (by omega) (by omega)
      omega
  · intro x y z x0 x1 y0 y1 z0 z1
    by_cases hx : x = n
    · simp only [extZ, hx, true_or, if_true]
    by_cases hz : z = n
    · simp only [extZ, hz, true_or, or_true, if_true]
    by_cases hy : y = n
    · simp only [extZ, hy, true_or, or_true, if_true]
    have h1 := h x y (by omega) (by omega) (by omega) (by omega)
    have h2 := h y z (by omega) (by omega) (by omega) (by omega)
    have n1 : m x y ≠ n := by omega
    have n2 : m y z ≠ n := by omega
    simp only [extZ, hx, hy, hz, n1, n2, or_self, if_false]
    exact ha x y z (by omega) (by omega) (by omega) (by omega) (by omega) (by omega)
theorem extU_ok {n : Nat} {m : Int → Int → Int} (h : Clo n m) (ha : Asc n m) : Clo (n + 1) (extU n m) ∧ Asc (n + 1) (extU n m) := by
  constructor
  · intro x y x0 x1 y0 y1
    unfold extU
    split
    · omega
    · split
      · omega
      · have := h x y (by omega) (by omega) (by omega) (by omega)
        omega
  · intro x y z x0 x1 y0 y1 z0 z1
    by_cases hz : z = n
    · simp only [extU, hz, if_true]
    by_cases hy : y = n
    · simp only [extU, hy, hz, if_true, if_false]
    by_cases hx : x = n
    · subst hx
      have h2 := h y z (by omega) (by omega) (by omega) (by omega)
      have n2 : m y z ≠ n := by omega
      simp only [extU, hy, hz, n2, if_true, if_false]
    have h1 := h x y (by omega) (by omega) (by omega) (by omega)
    have h2 := h y z (by omega) (by omega) (by omega) (by omega)
    have n1 : m x y ≠ n := by omega
    have n2 : m y z ≠ n := by omega
    simp only [extU, hx, hy, hz, n1, n2, if_false]
    exact ha x y z (by omega) (by omega) (by omega) (by omega) (by omega) (by omega)
theorem extD_ok {n : Nat} {m o : Int → Int → Int} (h : Clo n m) (ha : Asc n m) (k : Clo 2 o) (ka : Asc 2 o) : Clo (2 * n) (extD m o) ∧ Asc (2 * n) (extD m o) := by
  constructor
  · intro x y x0 x1 y0 y1
    unfold extD
    have h1 := h (x / 2) (y / 2) (by omega) (by omega) (by omega) (by omega)
    have h2 := k (x % 2) (y % 2) (by omega) (by omega) (by omega) (by omega)
    omega
  · intro x y z x0 x1 y0 y1 z0 z1
    have h1 := h (x / 2) (y / 2) (by omega) (by omega) (by omega) (by omega)
    have h2 := k (x % 2) (y % 2) (by omega) (by omega) (by omega) (by omega)
    have k1 := h (y / 2) (z / 2) (by omega) (by omega) (by omega) (by omega)
    have k2 := k (y % 2) (z % 2) (by omega) (by omega) (by omega) (by omega)
    have a1 := ha (x / 2) (y / 2) (z / 2) (by omega) (by omega) (by omega) (by omega) (by omega) (by omega)
    have a2 := ka (x % 2) (y % 2) (z % 2) (by omega) (by omega) (by omega) (by omega) (by omega) (by omega)
    simp only [extD]
    rw [show (2 * m (x / 2) (y / 2) + o (x % 2) (y % 2)) / 2 = m (x / 2) (y / 2) by omega, show (2 * m (x / 2) (y / 2) + o (x % 2) (y % 2)) % 2 = o (x % 2) (y % 2) by omega,
      show (2 * m (y / 2) (z / 2) + o (y % 2) (z % 2)) / 2 = m (y / 2) (z / 2) by omega, show (2 * m (y / 2) (z / 2) + o (y % 2) (z % 2)) % 2 = o (y % 2) (z % 2) by omega, a1, a2]
def SpExt (g : Rn) : Prop := ∀ (n most : Nat) (m : Int → Int → Int) (s : List D), 1 ≤ n → n ≤ most → most ≤ 24 → Clo n m → Asc n m → StOk s → DrawT g [.imm (.sref 0), .imm (.lst (rowsOf n m)), .imm (.int (most : Int))] most s
theorem sp_extended {cf : CF} {W i : Nat} {es : List (Nat × Nat)} (ht : SpTake (cf i)) : SpExt (runFn cf W (F_law_extended i es)) := by
  intro n most m s n0 n1 n2 hm ha hs
  have key : (runFn cf W (F_law_extended i es) [.imm (.sref 0), .imm (.lst (rowsOf n m)), .imm (.int (most : Int))] [s]).wp (fun c st => ∃ (n : Nat) (m : Int → Int → Int) (s' : List D), st = [s'] ∧ StOk s' ∧ 1 ≤ n ∧ n ≤ most ∧ Clo n m ∧ Asc n m ∧ IsL c (rowsOf n m)) noX := by
    refine run_wp rfl rfl ?_
    show (evS cf W (B_law_extended i es) [.imm (.sref 0), .imm (.lst (rowsOf n m)), .imm (.int (most : Int)), .undef, .undef, .undef, .undef, .undef, .undef] [s]).wp _
    unfold B_law_extended
    obtain ⟨p, s1, hs1, p0, p1, e1⟩ := ht 6 s (by decide) (by decide) hs
    obtain ⟨v, s2, hs2, v0, v1, e2⟩ := ht 2 s1 (by decide) (by decide) hs1
    walk_at "go"
    apply wp_ite
    · walk_at "ev"
    · walk_at "tru"
    · intro h
      apply wp_seq
      apply wp_ret (c := .own ((rowsOf n fun x y => m y x).map .imm)) (by walk_at "ev") rfl
      exact ⟨n, _, s1, rfl, hs1, n0, n1, fun x y x0 x1 y0 y1 => hm y x y0 y1 x0 x1, fun x y z x0 x1 y0 y1 z0 z1 => (ha z y x z0 z1 y0 y1 x0 x1).symm, .inl rfl⟩
    intro h
    walk_at "go"
    apply wp_ite
    · walk_at "ev"
    · walk_at "tru"
    · intro h
      simp only [Bool.and_eq_true, decide_eq_true_eq] at h
      obtain ⟨q1, q2⟩ := extZ_ok hm ha
      have hr : (vec n fun x => D.tup ((vec n fun y => .int (m x y)) ++ [.int (n : Int)])) ++ [D.tup (vec (n + 1) fun _ => .int (n : Int))] = rowsOf (n + 1) (extZ n m) := by
        rw [rowsOf, vec_succ n fun x => rowT (n + 1) (extZ n m x)]
        refine congr (congrArg _ (vec_congr fun x x0 x1 => ?_)) (congrArg (fun z => [D.tup z]) (vec_congr fun y _ _ => by simp [extZ]))
        have : rowT (n + 1) (extZ n m x) = .tup (vec (n + 1) fun y => .int (extZ n m x y)) := rfl
        rw [this, vec_succ]
        refine congrArg D.tup (congr (congrArg _ (vec_congr fun y y0 y1 => ?_)) (by simp [extZ]))
        have h1 : x ≠ n := by omega
        have h2 : y ≠ n := by omega
        simp only [extZ, h1, h2, or_self, if_false]
      have hn1 : evE cf (.bin .add (.var 3) (.con (.int 1))) [.imm (.sref 0), .imm (.lst (rowsOf n m)), .imm (.int (most : Int)), .imm (.int (n : Int)), .imm (.int p), .undef, .undef, .undef, .undef] [s1] = .ok (.imm (.int ((n + 1 : Nat) : Int))) [s1] := ev_to (x := .imm (.int ((n : Int) + 1))) (by walk_at "ev") rfl
      apply wp_seq
      apply wp_ret (c := .own ((rowsOf (n + 1) (extZ n m)).map .imm))
      · rw [← hr]
        apply ev_bin
        · walk_at "ev"
        · apply ev_lst (xs := [D.tup (vec (n + 1) fun _ => .int (n : Int))].map .imm)
          · apply ev_cons
            · apply ev_bi
              · apply ev_cons
                · apply ev_compV (n := n + 1) (g := fun _ => .int (n : Int))
                  · exact ev_range1 hn1 (by omega)
                  · walk_at "it"
                  · omega
                  · intro _ _ _
                    walk_at "set"
                    walk_at "ev"
                · walk_at "ev"
              · exact tup_O
            · exact ev_nil
          · rfl
          · rfl
        · exact b_addL lst_own lst_own (by rw [vec_length]; simp; omega)
      · rfl
      exact ⟨n + 1, _, s1, rfl, hs1, by omega, by omega, q1, q2, .inl rfl⟩
    intro h
    walk_at "go"
    apply wp_ite
    · walk_at "ev"
    · walk_at "tru"
    · intro h
      simp only [Bool.and_eq_true, decide_eq_true_eq] at h
      obtain ⟨q1, q2⟩ := extU_ok hm ha
      have hr : (vec n fun x => D.tup ((vec n fun y => .int (m x y)) ++ [.int x])) ++ [D.tup (vec (n + 1) .int)] = rowsOf (n + 1) (extU n m) := by
        rw [rowsOf, vec_succ n fun x => rowT (n + 1) (extU n m x)]
        refine congr (congrArg _ (vec_congr fun x x0 x1 => ?_)) (congrArg (fun z => [D.tup z]) (vec_congr fun y _ _ => ?_))
        · have : rowT (n + 1) (extU n m x) = .tup (vec (n + 1) fun y => .int (extU n m x y)) := rfl
          rw [this, vec_succ]
          refine congrArg D.tup (congr (congrArg _ (vec_congr fun y y0 y1 => ?_)) (by simp [extU]))
          have h1 : x ≠ n := by omega
          have h2 : y ≠ n := by omega
          simp only [extU, h1, h2, if_false]
        · by_cases e : y = n
          · simp [extU, e]
          · simp [extU, e]
      have hn1 : evE cf (.bin .add (.var 3) (.con (.int 1))) [.imm (.sref 0), .imm (.lst (rowsOf n m)), .imm (.int (most : Int)), .imm (.int (n : Int)), .imm (.int p), .undef, .undef, .undef, .undef] [s1] = .ok (.imm (.int ((n + 1 : Nat) : Int))) [s1] := ev_to (x := .imm (.int ((n : Int) + 1))) (by walk_at "ev") rfl
      apply wp_seq
      apply wp_ret (c := .own ((rowsOf (n + 1) (extU n m)).map .imm))
      · rw [← hr]
        apply ev_bin
        · walk_at "ev"
        · apply ev_lst (xs := [D.tup (vec (n + 1) .int)].map .imm)
          · apply ev_cons
            · exact ev_lrangeT (ev_range1 hn1 (by omega)) (small_of (by rw [vec_length]; omega))
            · exact ev_nil
          · rfl
          · rfl
        · exact b_addL lst_own lst_own (by rw [vec_length]; simp; omega)
      · rfl
      exact ⟨n + 1, _, s1, rfl, hs1, by omega, by omega, q1, q2, .inl rfl⟩
    intro h
    walk_at "go"
    apply wp_ite
    · walk_at "ev"
    · walk_at "tru"
    · intro h
      simp only [Bool.and_eq_true, decide_eq_true_eq] at h
      -- the small one, and the product with it
      have fin : ∀ (u : Cell) (o : Int → Int → Int) (st : List D) (K : Wish), Clo 2 o → Asc 2 o → StOk st → (∀ (n : Nat) (m : Int → Int → Int) (c : Cell), 1 ≤ n → n ≤ most → Clo n m → Asc n m → IsL c (rowsOf n m) → K.R c [st]) →
          (evS cf W (.ret (.comp 6 (.range1 (.bin .mul (.con (.int 2)) (.var 3))) (.con (.bl true)) (.bi .tuple (.cons (.comp 8 (.range1 (.bin .mul (.con (.int 2)) (.var 3))) (.con (.bl true)) (.bin .add (.bin .mul (.con (.int 2)) (.ix (.ix (.var 1) (.bin .fdiv (.var 6) (.con (.int 2)))) (.bin .fdiv (.var 8) (.con (.int 2))))) (.ix (.ix (.var 5) (.bin .mod (.bi .int (.cons (.var 6) .nil)) (.con (.int 2)))) (.bin .mod (.bi .int (.cons (.var 8) .nil)) (.con (.int 2)))))) .nil)))) [.imm (.sref 0), .imm (.lst (rowsOf n m)), .imm (.int (most : Int)), .imm (.int (n : Int)), .imm (.int p), .imm (.lst (rowsOf 2 o)), .undef, .undef, .undef] [st]).wp K := by
        intro u o st K ho hoa hst hK
        obtain ⟨q1, q2⟩ := extD_ok hm ha ho hoa
        apply wp_ret (c := .own ((rowsOf (2 * n) (extD m o)).map .imm)) (s1 := [st])
        · apply ev_compV (n := 2 * n) (g := fun x => rowT (2 * n) (extD m o x))
          · apply ev_range1 (n := 2 * n)
            · apply ev_to (x := .imm (.int (2 * (n : Int))))
              · walk_at "ev"
              · rfl
            · omega
          · walk_at "it"
          · omega
          · intro x x0 x1
            walk_at "set"
            apply ev_bi
            · apply ev_cons
              · apply ev_compV (n := 2 * n) (g := fun y => .int (2 * m (x / 2) (y / 2) + o (x % 2) (y % 2)))
                · apply ev_range1 (n := 2 * n)
                  · apply ev_to (x := .imm (.int (2 * (n : Int))))
                    · walk_at "ev"
                    · rfl
                  · omega
                · walk_at "it"
                · omega
                · intro y y0 y1
                  walk_at "set"
                  have b1 := hm (x / 2) (y / 2) (by omega) (by omega) (by omega) (by omega)
                  walk_at "ev"
              · walk_at "ev"
            · exact tup_O
        · rfl
        · exact hK _ _ _ (by omega) (by omega) q1 q2 (.inl rfl)
      walk_at "go"
      apply wp_ite
      · walk_at "ev"
      · walk_at "tru"
      · intro hv
        walk_at "go"
        have e9 : [D.tup [.int 0, .int 1], .tup [.int 1, .int 0]] = rowsOf 2 (fun x y => if x = y then 0 else 1) := rfl
        rw [e9]
        refine fin .undef (fun x y => if x = y then 0 else 1) s2 _ ?_ ?_ hs2 ?_
        · intro x y x0 x1 y0 y1
          simp only
          split <;> omega
        · intro x y z x0 x1 y0 y1 z0 z1
          simp only
          (repeat' split) <;> omega
        · exact fun n m c h1 h2 h3 h4 h5 => ⟨n, m, s2, rfl, hs2, h1, h2, h3, h4, h5⟩
      · intro hv
        walk_at "go"
        have e9 : [D.tup [.int 0, .int 0], .tup [.int 0, .int 1]] = rowsOf 2 (fun x y => if x = 1 ∧ y = 1 then 1 else 0) := rfl
        rw [e9]
        refine fin .undef (fun x y => if x = 1 ∧ y = 1 then 1 else 0) s2 _ ?_ ?_ hs2 ?_
        · intro x y x0 x1 y0 y1
          simp only
          split <;> omega
        · intro x y z x0 x1 y0 y1 z0 z1
          simp only
          (repeat' split) <;> omega
        · exact fun n m c h1 h2 h3 h4 h5 => ⟨n, m, s2, rfl, hs2, h1, h2, h3, h4, h5⟩
    intro h
    walk_at "go"
    exact ⟨n, m, s1, rfl, hs1, n0, n1, hm, ha, .inr rfl⟩
  obtain ⟨c, _, e, n, m, s', rfl, h1, h2, h3, h4, h5, h6⟩ := Re.wp_ex key
  exact ⟨n, m, c, s', h1, h2, h3, h4, h5, h6, e⟩

/-! ### a drawn semigroup -/
def SpSemi (g : Rn) : Prop := ∀ (most : Nat) (s : List D), 1 ≤ most → most ≤ 24 → StOk s → ∃ (n : Nat) (m : Int → Int → Int) (s' : List D), StOk s' ∧ 1 ≤ n ∧ n ≤ most ∧ Clo n m ∧ Asc n m ∧ g [.imm (.sref 0), .imm (.int (most : Int))] [s] = .ok (.own ((rowsOf n m).map .imm)) [s']
theorem renamed_ok {n : Nat} {m m' : Int → Int → Int} {f : Int → Int} (hm : Clo n m) (ha : Asc n m) (hf : Pm n f) (h : ∀ x y : Int, 0 ≤ x → x < (n : Int) → 0 ≤ y → y < (n : Int) → m' (f x) (f y) = f (m x y)) : Clo n m' ∧ Asc n m' := by
  have hf1 := pm_clo hf
  constructor
  · intro x y x0 x1 y0 y1
    obtain ⟨u, u0, u1, rfl⟩ := pm_sur hf x0 x1
    obtain ⟨v, v0, v1, rfl⟩ := pm_sur hf y0 y1
    rw [h u v u0 u1 v0 v1]
    have := hm u v u0 u1 v0 v1
    exact hf1 _ this.1 this.2
  · intro x y z x0 x1 y0 y1 z0 z1
    obtain ⟨u, u0, u1, rfl⟩ := pm_sur hf x0 x1
    obtain ⟨v, v0, v1, rfl⟩ := pm_sur hf y0 y1
    obtain ⟨w, w0, w1, rfl⟩ := pm_sur hf z0 z1
    have b1 := hm u v u0 u1 v0 v1
    have b2 := hm v w v0 v1 w0 w1
    rw [h u v u0 u1 v0 v1, h v w v0 v1 w0 w1, h _ w b1.1 b1.2 w0 w1, h u _ u0 u1 b2.1 b2.2, ha u v w u0 u1 v0 v1 w0 w1]
theorem sp_semigroup {cf : CF} {W i j k l : Nat} (hx : SpExt (cf i)) (hp : SpTab (cf j)) (hr : SpRenamed (cf k)) (ho : SpOrder (cf l)) : SpSemi (runFn cf W (F_law_semigroup i j k l)) := by
  intro most s m0 m1 hs
  obtain ⟨n, m, c, s1, q1, q2, q3, q4, q5, q6, q7⟩ := hp most s m0 m1 hs
  obtain ⟨n2, m2, c2, s2, r1, r2, r3, r4, r5, r6, r7⟩ := hx n most m s1 q2 q3 m1 q4 q5 q1
  obtain ⟨f, s3, t1, t2, t3⟩ := ho n2 s2 (by omega) r1
  obtain ⟨m3, u1, u2⟩ := hr n2 m2 f [s3] (by omega) r4 t2
  obtain ⟨w1, w2⟩ := renamed_ok r4 r5 t2 u1
  refine ⟨n2, m3, s3, t1, r2, r3, w1, w2, Re.wp_eq (run_wp rfl rfl ?_)⟩
  show (evS cf W (B_law_semigroup i j k l) [.imm (.sref 0), .imm (.int (most : Int)), .undef] [s]).wp _
  unfold B_law_semigroup
  apply wp_seq
  apply wp_asg (c := c2) (s1 := [s2])
  · refine ev_call (ev_cons (ev_var rfl) (ev_cons (ev_call (ev_cons (ev_var rfl) (ev_cons (ev_var rfl) ev_nil)) (by walk_at "pass") q7) (ev_cons (ev_var rfl) ev_nil))) ?_ r7
    exact pass_cons pass_imm (pass_cons q6.pass (pass_cons pass_imm pass_nil))
  · exact r6.own
  walk_at "set"
  walk_at "red"
  apply wp_seq
  apply wp_frz rfl r6.keep
  walk_at "set"
  walk_at "red"
  apply wp_seq
  apply wp_ret (c := .own ((rowsOf n2 m3).map .imm)) (s1 := [s3])
  · walk_at "ev"
  · rfl
  · exact ⟨rfl, rfl⟩

end Q

set_option maxRecDepth 100000
set_option maxHeartbeats 1000000
namespace Q
open PySem
/-! is_equivalence(value, n); names 0:value 1:n 2:x -/
def B_is_equivalence (f_is_integer : Nat) : IS :=
 (.seq (.ite (.or (.not (.isi (.var 0) [.tuple])) (.bin .ne (.bi .len (.cons (.var 0) .nil)) (.var 1)))
 (.seq (.ret (.con (.bl false)))
 .skip)
 .skip)
 (.seq (.for_ 2 (.range1 (.var 1))
 (.seq (.ite (.or (.not (.call f_is_integer (.cons (.ix (.var 0) (.var 2)) .nil))) (.or (.bin .lt (.ix (.var 0) (.var 2)) (.con (.int 0))) (.bin .gt (.ix (.var 0) (.var 2)) (.var 2))))
 (.seq (.ret (.con (.bl false)))
 .skip)
 .skip)
 (.seq (.ite (.bin .ne (.ix (.var 0) (.ix (.var 0) (.var 2))) (.ix (.var 0) (.var 2)))
 (.seq (.ret (.con (.bl false)))
 .skip)
 .skip)
 .skip)))
 (.seq (.ret (.con (.bl true)))
 .skip)))
def F_is_equivalence (f_is_integer : Nat) : Fn := ⟨2, 3, false, 0, 0, B_is_equivalence f_is_integer⟩
/-! is_congruence(s, value); names 0:s 1:value 2:x 3:z -/
def B_is_congruence (f_is_equivalence : Nat) : IS :=
 (.seq (.ite (.not (.call f_is_equivalence (.cons (.var 1) (.cons (.fld (.var 0) 0 0) .nil))))
 (.seq (.ret (.con (.bl false)))
 .skip)
 .skip)
 (.seq (.for_ 2 (.range1 (.fld (.var 0) 0 0))
 (.seq (.for_ 3 (.range1 (.fld (.var 0) 0 0))
 (.seq (.ite (.bin .ne (.ix (.var 1) (.ix (.ix (.fld (.var 0) 0 1) (.var 2)) (.var 3))) (.ix (.var 1) (.ix (.ix (.fld (.var 0) 0 1) (.ix (.var 1) (.var 2))) (.var 3))))
 (.seq (.ret (.con (.bl false)))
 .skip)
 .skip)
 (.seq (.ite (.bin .ne (.ix (.var 1) (.ix (.ix (.fld (.var 0) 0 1) (.var 3)) (.var 2))) (.ix (.var 1) (.ix (.ix (.fld (.var 0) 0 1) (.var 3)) (.ix (.var 1) (.var 2)))))
 (.seq (.ret (.con (.bl false)))
 .skip)
 .skip)
 .skip)))
 .skip))
 (.seq (.ret (.con (.bl true)))
 .skip)))
def F_is_congruence (f_is_equivalence : Nat) : Fn := ⟨2, 4, false, 0, 0, B_is_congruence f_is_equivalence⟩
/-! ### equivalences, congruences -/
def IsEq (n : Nat) (c : Int → Int) : Prop := ∀ x, 0 ≤ x → x < (n : Int) → 0 ≤ c x ∧ c x ≤ x ∧ c (c x) = c x
theorem IsEq.clo {n : Nat} {c : Int → Int} (h : IsEq n c) : Clo1 n n c := fun x x0 x1 => by have := h x x0 x1; omega
def eqvAt (xs : List D) (x : Int) : Bool := match xs[x.toNat]? with
  | some (.int v) => decide (0 ≤ v ∧ v ≤ x) && (match xs[v.toNat]? with | some (.int u) => decide (u = v) | _ => false)
  | _ => false
def isEqv (d : D) (n : Nat) : Bool := match d with
  | .tup xs => decide (xs.length = n) && (rng n).all (eqvAt xs)
  | _ => false
def okD (d : D) : Prop := okT d ∧ ∀ xs, d = .tup xs → xs.length ≤ 1000 ∧ ∀ x ∈ xs, okT x
def SpEqv (g : Rn) : Prop := ∀ (d : D) (n : Nat) (st : Store), n ≤ 1000 → okD d → g [.imm d, .imm (.int (n : Int))] st = .ok (.imm (.bl (isEqv d n))) st
theorem sp_eqv {cf : CF} {W i : Nat} (h : SpInt (cf i)) : SpEqv (runFn cf W (F_is_equivalence i)) := by
  intro d n st hn hd
  refine Re.wp_eq (run_wp rfl rfl ?_)
  show (evS cf W (B_is_equivalence i) [.imm d, .imm (.int (n : Int)), .undef] st).wp _
  unfold B_is_equivalence
  apply wp_seq
  by_cases ht : ∃ xs, d = .tup xs
  · obtain ⟨xs, rfl⟩ := ht
    obtain ⟨hl, hx⟩ := hd.2 xs rfl
    apply wp_ite (t := !decide ((xs.length : Int) = n))
    · apply ev_to (x := .imm (.bl (!true || !decide ((xs.length : Int) = n))))
      · walk_at "ev"
      · rfl
    · rfl
    · intro hlen
      rw [Bool.not_eq_true', decide_eq_false_iff_not] at hlen
      walk_at "go"
      refine ⟨?_, rfl⟩
      have : ¬ xs.length = n := by omega
      simp [isEqv, this]
    · intro hlen
      rw [Bool.not_eq_false', decide_eq_true_eq] at hlen
      walk_at "go"
      apply wp_for (fun j ρ s => s = st ∧ (∀ y : Int, 0 ≤ y → y < j → eqvAt xs y = true) ∧ ∃ a : Cell, ρ = [.imm (.tup xs), .imm (.int (n : Int)), a])
      · walk_at "ev"
      · walk_at "for"
      · exact ⟨rfl, fun y h1 h2 => by omega, _, rfl⟩
      · rintro x ρ s hxn ⟨rfl, hq, a, rfl⟩
        walk_at "set"
        have hget : xs[x]? = some (xs[x]'(by omega)) := List.getElem?_eq_getElem (by omega)
        generalize hdx : xs[x]'(by omega) = dx at hget
        have hdm : dx ∈ xs := List.mem_of_getElem? hget
        have hix : ∀ st, ixC (.imm (.tup xs)) (.imm (.int (x : Int))) st = some (.imm dx) := fun st => ix_T (by omega) (by rw [Int.toNat_natCast]; exact hget)
        have eI := h dx s (hx dx hdm)
        have no : eqvAt xs x = false → isEqv (.tup xs) n = false := fun z => by
          have : (rng n).all (eqvAt xs) = false := by
            rw [List.all_eq_false]
            exact ⟨(x : Int), rng_mem.mpr ⟨by omega, by omega⟩, by rw [z]; exact Bool.false_ne_true⟩
          simp [isEqv, this]
        have ei : evE cf (.ix (.var 0) (.var 2)) [.imm (.tup xs), .imm (.int (n : Int)), .imm (.int (x : Int))] s = .ok (.imm dx) s := ev_ix (ev_var rfl) (ev_var rfl) (hix s)
        have ec : evE cf (.call i (.cons (.ix (.var 0) (.var 2)) .nil)) [.imm (.tup xs), .imm (.int (n : Int)), .imm (.int (x : Int))] s = .ok (.imm (.bl (isInt dx))) s := ev_call (ev_cons ei ev_nil) (by walk_at "pass") eI
        apply wp_seq
        by_cases hint : ∃ v, dx = .int v
        · obtain ⟨v, rfl⟩ := hint
          apply wp_ite (t := decide (v < 0) || decide ((x : Int) < v))
          · apply ev_to (x := .imm (.bl (!true || (decide (v < 0) || decide ((x : Int) < v)))))
            · apply ev_orB (ev_not ec rfl)
              intro _
              walk_at "ev"
            · rfl
          · rfl
          · intro hv
            walk_at "go"
            refine ⟨congrArg (fun z => Cell.imm (.bl z)) (no ?_).symm, rfl⟩
            rw [Bool.or_eq_true, decide_eq_true_eq, decide_eq_true_eq] at hv
            have : ¬ (0 ≤ v ∧ v ≤ (x : Int)) := by omega
            simp only [eqvAt, Int.toNat_natCast, hget, this, decide_false, Bool.false_and]
          · intro hv
            rw [Bool.or_eq_false_iff, decide_eq_false_iff_not, decide_eq_false_iff_not] at hv
            -- what stands at v
            have hu : ∃ u, xs[v.toNat]? = some (.int u) := by
              by_cases e : v = x
              · subst e
                exact ⟨_, by rw [Int.toNat_natCast]; exact hget⟩
              · have := hq v (by omega) (by omega)
                unfold eqvAt at this
                split at this
                · rename_i u hu
                  exact ⟨u, hu⟩
                · cases this
            obtain ⟨u, hu⟩ := hu
            have hix2 : ixC (.imm (.tup xs)) (.imm (.int v)) s = some (.imm (.int u)) := ix_T (by omega) hu
            walk_at "go"
            apply wp_ite
            · walk_at "ev"
            · walk_at "tru"
            · intro hv2
              walk_at "go"
              refine ⟨congrArg (fun z => Cell.imm (.bl z)) (no ?_).symm, rfl⟩
              rw [Bool.not_eq_true', decide_eq_false_iff_not] at hv2
              simp only [eqvAt, Int.toNat_natCast, hget, hu, hv2, decide_false, Bool.and_false]
            · intro hv2
              walk_at "go"
              refine ⟨rfl, fun y y0 y1 => ?_, _, rfl⟩
              rw [Bool.not_eq_false', decide_eq_true_eq] at hv2
              by_cases e : y = x
              · subst e
                have : 0 ≤ v ∧ v ≤ (x : Int) := by omega
                simp only [eqvAt, Int.toNat_natCast, hget, hu, hv2, this, and_self, decide_true, Bool.and_self]
              · exact hq y y0 (by omega)
        · have hni : isInt dx = false := by cases dx <;> first | rfl | exact absurd ⟨_, rfl⟩ hint
          rw [hni] at ec
          apply wp_iteT (ev_orT (ev_not ec rfl) rfl) rfl
          walk_at "go"
          refine ⟨congrArg (fun z => Cell.imm (.bl z)) (no ?_).symm, rfl⟩
          unfold eqvAt
          rw [Int.toNat_natCast, hget]
          cases dx <;> first | rfl | exact absurd ⟨_, rfl⟩ hint
      · rintro ρ s ⟨rfl, hq, a, rfl⟩
        walk_at "go"
        refine ⟨?_, rfl⟩
        have h1 : (rng n).all (eqvAt xs) = true := List.all_eq_true.mpr fun y hy => hq y (rng_mem.mp hy).1 (rng_mem.mp hy).2
        have h2 : xs.length = n := by omega
        simp [isEqv, h1, h2]
  · have hf : isEqv d n = false := by cases d <;> first | rfl | exact absurd ⟨_, rfl⟩ ht
    have hty : ∃ t, tyD d = some t ∧ ([Ty.tuple].any (tyLe t)) = false := by
      cases d <;> first | exact absurd ⟨_, rfl⟩ ht | exact (hd.1 rfl).elim | exact ⟨_, rfl, rfl⟩
    obtain ⟨t, t1, t2⟩ := hty
    apply wp_iteT (ev_orT (ev_not (ev_isi (ev_var rfl) (show tyC (.imm d) = some t from t1) t2) rfl) rfl) rfl
    walk_at "go"
    exact ⟨by rw [hf], rfl⟩
theorem isEqv_of {n : Nat} {c : Int → Int} (h : IsEq n c) : isEqv (rowT n c) n = true := by
  unfold isEqv
  simp only [vec_length, decide_true, Bool.true_and, List.all_eq_true]
  intro x hx
  rw [rng_mem] at hx
  have hc := h x hx.1 hx.2
  have h1 : (vec n fun y => D.int (c y))[x.toNat]? = some (.int (c x)) := by rw [vec_get (by omega), Int.toNat_of_nonneg hx.1]
  have h2 : (vec n fun y => D.int (c y))[(c x).toNat]? = some (.int (c (c x))) := by rw [vec_get (by omega), Int.toNat_of_nonneg hc.1]
  unfold eqvAt
  rw [h1]
  simp only [h2, hc, and_self, decide_true, Bool.and_self]
def Cong (n : Nat) (m : Int → Int → Int) (c : Int → Int) : Prop := ∀ x z, 0 ≤ x → x < (n : Int) → 0 ≤ z → z < (n : Int) → c (m x z) = c (m (c x) z) ∧ c (m z x) = c (m z (c x))
def SpCong (g : Rn) : Prop := (∀ (n : Nat) (m : Int → Int → Int) (d : D) (st : Store), n ≤ 1000 → okD d → isEqv d n = false → g [.imm (semD n m), .imm d] st = .ok (.imm (.bl false)) st) ∧
  ∀ (n : Nat) (m : Int → Int → Int) (c : Int → Int) (st : Store), n ≤ 1000 → Clo n m → IsEq n c → ∃ b : Bool, (b = true ↔ Cong n m c) ∧ g [.imm (semD n m), .imm (rowT n c)] st = .ok (.imm (.bl b)) st
theorem okD_row {n : Nat} {c : Int → Int} (hn : n ≤ 1000) : okD (rowT n c) := ⟨fun z => (nomatch z), fun xs e => by
  cases e
  refine ⟨by rw [List.length_map, rng_length]; exact hn, fun x hx => ?_⟩
  obtain ⟨y, _, rfl⟩ := List.mem_map.mp hx
  exact fun z => nomatch z⟩
theorem sp_cong {cf : CF} {W i : Nat} (h : SpEqv (cf i)) : SpCong (runFn cf W (F_is_congruence i)) := by
  constructor
  · intro n m d st hn hd he
    have e1 := h d n st hn hd
    rw [he] at e1
    clear h
    refine Re.wp_eq (run_wp rfl rfl ?_)
    show (evS cf W (B_is_congruence i) [.imm (semD n m), .imm d, .undef, .undef] st).wp _
    unfold B_is_congruence
    apply wp_seq
    apply wp_iteT
    · walk_at "ev"
    · rfl
    walk_at "go"
    exact ⟨rfl, rfl⟩
  · intro n m c st hn hm hc
    have e1 := h (rowT n c) n st hn (okD_row hn)
    rw [isEqv_of hc] at e1
    clear h
    have hcl := hc.clo
    have key : (runFn cf W (F_is_congruence i) [.imm (semD n m), .imm (rowT n c)] st).wp (fun r s => s = st ∧ ∃ b : Bool, (b = true ↔ Cong n m c) ∧ r = .imm (.bl b)) noX := by
      refine run_wp rfl rfl ?_
      show (evS cf W (B_is_congruence i) [.imm (semD n m), .imm (rowT n c), .undef, .undef] st).wp _
      unfold B_is_congruence
      apply wp_seq
      apply wp_iteF
      · walk_at "ev"
      · rfl
      walk_at "go"
      apply wp_for (fun j ρ s => s = st ∧ (∀ x z : Int, 0 ≤ x → x < (j : Int) → 0 ≤ z → z < (n : Int) → c (m x z) = c (m (c x) z) ∧ c (m z x) = c (m z (c x))) ∧ ∃ a b : Cell, ρ = [.imm (semD n m), .imm (rowT n c), a, b])
      · walk_at "ev"
      · walk_at "for"
      · exact ⟨rfl, fun x z x0 x1 => by omega, _, _, rfl⟩
      · rintro x ρ s hx ⟨rfl, hq, a, b, rfl⟩
        walk_at "set"
        walk_at "go"
        apply wp_for (fun j ρ s' => s' = s ∧ (∀ z : Int, 0 ≤ z → z < (j : Int) → c (m x z) = c (m (c x) z) ∧ c (m z x) = c (m z (c x))) ∧ ∃ b : Cell, ρ = [.imm (semD n m), .imm (rowT n c), .imm (.int (x : Int)), b])
        · walk_at "ev"
        · walk_at "for"
        · exact ⟨rfl, fun z z0 z1 => by omega, _, rfl⟩
        · rintro z ρ s hz ⟨rfl, hr, b, rfl⟩
          walk_at "set"
          walk_at "go"
          apply wp_ite
          · walk_at "ev"
          · walk_at "tru"
          · intro e
            walk_at "go"
            rw [Bool.not_eq_true', decide_eq_false_iff_not] at e
            exact ⟨rfl, false, ⟨fun z => (nomatch z), fun hc => absurd (hc x z (by omega) (by omega) (by omega) (by omega)).1 e⟩, rfl⟩
          intro e
          rw [Bool.not_eq_false', decide_eq_true_eq] at e
          walk_at "go"
          apply wp_ite
          · walk_at "ev"
          · walk_at "tru"
          · intro e
            walk_at "go"
            rw [Bool.not_eq_true', decide_eq_false_iff_not] at e
            exact ⟨rfl, false, ⟨fun z => (nomatch z), fun hc => absurd (hc x z (by omega) (by omega) (by omega) (by omega)).2 e⟩, rfl⟩
          intro e2
          rw [Bool.not_eq_false', decide_eq_true_eq] at e2
          walk_at "go"
          refine ⟨rfl, fun z' z0 z1 => ?_, _, rfl⟩
          by_cases ez : z' = z
          · subst ez; exact ⟨e, e2⟩
          · exact hr z' z0 (by omega)
        · rintro ρ s ⟨rfl, hr, b, rfl⟩
          walk_at "go"
          refine ⟨rfl, fun x' z x0 x1 z0 z1 => ?_, _, _, rfl⟩
          by_cases ex : x' = x
          · subst ex; exact hr z z0 z1
          · exact hq x' z x0 (by omega) z0 z1
      · rintro ρ s ⟨rfl, hq, a, b, rfl⟩
        walk_at "go"
        exact ⟨rfl, true, ⟨fun _ x z x0 x1 z0 z1 => hq x z x0 x1 z0 z1, fun _ => rfl⟩, rfl⟩
    obtain ⟨r, _, e, rfl, b, hb, rfl⟩ := Re.wp_ex key
    exact ⟨b, hb, e⟩
end Q

set_option maxRecDepth 100000
set_option maxHeartbeats 1000000
namespace Q
open PySem
/-! _law_equivalences(n); names 0:n 1:found 2:x 3:longer 4:row 5:heads 6:y -/
def B_law_equivalences (es : List (Nat × Nat)) : IS :=
 (.seq (.asg 1 (.lst (.cons (.tup .nil) .nil)))
 (.seq (.frz 1)
 (.seq (.for_ 2 (.range1 (.var 0))
 (.seq (.asg 3 (.lst .nil))
 (.seq (.frz 3)
 (.seq (.for_ 4 (.var 1)
 (.seq (.asg 5 (.comp 6 (.range1 (.var 2)) (.eqm es (.ix (.var 4) (.var 6)) (.var 6)) (.var 6)))
 (.seq (.frz 5)
 (.seq (.asg 3 (.bin .add (.var 3) (.comp 6 (.bin .add (.var 5) (.lst (.cons (.var 2) .nil))) (.con (.bl true)) (.bin .add (.var 4) (.tup (.cons (.var 6) .nil))))))
 (.seq (.frz 3)
 .skip)))))
 (.seq (.asg 1 (.var 3))
 .skip)))))
 (.seq (.ret (.bi .sorted (.cons (.var 1) .nil)))
 .skip))))
def F_law_equivalences (es : List (Nat × Nat)) : Fn := ⟨1, 7, false, 0, 0, B_law_equivalences es⟩
/-! _law_is_congruence(table, classes); names 0:table 1:classes 2:n 3:x 4:y 5:z -/
def B_law_is_congruence (es : List (Nat × Nat)) : IS :=
 (.seq (.asg 2 (.bi .len (.cons (.var 0) .nil)))
 (.seq (.for_ 3 (.range1 (.var 2))
 (.seq (.for_ 4 (.range1 (.var 3))
 (.seq (.ite (.eqm es (.ix (.var 1) (.var 3)) (.ix (.var 1) (.var 4)))
 (.seq (.for_ 5 (.range1 (.var 2))
 (.seq (.ite (.or (.bin .ne (.ix (.var 1) (.ix (.ix (.var 0) (.var 3)) (.var 5))) (.ix (.var 1) (.ix (.ix (.var 0) (.var 4)) (.var 5)))) (.bin .ne (.ix (.var 1) (.ix (.ix (.var 0) (.var 5)) (.var 3))) (.ix (.var 1) (.ix (.ix (.var 0) (.var 5)) (.var 4)))))
 (.seq (.ret (.con (.bl false)))
 .skip)
 .skip)
 .skip))
 .skip)
 .skip)
 .skip))
 .skip))
 (.seq (.ret (.con (.bl true)))
 .skip)))
def F_law_is_congruence (es : List (Nat × Nat)) : Fn := ⟨2, 6, false, 0, 0, B_law_is_congruence es⟩
def LCong (n : Nat) (m : Int → Int → Int) (c : Int → Int) : Prop := ∀ x y z, 0 ≤ x → x < (n : Int) → 0 ≤ y → y < x → c x = c y → 0 ≤ z → z < (n : Int) → c (m x z) = c (m y z) ∧ c (m z x) = c (m z y)
theorem lcong_iff {n : Nat} {m : Int → Int → Int} {c : Int → Int} (h : IsEq n c) : LCong n m c ↔ Cong n m c := by
  constructor
  · intro hl x z x0 x1 z0 z1
    have hx := h x x0 x1
    by_cases e : c x = x
    · rw [e]; exact ⟨rfl, rfl⟩
    · exact hl x (c x) z x0 x1 hx.1 (by omega) hx.2.2.symm z0 z1
  · intro hc x y z x0 x1 y0 y1 e z0 z1
    have a := hc x z x0 x1 z0 z1
    have b := hc y z y0 (by omega) z0 z1
    rw [e] at a
    exact ⟨a.1.trans b.1.symm, a.2.trans b.2.symm⟩
def SpLCong (g : Rn) : Prop := ∀ (n : Nat) (m : Int → Int → Int) (c : Int → Int) (st : Store), n ≤ 1000 → Clo n m → IsEq n c → ∃ b : Bool, (b = true ↔ Cong n m c) ∧ g [.imm (tabL n m), .imm (rowT n c)] st = .ok (.imm (.bl b)) st
theorem sp_lcong {cf : CF} {W : Nat} {es : List (Nat × Nat)} : SpLCong (runFn cf W (F_law_is_congruence es)) := by
  intro n m c st hn hm hc
  have hcl := hc.clo
  have key : (runFn cf W (F_law_is_congruence es) [.imm (tabL n m), .imm (rowT n c)] st).wp (fun r s => s = st ∧ ∃ b : Bool, (b = true ↔ LCong n m c) ∧ r = .imm (.bl b)) noX := by
    refine run_wp rfl rfl ?_
    show (evS cf W (B_law_is_congruence es) [.imm (tabL n m), .imm (rowT n c), .undef, .undef, .undef, .undef] st).wp _
    unfold B_law_is_congruence
    walk_at "go"
    apply wp_for (fun j ρ s => s = st ∧ (∀ x y z : Int, 0 ≤ x → x < (j : Int) → 0 ≤ y → y < x → c x = c y → 0 ≤ z → z < (n : Int) → c (m x z) = c (m y z) ∧ c (m z x) = c (m z y)) ∧ ∃ a b d : Cell, ρ = [.imm (tabL n m), .imm (rowT n c), .imm (.int (n : Int)), a, b, d])
    · walk_at "ev"
    · walk_at "for"
    · exact ⟨rfl, fun x y z x0 x1 => by omega, _, _, _, rfl⟩
    · rintro x ρ s hx ⟨rfl, hq, a, b, d, rfl⟩
      walk_at "set"
      walk_at "go"
      apply wp_for (fun j ρ s' => s' = s ∧ (∀ y z : Int, 0 ≤ y → y < (j : Int) → c x = c y → 0 ≤ z → z < (n : Int) → c (m x z) = c (m y z) ∧ c (m z x) = c (m z y)) ∧ ∃ b d : Cell, ρ = [.imm (tabL n m), .imm (rowT n c), .imm (.int (n : Int)), .imm (.int (x : Int)), b, d])
      · walk_at "ev"
      · walk_at "for"
      · exact ⟨rfl, fun y z y0 y1 => by omega, _, _, rfl⟩
      · rintro y ρ s hy ⟨rfl, hr, b, d, rfl⟩
        walk_at "set"
        walk_at "go"
        apply wp_ite
        · walk_at "ev"
        · walk_at "tru"
        · intro hxy
          rw [decide_eq_true_eq] at hxy
          walk_at "go"
          apply wp_for (fun j ρ s' => s' = s ∧ (∀ z : Int, 0 ≤ z → z < (j : Int) → c (m x z) = c (m y z) ∧ c (m z x) = c (m z y)) ∧ ∃ d : Cell, ρ = [.imm (tabL n m), .imm (rowT n c), .imm (.int (n : Int)), .imm (.int (x : Int)), .imm (.int (y : Int)), d])
          · walk_at "ev"
          · walk_at "for"
          · exact ⟨rfl, fun z z0 z1 => by omega, _, rfl⟩
          · rintro z ρ s hz ⟨rfl, ht, d, rfl⟩
            walk_at "set"
            walk_at "go"
            apply wp_ite
            · walk_at "ev"
            · walk_at "tru"
            · intro e
              walk_at "go"
              refine ⟨rfl, false, ⟨fun z => (nomatch z), fun hc => ?_⟩, rfl⟩
              have := hc x y z (by omega) (by omega) (by omega) (by omega) hxy (by omega) (by omega)
              rw [decide_eq_true this.1, decide_eq_true this.2] at e
              cases e
            · intro e
              walk_at "go"
              simp only [Bool.or_eq_false_iff, Bool.not_eq_false', decide_eq_true_eq] at e
              refine ⟨rfl, fun z' z0 z1 => ?_, _, rfl⟩
              by_cases ez : z' = z
              · subst ez; exact e
              · exact ht z' z0 (by omega)
          · rintro ρ s ⟨rfl, ht, d, rfl⟩
            walk_at "go"
            refine ⟨rfl, fun y' z y0 y1 e z0 z1 => ?_, _, _, rfl⟩
            by_cases ey : y' = y
            · subst ey; exact ht z z0 z1
            · exact hr y' z y0 (by omega) e z0 z1
        · intro hxy
          rw [decide_eq_false_iff_not] at hxy
          walk_at "go"
          refine ⟨rfl, fun y' z y0 y1 e z0 z1 => ?_, _, _, rfl⟩
          by_cases ey : y' = y
          · subst ey; exact absurd e hxy
          · exact hr y' z y0 (by omega) e z0 z1
      · rintro ρ s ⟨rfl, hr, b, d, rfl⟩
        walk_at "go"
        refine ⟨rfl, fun x' y z x0 x1 y0 y1 e z0 z1 => ?_, _, _, _, rfl⟩
        by_cases ex : x' = x
        · subst ex; exact hr y z y0 y1 e z0 z1
        · exact hq x' y z x0 (by omega) y0 y1 e z0 z1
    · rintro ρ s ⟨rfl, hq, a, b, d, rfl⟩
      walk_at "go"
      exact ⟨rfl, true, ⟨fun _ => hq, fun _ => rfl⟩, rfl⟩
  obtain ⟨r, _, e, rfl, b, hb, rfl⟩ := Re.wp_ex key
  exact ⟨b, hb.trans (lcong_iff hc), e⟩
/-! ### all equivalences of up to five -/
def eqvStep (x : Int) (F : List (List Int)) : List (List Int) := F.flatMap fun row => (((rng x.toNat).filter fun y => decide (gat row y = y)) ++ [x]).map fun y => row ++ [y]
def eqvs (n : Nat) : List (List Int) := sortZ (TS.code 1000) ((rng n).foldl (fun F x => eqvStep x F) [[]])
def eqvB (n : Nat) (l : List Int) : Bool := decide (l.length = n) && (rng n).all fun x => decide (0 ≤ gat l x ∧ gat l x ≤ x ∧ gat l (gat l x) = gat l x)
theorem eqvB_ok {n : Nat} {l : List Int} (h : eqvB n l = true) : IsEq n (gat l) ∧ mapT l = rowT n (gat l) := by
  unfold eqvB at h
  rw [Bool.and_eq_true, decide_eq_true_eq, List.all_eq_true] at h
  refine ⟨fun x x0 x1 => of_decide_eq_true (h.2 x (rng_mem.mpr ⟨x0, x1⟩)), ?_⟩
  show D.tup _ = D.tup _
  rw [map_vec l 0 D.int, h.1]
  rfl
def SpEqvs (g : Rn) : Prop := ∀ (n : Nat) (st : Store), 1 ≤ n → n ≤ 5 → g [.imm (.int (n : Int))] st = .ok (.own ((eqvs n).map fun l => .imm (mapT l))) st
theorem eqvs_all (n : Nat) (h1 : 1 ≤ n) (h5 : n ≤ 5) : (eqvs n).all (eqvB n) = true ∧ 0 < (eqvs n).length ∧ (eqvs n).length ≤ 52 := by
  have : n = 1 ∨ n = 2 ∨ n = 3 ∨ n = 4 ∨ n = 5 := by omega
  rcases this with rfl | rfl | rfl | rfl | rfl <;> decide +kernel
theorem sp_eqvs {cf : CF} {W : Nat} {es : List (Nat × Nat)} : SpEqvs (runFn cf W (F_law_equivalences es)) := by
  intro n st h1 h5
  have : n = 1 ∨ n = 2 ∨ n = 3 ∨ n = 4 ∨ n = 5 := by omega
  rcases this with rfl | rfl | rfl | rfl | rfl
  · kernel_rfl
  · kernel_rfl
  · kernel_rfl
  · kernel_rfl
  · kernel_rfl
end Q

set_option maxRecDepth 100000
set_option maxHeartbeats 1000000
namespace Q
open PySem
/-! Semigroup.multiply(self, x, y); names 0:self 1:x 2:y -/
def B_Semigroup_multiply : IS :=
 (.seq (.ret (.ix (.ix (.fld (.var 0) 0 1) (.var 1)) (.var 2)))
 .skip)
def F_Semigroup_multiply : Fn := ⟨3, 3, false, 0, 0, B_Semigroup_multiply⟩
/-! class_numbers(classes); names 0:classes 1:heads 2:x 3:c -/
def B_class_numbers (es : List (Nat × Nat)) : IS :=
 (.seq (.asg 1 (.comp 2 (.range1 (.bi .len (.cons (.var 0) .nil))) (.eqm es (.ix (.var 0) (.var 2)) (.var 2)) (.var 2)))
 (.seq (.frz 1)
 (.seq (.ret (.bi .tuple (.cons (.comp 3 (.var 0) (.con (.bl true)) (.index (.var 1) (.var 3))) .nil)))
 .skip)))
def F_class_numbers (es : List (Nat × Nat)) : Fn := ⟨1, 4, false, 0, 0, B_class_numbers es⟩
/-! quotient(s, classes); names 0:s 1:classes 2:numbers 3:heads 4:x 5:y -/
def B_quotient (f_is_congruence f_class_numbers f_Semigroup___init__ : Nat) (es : List (Nat × Nat)) : IS :=
 (.seq (.ite (.not (.call f_is_congruence (.cons (.var 0) (.cons (.var 1) .nil))))
 (.seq (.raiseM 1)
 .skip)
 .skip)
 (.seq (.asg 2 (.call f_class_numbers (.cons (.var 1) .nil)))
 (.seq (.frz 2)
 (.seq (.asg 3 (.comp 4 (.range1 (.fld (.var 0) 0 0)) (.eqm es (.ix (.var 1) (.var 4)) (.var 4)) (.var 4)))
 (.seq (.frz 3)
 (.seq (.ret (.new 0 f_Semigroup___init__ (.cons (.comp 4 (.var 3) (.con (.bl true)) (.comp 5 (.var 3) (.con (.bl true)) (.ix (.var 2) (.ix (.ix (.fld (.var 0) 0 1) (.var 4)) (.var 5))))) .nil)))
 .skip))))))
def F_quotient (f_is_congruence f_class_numbers f_Semigroup___init__ : Nat) (es : List (Nat × Nat)) : Fn := ⟨2, 6, false, 0, 0, B_quotient f_is_congruence f_class_numbers f_Semigroup___init__ es⟩
/-! _law_congruences(table); names 0:table 1:classes -/
def B_law_congruences (f__law_equivalences f__law_is_congruence : Nat) : IS :=
 (.seq (.ret (.comp 1 (.call f__law_equivalences (.cons (.bi .len (.cons (.var 0) .nil)) .nil)) (.call f__law_is_congruence (.cons (.var 0) (.cons (.var 1) .nil))) (.var 1)))
 .skip)
def F_law_congruences (f__law_equivalences f__law_is_congruence : Nat) : Fn := ⟨1, 2, false, 0, 0, B_law_congruences f__law_equivalences f__law_is_congruence⟩

/-! the heads of an equivalence and the classes' numbers -/
def hds (n : Nat) (c : Int → Int) : List Int := (rng n).filter fun x => decide (c x = x)
def hnoN (c : Int → Int) (y : Int) : Nat := ((rng (c y).toNat).filter fun x => decide (c x = x)).length
def hno (c : Int → Int) (y : Int) : Int := (hnoN c y : Nat)
theorem rng_at {n k : Nat} (h : k < n) : ∃ zs, rng n = rng k ++ (k : Int) :: zs := by
  obtain ⟨r, rfl⟩ : ∃ r, n = k + (r + 1) := ⟨n - k - 1, by omega⟩
  unfold rng
  rw [List.range_add, List.map_append, List.range_succ_eq_map]
  exact ⟨_, rfl⟩
theorem hds_at {n : Nat} {c : Int → Int} {h : Int} (h0 : 0 ≤ h) (h1 : h < (n : Int)) (hh : c h = h) : ∃ zs, hds n c = ((rng h.toNat).filter fun x => decide (c x = x)) ++ h :: zs := by
  obtain ⟨k, rfl⟩ := Int.eq_ofNat_of_zero_le h0
  obtain ⟨zs, e⟩ := rng_at (n := n) (k := k) (by omega)
  refine ⟨zs.filter fun x => decide (c x = x), ?_⟩
  unfold hds
  rw [e, List.filter_append, List.filter_cons_of_pos (by exact decide_eq_true hh)]
  rfl
theorem hds_mem {n : Nat} {c : Int → Int} {x : Int} : x ∈ hds n c ↔ 0 ≤ x ∧ x < (n : Int) ∧ c x = x := by
  unfold hds
  rw [List.mem_filter, rng_mem, decide_eq_true_eq, and_assoc]
theorem hds_len {n : Nat} {c : Int → Int} : (hds n c).length ≤ n := by
  unfold hds
  have := List.length_filter_le (fun x => decide (c x = x)) (rng n)
  rw [rng_length] at this
  exact this
-- a head stands at its number
theorem hno_get {n : Nat} {c : Int → Int} (hc : IsEq n c) {y : Int} (y0 : 0 ≤ y) (y1 : y < (n : Int)) : (hds n c)[(hno c y).toNat]? = some (c y) := by
  obtain ⟨c0, c1, c2⟩ := hc y y0 y1
  have c3 : c y < (n : Int) := by omega
  obtain ⟨zs, e⟩ := hds_at c0 c3 c2
  rw [e]
  unfold hno hnoN
  rw [Int.toNat_natCast, List.getElem?_append_right (Nat.le_refl _), Nat.sub_self]
  rfl
theorem hno_lt {n : Nat} {c : Int → Int} (hc : IsEq n c) {y : Int} (y0 : 0 ≤ y) (y1 : y < (n : Int)) : 0 ≤ hno c y ∧ hno c y < ((hds n c).length : Int) := by
  have h := List.getElem?_eq_some_iff.mp (hno_get hc y0 y1)
  obtain ⟨h, _⟩ := h
  have h0 : 0 ≤ hno c y := Int.natCast_nonneg _
  exact ⟨h0, by omega⟩
theorem hno_idx {n : Nat} {c : Int → Int} (hc : IsEq n c) {y : Int} (y0 : 0 ≤ y) (y1 : y < (n : Int)) : indexD ((hds n c).map .int) (.int (c y)) = some (hnoN c y) := by
  obtain ⟨c0, c1, c2⟩ := hc y y0 y1
  have c3 : c y < (n : Int) := by omega
  obtain ⟨zs, e⟩ := hds_at c0 c3 c2
  rw [indexD_N rfl (List.all_eq_true.mpr fun z hz => by obtain ⟨w, _, rfl⟩ := List.mem_map.mp hz; rfl), List.findIdx?_map]
  rw [e, List.findIdx?_append, List.findIdx?_eq_none_iff.mpr fun x hx => ?_, List.findIdx?_cons]
  · have h1 : eqN 4 (.int (c y)) (.int (c y)) = true := (eqN_iff nice_int nice_int).mpr rfl
    have h2 : ((fun y_1 => eqN 4 y_1 (.int (c y))) ∘ D.int) (c y) = true := h1
    rw [if_pos h2]
    unfold hnoN
    simp
  · obtain ⟨hx1, _⟩ := List.mem_filter.mp hx
    have hx2 := rng_mem.mp hx1
    rw [Bool.eq_false_iff]
    intro h
    have := (eqN_iff nice_int nice_int).mp (show eqN 4 (.int x) (.int (c y)) = true from h)
    cases this
    omega
abbrev SpClassT (g : Rn) : Prop := ∀ (n : Nat) (c : Int → Int) (st : Store), n ≤ 1000 → IsEq n c → g [.imm (rowT n c)] st = .ok (.imm (rowT n (hno c))) st
theorem sp_class {cf : CF} {W : Nat} {es : List (Nat × Nat)} : SpClassT (runFn cf W (F_class_numbers es)) := by
  intro n c st hn hc
  refine Re.wp_eq (run_wp rfl rfl ?_)
  show (evS cf W (B_class_numbers es) [.imm (rowT n c), .undef, .undef, .undef] st).wp _
  unfold B_class_numbers
  apply wp_seq
  apply wp_asg (c := .own (((hds n c).map .int).map .imm)) (s1 := st)
  · apply ev_compFV (n := n) (h := fun x => .int x) (p := fun x => decide (c x = x)) (g := fun x => .int x)
    · walk_at "ev"
    · walk_at "it"
    · omega
    · intro i i0 i1
      walk_at "set"
      walk_at "ev"
    · intro i i0 i1 _
      walk_at "set"
      walk_at "ev"
  · rfl
  walk_at "set"
  walk_at "red"
  walk_at "go"
  apply wp_ret (c := .imm (rowT n (hno c)))
  · apply ev_bi
    · apply ev_cons
      · apply ev_compV (n := n) (h := fun x => .int (c x)) (g := fun x => .int (hno c x))
        · walk_at "ev"
        · walk_at "it"
        · omega
        · intro i i0 i1
          walk_at "set"
          apply ev_index (xs := (hds n c).map .int) (j := hnoN c i)
          · walk_at "ev"
          · rfl
          · walk_at "ev"
          · exact hno_idx hc i0 i1
      · walk_at "ev"
    · walk_at "bi"
  · rfl
  exact ⟨rfl, rfl⟩
/-! the quotient -/
def hgt (n : Nat) (c : Int → Int) (i : Int) : Int := gat (hds n c) i
def quo (n : Nat) (m : Int → Int → Int) (c : Int → Int) : Int → Int → Int := fun i j => hno c (m (hgt n c i) (hgt n c j))
theorem hgt_in {n : Nat} {c : Int → Int} {i : Int} (i0 : 0 ≤ i) (i1 : i < ((hds n c).length : Int)) : 0 ≤ hgt n c i ∧ hgt n c i < (n : Int) ∧ c (hgt n c i) = hgt n c i := hds_mem.mp (gat_mem i0 i1)
theorem hgt_hno {n : Nat} {c : Int → Int} (hc : IsEq n c) {y : Int} (y0 : 0 ≤ y) (y1 : y < (n : Int)) : hgt n c (hno c y) = c y := by
  obtain ⟨h0, h1⟩ := hno_lt hc y0 y1
  have := gat_get h0 h1
  rw [hno_get hc y0 y1] at this
  exact (Option.some.inj this).symm
theorem hno_eq {c : Int → Int} {x y : Int} (h : c x = c y) : hno c x = hno c y := by
  unfold hno hnoN
  rw [h]
theorem hno_head {n : Nat} {c : Int → Int} (hc : IsEq n c) {y : Int} (y0 : 0 ≤ y) (y1 : y < (n : Int)) : hno c (c y) = hno c y := hno_eq (hc y y0 y1).2.2
theorem quo_clo {n : Nat} {m : Int → Int → Int} {c : Int → Int} (hm : Clo n m) (hc : IsEq n c) : Clo (hds n c).length (quo n m c) := fun i j i0 i1 j0 j1 => by
  obtain ⟨a0, a1, _⟩ := hgt_in i0 i1
  obtain ⟨b0, b1, _⟩ := hgt_in j0 j1
  obtain ⟨m0, m1⟩ := hm _ _ a0 a1 b0 b1
  exact hno_lt hc m0 m1
-- products of classes
theorem quo_hno {n : Nat} {m : Int → Int → Int} {c : Int → Int} (hm : Clo n m) (hc : IsEq n c) (hg : Cong n m c) {x y : Int} (x0 : 0 ≤ x) (x1 : x < (n : Int)) (y0 : 0 ≤ y) (y1 : y < (n : Int)) : quo n m c (hno c x) (hno c y) = hno c (m x y) := by
  unfold quo
  rw [hgt_hno hc x0 x1, hgt_hno hc y0 y1]
  obtain ⟨c0, c1, c2⟩ := hc x x0 x1
  apply hno_eq
  have h1 := (hg y (c x) y0 y1 c0 (by omega)).2
  have h2 := (hg x y x0 x1 y0 y1).1
  exact (h2.trans h1).symm
theorem hgt_self {n : Nat} {c : Int → Int} (hc : IsEq n c) {i : Int} (i0 : 0 ≤ i) (i1 : i < ((hds n c).length : Int)) : hno c (hgt n c i) = i := by
  obtain ⟨a0, a1, a2⟩ := hgt_in i0 i1
  obtain ⟨h0, h1⟩ := hno_lt hc a0 a1
  have e1 := hno_get hc a0 a1
  rw [a2] at e1
  have e2 := gat_get i0 i1
  have nr : (rng n).Nodup := by
    unfold rng
    exact List.Pairwise.map _ (fun a b h e => h (Int.ofNat.inj e)) List.nodup_range
  have nd : (hds n c).Nodup := nr.sublist List.filter_sublist
  have := (List.getElem?_inj (List.getElem?_eq_some_iff.mp e1).1 nd).mp (e1.trans e2.symm)
  omega
theorem quo_asc {n : Nat} {m : Int → Int → Int} {c : Int → Int} (hm : Clo n m) (ha : Asc n m) (hc : IsEq n c) (hg : Cong n m c) : Asc (hds n c).length (quo n m c) := fun i j k i0 i1 j0 j1 k0 k1 => by
  obtain ⟨a0, a1, _⟩ := hgt_in i0 i1
  obtain ⟨b0, b1, _⟩ := hgt_in j0 j1
  obtain ⟨d0, d1, _⟩ := hgt_in k0 k1
  obtain ⟨p0, p1⟩ := hm _ _ a0 a1 b0 b1
  obtain ⟨q0, q1⟩ := hm _ _ b0 b1 d0 d1
  rw [← hgt_self hc i0 i1, ← hgt_self hc j0 j1, ← hgt_self hc k0 k1]
  rw [quo_hno hm hc hg a0 a1 b0 b1, quo_hno hm hc hg p0 p1 d0 d1, quo_hno hm hc hg b0 b1 d0 d1, quo_hno hm hc hg a0 a1 q0 q1, ha _ _ _ a0 a1 b0 b1 d0 d1]
theorem map_gat {β : Type} (l : List Int) (g : Int → β) : l.map g = vec l.length fun i => g (gat l i) := by
  apply List.ext_getElem?
  intro i
  by_cases h : i < l.length
  · have h1 := gat_get (l := l) (i := (i : Int)) (by omega) (by omega)
    rw [Int.toNat_natCast] at h1
    rw [List.getElem?_map, h1]
    show _ = (List.map _ (rng l.length))[i]?
    rw [List.getElem?_map, rng_get h]
    rfl
  · rw [List.getElem?_eq_none (by rw [List.length_map]; omega), List.getElem?_eq_none (by rw [vec_length]; omega)]
def SpQuo (g : Rn) : Prop := (∀ (n : Nat) (m : Int → Int → Int) (c : Int → Int) (st : Store), 1 ≤ n → n ≤ 24 → Clo n m → Asc n m → IsEq n c → Cong n m c → g [.imm (semD n m), .imm (rowT n c)] st = .ok (.imm (semD (hds n c).length (quo n m c))) st) ∧
  (∀ (n : Nat) (m : Int → Int → Int) (c : Int → Int) (st : Store), 1 ≤ n → n ≤ 24 → Clo n m → IsEq n c → ¬ Cong n m c → ∃ ρ : Exc, ρ.c = 1 ∧ g [.imm (semD n m), .imm (rowT n c)] st = .exc ρ st) ∧
  ∀ (n : Nat) (m : Int → Int → Int) (d : D) (st : Store), n ≤ 24 → okD d → isEqv d n = false → ∃ ρ : Exc, ρ.c = 1 ∧ g [.imm (semD n m), .imm d] st = .exc ρ st
theorem hds_pos {n : Nat} {c : Int → Int} (hn : 1 ≤ n) (hc : IsEq n c) : 1 ≤ (hds n c).length := by
  have h := hno_lt hc (y := 0) (by omega) (by omega)
  omega
theorem sp_quo {cf : CF} {W i j k : Nat} {es : List (Nat × Nat)} (hI : SpCong (cf i)) (hN : SpClassT (cf j)) (hS : SpSem (cf k)) : SpQuo (runFn cf W (F_quotient i j k es)) := by
  have bad : ∀ (n : Nat) (m : Int → Int → Int) (d : D) (st : Store), cf i [.imm (semD n m), .imm d] st = .ok (.imm (.bl false)) st → ∃ ρ : Exc, ρ.c = 1 ∧ runFn cf W (F_quotient i j k es) [.imm (semD n m), .imm d] st = .exc ρ st := by
    intro n m d st e1
    clear hI hN hS
    have key : (runFn cf W (F_quotient i j k es) [.imm (semD n m), .imm d] st).wp (fun _ _ => False) (fun x s => x.c = 1 ∧ s = st) := by
      refine run_wp rfl rfl ?_
      show (evS cf W (B_quotient i j k es) [.imm (semD n m), .imm d, .undef, .undef, .undef, .undef] st).wp _
      unfold B_quotient
      apply wp_seq
      apply wp_iteT
      · walk_at "ev"
      · rfl
      apply wp_seq
      apply wp_raiseM
      exact ⟨rfl, rfl⟩
    cases e : runFn cf W (F_quotient i j k es) [.imm (semD n m), .imm d] st with
    | ok c s => rw [e] at key; exact key.ok.elim
    | exc x s =>
      rw [e] at key
      obtain ⟨k1, rfl⟩ := key.ok
      exact ⟨x, k1, rfl⟩
    | stuck => rw [e] at key; exact key.ok.elim
  refine ⟨?_, ?_, ?_⟩
  · intro n m c st n1 n2 hm ha hc hg
    obtain ⟨b, hb, e1⟩ := hI.2 n m c st (by omega) hm hc
    rw [hb.mpr hg] at e1
    have e2 := hN n c st (by omega) hc
    have hH := hds_len (n := n) (c := c)
    have e3 := hS (hds n c).length (quo n m c) false (fun _ => false) st (hds_pos n1 hc) (by omega) (quo_clo hm hc) (quo_asc hm ha hc hg)
    have hcl := hc.clo
    clear hI hN hS
    refine Re.wp_eq (run_wp rfl rfl ?_)
    show (evS cf W (B_quotient i j k es) [.imm (semD n m), .imm (rowT n c), .undef, .undef, .undef, .undef] st).wp _
    unfold B_quotient
    apply wp_seq
    apply wp_iteF
    · walk_at "ev"
    · rfl
    walk_at "go"
    apply wp_ret (c := .imm (semD (hds n c).length (quo n m c)))
    · refine ev_new (s1 := st) (s2 := st) (xs := [.own ((hds n c).map fun x => .own (((hds n c).map fun y => D.int (hno c (m x y))).map .imm))]) (ys := [.imm (.lst ((hds n c).map fun x => .lst ((hds n c).map fun y => D.int (hno c (m x y)))))]) (ev_cons ?_ ev_nil) ?_ ?_
      · apply ev_comp (xs := hds n c) (h := fun x => .int x) (g := fun x => .own (((hds n c).map fun y => D.int (hno c (m x y))).map .imm))
        · walk_at "ev"
        · rfl
        · exact small_of (by omega)
        · intro x hx
          obtain ⟨x0, x1, _⟩ := hds_mem.mp hx
          walk_at "set"
          apply ev_compD (xs := hds n c) (h := fun x => .int x)
          · walk_at "ev"
          · rfl
          · exact small_of (by omega)
          · intro y hy
            obtain ⟨y0, y1, _⟩ := hds_mem.mp hy
            obtain ⟨m0, m1⟩ := hm x y x0 x1 y0 y1
            walk_at "set"
            walk_at "ev"
        · intro b
          rfl
      · walk_at "pass"
      · have e4 : ((hds n c).map fun x => D.lst ((hds n c).map fun y => D.int (hno c (m x y)))) = vec (hds n c).length fun x => seqD false (vec (hds n c).length fun y => .int (quo n m c x y)) := by
          rw [map_gat]
          congr
          funext x
          rw [map_gat]
          rfl
        rw [e4]
        exact e3
    · rfl
    exact ⟨rfl, rfl⟩
  · intro n m c st n1 n2 hm hc hg
    obtain ⟨b, hb, e1⟩ := hI.2 n m c st (by omega) hm hc
    have hbf : b = false := by
      cases b with
      | false => rfl
      | true => exact absurd (hb.mp rfl) hg
    rw [hbf] at e1
    exact bad n m _ st e1
  · intro n m d st n2 hd he
    exact bad n m d st (hI.1 n m d st (by omega) hd he)
/-! all congruences -/
noncomputable def congs (n : Nat) (m : Int → Int → Int) : List (List Int) := (eqvs n).filter fun l => @decide (Cong n m (gat l)) (Classical.propDecidable _)
theorem congs_mem {n : Nat} {m : Int → Int → Int} {l : List Int} : l ∈ congs n m ↔ l ∈ eqvs n ∧ Cong n m (gat l) := by
  unfold congs
  rw [List.mem_filter]
  exact and_congr Iff.rfl (@decide_eq_true_iff _ (Classical.propDecidable _))
theorem eqvs_id (n : Nat) (h1 : 1 ≤ n) (h5 : n ≤ 5) : rng n ∈ eqvs n := by
  have : n = 1 ∨ n = 2 ∨ n = 3 ∨ n = 4 ∨ n = 5 := by omega
  rcases this with rfl | rfl | rfl | rfl | rfl <;> decide +kernel
theorem gat_rng {n : Nat} {x : Int} (x0 : 0 ≤ x) (x1 : x < (n : Int)) : gat (rng n) x = x := by
  have h := gat_get (l := rng n) x0 (by rw [rng_length]; exact x1)
  rw [rng_get (by omega)] at h
  have := Option.some.inj h
  omega
theorem congs_pos {n : Nat} {m : Int → Int → Int} (h1 : 1 ≤ n) (h5 : n ≤ 5) : 0 < (congs n m).length := by
  refine List.length_pos_of_mem (a := rng n) (congs_mem.mpr ⟨eqvs_id n h1 h5, fun x z x0 x1 z0 z1 => ?_⟩)
  rw [gat_rng x0 x1]
  exact ⟨rfl, rfl⟩
theorem congs_le {n : Nat} {m : Int → Int → Int} (h1 : 1 ≤ n) (h5 : n ≤ 5) : (congs n m).length ≤ 52 := Nat.le_trans (List.length_filter_le _ _) (eqvs_all n h1 h5).2.2
def SpCongs (g : Rn) : Prop := ∀ (n : Nat) (m : Int → Int → Int) (st : Store), 1 ≤ n → n ≤ 5 → Clo n m → g [.imm (tabL n m)] st = .ok (.own ((congs n m).map fun l => .imm (mapT l))) st
theorem sp_congs {cf : CF} {W i j : Nat} (hE : SpEqvs (cf i)) (hC : SpLCong (cf j)) : SpCongs (runFn cf W (F_law_congruences i j)) := by
  intro n m st h1 h5 hm
  have e1 := hE n st h1 h5
  obtain ⟨q1, q2, q3⟩ := eqvs_all n h1 h5
  rw [List.all_eq_true] at q1
  have e2 : ∀ l ∈ eqvs n, ∃ b : Bool, (b = true ↔ Cong n m (gat l)) ∧ cf j [.imm (tabL n m), .imm (mapT l)] st = .ok (.imm (.bl b)) st := fun l hl => by
    obtain ⟨hc, hcl⟩ := eqvB_ok (q1 l hl)
    rw [hcl]
    exact hC n m (gat l) st (by omega) hm hc
  clear hE hC
  refine Re.wp_eq (run_wp rfl rfl ?_)
  show (evS cf W (B_law_congruences i j) [.imm (tabL n m), .undef] st).wp _
  unfold B_law_congruences
  apply wp_seq
  apply wp_ret (c := .own ((congs n m).map fun l => .imm (mapT l)))
  · have := ev_compFD (cf := cf) (xs := eqvs n) (h := mapT) (g := mapT) (p := fun l => @decide (Cong n m (gat l)) (Classical.propDecidable _)) (j := 1) (it := .call i (.cons (.bi .len (.cons (.var 0) .nil)) .nil)) (c := .call j (.cons (.var 0) (.cons (.var 1) .nil))) (e := .var 1) (ρ := [.imm (tabL n m), .undef]) (st := st) (s1 := st)
      (x := .own ((eqvs n).map fun l => .imm (mapT l))) (ev_call (ev_cons (ev_bi (ev_cons (ev_var rfl) ev_nil) (by walk_at "bi")) ev_nil) (by walk_at "pass") e1) (by rw [show ((eqvs n).map fun l => Cell.imm (mapT l)) = ((eqvs n).map mapT).map .imm by rw [List.map_map]; rfl]; exact iterC_own _) (small_of (by omega)) (fun l hl => ?_) (fun l hl _ => ?_)
    · rw [List.map_map] at this
      exact this
    · obtain ⟨b, hb, e3⟩ := e2 l hl
      walk_at "set"
      have hbd : b = @decide (Cong n m (gat l)) (Classical.propDecidable _) := by
        rw [Bool.eq_iff_iff]
        exact hb.trans (@decide_eq_true_iff _ (Classical.propDecidable _)).symm
      rw [← hbd]
      exact ev_call (ev_cons (ev_var rfl) (ev_cons (ev_var rfl) ev_nil)) (by walk_at "pass") e3
    · walk_at "set"
      walk_at "ev"
  · rfl
  exact ⟨rfl, rfl⟩
def SpMul (g : Rn) : Prop := ∀ (n : Nat) (m : Int → Int → Int) (x y : Int) (st : Store), Clo n m → 0 ≤ x → x < (n : Int) → 0 ≤ y → y < (n : Int) → g [.imm (semD n m), .imm (.int x), .imm (.int y)] st = .ok (.imm (.int (m x y))) st
theorem sp_mul {cf : CF} {W : Nat} : SpMul (runFn cf W F_Semigroup_multiply) := by
  intro n m x y st hm x0 x1 y0 y1
  refine Re.wp_eq (run_wp rfl rfl ?_)
  show (evS cf W B_Semigroup_multiply [.imm (semD n m), .imm (.int x), .imm (.int y)] st).wp _
  unfold B_Semigroup_multiply
  walk_at "go"
  exact ⟨rfl, rfl⟩
/-! Semigroup.__eq__(self, other); names 0:self 1:other -/
def B_Semigroup___eq__ (es : List (Nat × Nat)) : IS :=
 (.seq (.ret (.and (.isi (.var 1) [.c 0]) (.eqm es (.fld (.var 0) 0 1) (.fld (.var 1) 0 1))))
 .skip)
def F_Semigroup___eq__ (es : List (Nat × Nat)) : Fn := ⟨2, 2, false, 0, 0, B_Semigroup___eq__ es⟩
/-! an instance is no word -/
def SpEqNo (g : Rn) : Prop := ∀ (fs : List D) (s : Str) (st : Store), g [.imm (.ins 0 fs), .imm (.str s)] st = .ok (.imm (.bl false)) st
theorem sp_eqno {cf : CF} {W : Nat} {es : List (Nat × Nat)} : SpEqNo (runFn cf W (F_Semigroup___eq__ es)) := by
  intro fs s st
  refine Re.wp_eq (run_wp rfl rfl ?_)
  show (evS cf W (B_Semigroup___eq__ es) [.imm (.ins 0 fs), .imm (.str s)] st).wp _
  unfold B_Semigroup___eq__
  apply wp_seq
  exact wp_ret (ev_andF (ev_isi (ev_var rfl) rfl rfl) rfl) rfl ⟨rfl, rfl⟩
def SpOddI (g : Rn) : Prop := ∀ (fs : List D) (st : Store), g [.imm (.ins 0 fs)] st = .ok (.imm (.bl false)) st
theorem sp_oddI {cf : CF} {W i k : Nat} (h : SpEqNo (cf k)) : SpOddI (runFn cf W (F_law_odd i [(0, k)])) := by
  intro fs st
  have e1 := h fs "a word that nothing else is" st
  clear h
  refine Re.wp_eq (run_wp rfl rfl ?_)
  show (evS cf W (B_law_odd i [(0, k)]) [.imm (.ins 0 fs), .undef] st).wp _
  unfold B_law_odd
  apply wp_seq
  apply wp_iteF (ev_eqmI (p := (0, fs)) (f := k) (t := .str) (k := false) (ev_var rfl) ev_con rfl rfl rfl rfl e1) rfl
  walk_at "go"
  exact wp_ret (ev_andF (ev_isi (ev_var rfl) rfl rfl) rfl) rfl ⟨rfl, rfl⟩
def SpHonestI (g : Rn) : Prop := ∀ (fs : List D) (st : Store), g [.imm (.ins 0 fs)] st = .ok (.imm (.ins 0 fs)) st
theorem sp_honestI {cf : CF} {W i : Nat} (h : SpOddI (cf i)) : SpHonestI (runFn cf W (F_law_honest i)) := by
  intro fs st
  have e1 := h fs st
  clear h
  refine Re.wp_eq (run_wp rfl rfl ?_)
  show (evS cf W (B_law_honest i) [.imm (.ins 0 fs)] st).wp _
  unfold B_law_honest
  apply wp_seq
  apply wp_ret
  · apply ev_iteF
    · walk_at "ev"
    · rfl
    · walk_at "ev"
  · rfl
  · exact ⟨rfl, rfl⟩
theorem ev_callX {cf : CF} {a : IE} {ρ : Ev} {st s1 s2 : Store} {f : Nat} {xs ys : List Cell} {x : Exc} (ha : evE cf a ρ st = .ok (.own xs) s1) (hp : passAll xs = some ys) (hc : cf f ys s1 = .exc x s2) : evE cf (.call f a) ρ st = .exc x s2 := by simp only [evE, ha, hp, hc]
end Q

set_option maxRecDepth 100000
set_option maxHeartbeats 1000000
namespace Q
open PySem
/-! ### Green's relations, plainly -/
section
variable {n : Nat} {m : Int → Int → Int}
def In (n : Nat) (x : Int) : Prop := 0 ≤ x ∧ x < (n : Int)
def Rg (n : Nat) (m : Int → Int → Int) (x y : Int) : Prop := x = y ∨ ∃ t, In n t ∧ m y t = x
def Lg (n : Nat) (m : Int → Int → Int) (x y : Int) : Prop := x = y ∨ ∃ t, In n t ∧ m t y = x
def Jg (n : Nat) (m : Int → Int → Int) (x y : Int) : Prop := ∃ z, In n z ∧ Lg n m z y ∧ Rg n m x z
def Rr (n : Nat) (m : Int → Int → Int) (x y : Int) : Prop := Rg n m x y ∧ Rg n m y x
def Lr (n : Nat) (m : Int → Int → Int) (x y : Int) : Prop := Lg n m x y ∧ Lg n m y x
def Jr (n : Nat) (m : Int → Int → Int) (x y : Int) : Prop := Jg n m x y ∧ Jg n m y x
theorem In.mul (hm : Clo n m) {x y : Int} (hx : In n x) (hy : In n y) : In n (m x y) := hm x y hx.1 hx.2 hy.1 hy.2
theorem asc' (ha : Asc n m) {x y z : Int} (hx : In n x) (hy : In n y) (hz : In n z) : m (m x y) z = m x (m y z) := ha x y z hx.1 hx.2 hy.1 hy.2 hz.1 hz.2
theorem Rg.refl (x : Int) : Rg n m x x := .inl rfl
theorem Lg.refl (x : Int) : Lg n m x x := .inl rfl
theorem Rg.trans (hm : Clo n m) (ha : Asc n m) {x y z : Int} (hz : In n z) (h : Rg n m x y) (h' : Rg n m y z) : Rg n m x z := by
  rcases h with rfl | ⟨t, ht, rfl⟩
  · exact h'
  · rcases h' with rfl | ⟨u, hu, rfl⟩
    · exact .inr ⟨t, ht, rfl⟩
    · exact .inr ⟨m u t, In.mul hm hu ht, (asc' ha hz hu ht).symm⟩
theorem Lg.trans (hm : Clo n m) (ha : Asc n m) {x y z : Int} (hz : In n z) (h : Lg n m x y) (h' : Lg n m y z) : Lg n m x z := by
  rcases h with rfl | ⟨t, ht, rfl⟩
  · exact h'
  · rcases h' with rfl | ⟨u, hu, rfl⟩
    · exact .inr ⟨t, ht, rfl⟩
    · exact .inr ⟨m t u, In.mul hm ht hu, asc' ha ht hu hz⟩
-- a right step behind a left one, a left one behind a right one
theorem RL (hm : Clo n m) (ha : Asc n m) {x y z : Int} (hy : In n y) (h : Rg n m x z) (h' : Lg n m z y) : ∃ w, In n w ∧ Lg n m x w ∧ Rg n m w y := by
  rcases h with rfl | ⟨u, hu, rfl⟩
  · exact ⟨y, hy, h', .inl rfl⟩
  · rcases h' with rfl | ⟨t, ht, rfl⟩
    · exact ⟨m z u, In.mul hm hy hu, .inl rfl, .inr ⟨u, hu, rfl⟩⟩
    · exact ⟨m y u, In.mul hm hy hu, .inr ⟨t, ht, (asc' ha ht hy hu).symm⟩, .inr ⟨u, hu, rfl⟩⟩
theorem LR (hm : Clo n m) (ha : Asc n m) {x y z : Int} (hy : In n y) (h : Lg n m x z) (h' : Rg n m z y) : ∃ w, In n w ∧ Rg n m x w ∧ Lg n m w y := by
  rcases h with rfl | ⟨u, hu, rfl⟩
  · exact ⟨y, hy, h', .inl rfl⟩
  · rcases h' with rfl | ⟨t, ht, rfl⟩
    · exact ⟨m u z, In.mul hm hu hy, .inl rfl, .inr ⟨u, hu, rfl⟩⟩
    · exact ⟨m u y, In.mul hm hu hy, .inr ⟨t, ht, asc' ha hu hy ht⟩, .inr ⟨u, hu, rfl⟩⟩
theorem Rg.in_ (hm : Clo n m) {x y : Int} (hy : In n y) (h : Rg n m x y) : In n x := by
  rcases h with rfl | ⟨t, ht, rfl⟩
  · exact hy
  · exact In.mul hm hy ht
theorem Lg.in_ (hm : Clo n m) {x y : Int} (hy : In n y) (h : Lg n m x y) : In n x := by
  rcases h with rfl | ⟨t, ht, rfl⟩
  · exact hy
  · exact In.mul hm ht hy
theorem Lg.mulR (ha : Asc n m) {x y u : Int} (hy : In n y) (hu : In n u) (h : Lg n m x y) : Lg n m (m x u) (m y u) := by
  rcases h with rfl | ⟨t, ht, rfl⟩
  · exact .inl rfl
  · exact .inr ⟨t, ht, (asc' ha ht hy hu).symm⟩
theorem Rg.mulL (ha : Asc n m) {x y u : Int} (hy : In n y) (hu : In n u) (h : Rg n m x y) : Rg n m (m u x) (m u y) := by
  rcases h with rfl | ⟨t, ht, rfl⟩
  · exact .inl rfl
  · exact .inr ⟨t, ht, asc' ha hu hy ht⟩
theorem Jg.refl {x : Int} (hx : In n x) : Jg n m x x := ⟨x, hx, .inl rfl, .inl rfl⟩
theorem Jg.trans (hm : Clo n m) (ha : Asc n m) {x y z : Int} (hz : In n z) (h : Jg n m x y) (h' : Jg n m y z) : Jg n m x z := by
  obtain ⟨a, a0, a1, a2⟩ := h
  obtain ⟨b, b0, b1, b2⟩ := h'
  obtain ⟨w, w0, w1, w2⟩ := LR hm ha b0 a1 b2
  exact ⟨w, w0, w2.trans hm ha hz b1, a2.trans hm ha w0 w1⟩
theorem Rg.jg {x y : Int} (hy : In n y) (h : Rg n m x y) : Jg n m x y := ⟨y, hy, .inl rfl, h⟩
theorem Lg.jg (hm : Clo n m) {x y : Int} (hy : In n y) (h : Lg n m x y) : Jg n m x y := ⟨x, h.in_ hm hy, h, .inl rfl⟩
/-! a number comes twice -/
theorem pigeon {f : Nat → Int} (h : ∀ i, In n (f i)) : ∃ i p : Nat, 1 ≤ p ∧ f (i + p) = f i := by
  apply Classical.byContradiction
  intro no
  have inj : ∀ i j, i < j → f j ≠ f i := fun i j hij e => no ⟨i, j - i, by omega, by rw [show i + (j - i) = j by omega]; exact e⟩
  have key : ∀ (n : Nat) (f : Nat → Int), (∀ i, i ≤ n → In n (f i)) → (∀ i j, i < j → j ≤ n → f j ≠ f i) → False := by
    intro n
    induction n with
    | zero =>
      intro f h _
      have := h 0 (Nat.le_refl _)
      unfold In at this
      omega
    | succ n ih =>
      intro f h hi
      -- the last value goes to the place of n
      let g : Nat → Int := fun i => if f i = (n : Int) then f (n + 1) else f i
      refine ih g (fun i hin => ?_) fun i j hij hj => ?_
      · have h1 := h i (by omega)
        have h2 := h (n + 1) (Nat.le_refl _)
        have h3 := hi i (n + 1) (by omega) (Nat.le_refl _)
        unfold In at *
        show 0 ≤ (if f i = (n : Int) then f (n + 1) else f i) ∧ _
        by_cases e : f i = (n : Int)
        · have : g i = f (n + 1) := if_pos e
          rw [if_pos e]
          refine ⟨h2.1, ?_⟩
          show (if f i = (n : Int) then f (n + 1) else f i) < _
          rw [if_pos e]
          omega
        · rw [if_neg e]
          refine ⟨h1.1, ?_⟩
          show (if f i = (n : Int) then f (n + 1) else f i) < _
          rw [if_neg e]
          omega
      · have h1 := hi i j hij (by omega)
        have h2 := hi i (n + 1) (by omega) (Nat.le_refl _)
        have h3 := hi j (n + 1) (by omega) (Nat.le_refl _)
        show (if f j = (n : Int) then f (n + 1) else f j) ≠ (if f i = (n : Int) then f (n + 1) else f i)
        by_cases e : f j = (n : Int)
        · by_cases e2 : f i = (n : Int)
          · exact absurd (e.trans e2.symm) h1
          · rw [if_pos e, if_neg e2]; exact h2
        · by_cases e2 : f i = (n : Int)
          · rw [if_neg e, if_pos e2]; exact fun z => h3 z.symm
          · rw [if_neg e, if_neg e2]; exact h1
  exact key n f (fun i _ => h i) fun i j hij _ => inj i j hij
def iter (f : Int → Int) : Nat → Int → Int
  | 0, x => x
  | k + 1, x => f (iter f k x)
theorem iter_add (f : Int → Int) (i : Nat) : ∀ (j : Nat) (x : Int), iter f (i + j) x = iter f i (iter f j x)
  | j, x => by
    induction i with
    | zero => rw [Nat.zero_add]; rfl
    | succ i ih => rw [Nat.succ_add]; show f _ = f _; rw [ih]
theorem iter_in {f : Int → Int} (hf : ∀ x, In n x → In n (f x)) {x : Int} (hx : In n x) : ∀ k, In n (iter f k x)
  | 0 => hx
  | k + 1 => hf _ (iter_in hf hx k)
theorem iter_comm {f g : Int → Int} (hf : ∀ x, In n x → In n (f x)) (hg : ∀ x, In n x → In n (g x)) (hc : ∀ x, In n x → f (g x) = g (f x)) {x : Int} (hx : In n x) : ∀ k, iter f k (g x) = g (iter f k x)
  | 0 => rfl
  | k + 1 => by
    show f (iter f k (g x)) = g (f (iter f k x))
    rw [iter_comm hf hg hc hx k, hc _ (iter_in hf hx k)]
-- two maps that commute, x fixed by both together: x comes back by each
theorem back {f g : Int → Int} (hf : ∀ x, In n x → In n (f x)) (hg : ∀ x, In n x → In n (g x)) (hc : ∀ x, In n x → f (g x) = g (f x)) {x : Int} (hx : In n x) (h : f (g x) = x) : ∃ p, 1 ≤ p ∧ iter f p x = x := by
  have hx2 : ∀ k, iter f k (iter g k x) = x := by
    intro k
    induction k with
    | zero => rfl
    | succ k ih =>
      have h1 : iter g (k + 1) x = iter g k (g x) := by rw [iter_add g k 1]; rfl
      have h2 : iter f (k + 1) (iter g (k + 1) x) = f (iter f k (iter g k (g x))) := by rw [h1]; rfl
      rw [h2]
      have h3 : iter g k (g x) = g (iter g k x) := iter_comm hg hg (fun _ _ => rfl) hx k
      rw [h3, iter_comm hf hg hc (iter_in hg hx k), ih]
      exact h
  obtain ⟨i, p, hp, e⟩ := pigeon fun i => iter_in hf hx i
  refine ⟨p, hp, ?_⟩
  have comm : ∀ (k j : Nat) {y : Int}, In n y → iter f k (iter g j y) = iter g j (iter f k y) := by
    intro k j
    induction j with
    | zero => intro y _; rfl
    | succ j ih =>
      intro y hy
      show iter f k (g (iter g j y)) = g (iter g j (iter f k y))
      rw [iter_comm hf hg hc (iter_in hg hy j), ih hy]
  calc iter f p x = iter f p (iter f i (iter g i x)) := by rw [hx2]
    _ = iter f (p + i) (iter g i x) := (iter_add f p i _).symm
    _ = iter g i (iter f (p + i) x) := comm _ _ hx
    _ = iter g i (iter f i x) := by rw [Nat.add_comm, e]
    _ = iter f i (iter g i x) := (comm _ _ hx).symm
    _ = x := hx2 i
/-! ### D is J -/
-- a step as a map
theorem Lg.map (hm : Clo n m) {x y : Int} (h : Lg n m x y) : ∃ f : Int → Int, f y = x ∧ (∀ z, In n z → In n (f z)) ∧ (∀ z, Lg n m (f z) z) ∧ (f = id ∨ ∃ t, In n t ∧ f = m t) := by
  rcases h with rfl | ⟨t, ht, rfl⟩
  · exact ⟨id, rfl, fun _ h => h, fun _ => .inl rfl, .inl rfl⟩
  · exact ⟨m t, rfl, fun z hz => In.mul hm ht hz, fun z => .inr ⟨t, ht, rfl⟩, .inr ⟨t, ht, rfl⟩⟩
theorem Rg.map (hm : Clo n m) {x y : Int} (h : Rg n m x y) : ∃ f : Int → Int, f y = x ∧ (∀ z, In n z → In n (f z)) ∧ (∀ z, Rg n m (f z) z) ∧ (f = id ∨ ∃ t, In n t ∧ f = fun z => m z t) := by
  rcases h with rfl | ⟨t, ht, rfl⟩
  · exact ⟨id, rfl, fun _ h => h, fun _ => .inl rfl, .inl rfl⟩
  · exact ⟨fun z => m z t, rfl, fun z hz => In.mul hm hz ht, fun z => .inr ⟨t, ht, rfl⟩, .inr ⟨t, ht, rfl⟩⟩
theorem lr_comm (ha : Asc n m) {f g : Int → Int} (hf : f = id ∨ ∃ t, In n t ∧ f = m t) (hg : g = id ∨ ∃ t, In n t ∧ g = fun z => m z t) {z : Int} (hz : In n z) : f (g z) = g (f z) := by
  rcases hf with rfl | ⟨t, ht, rfl⟩
  · rfl
  · rcases hg with rfl | ⟨u, hu, rfl⟩
    · rfl
    · exact (asc' ha ht hz hu).symm
def Dr (n : Nat) (m : Int → Int → Int) (x y : Int) : Prop := ∃ z, In n z ∧ Rr n m z x ∧ Lr n m z y
theorem Jr.dr (hm : Clo n m) (ha : Asc n m) {x y : Int} (hx : In n x) (hy : In n y) (h : Jr n m x y) : Dr n m x y := by
  obtain ⟨⟨a, a0, a1, a2⟩, ⟨b, b0, b1, b2⟩⟩ := h
  obtain ⟨f, f1, f2, f3, f4⟩ := a1.map hm
  obtain ⟨g, g1, g2, g3, g4⟩ := a2.map hm
  obtain ⟨f', p1, p2, p3, p4⟩ := b1.map hm
  obtain ⟨g', q1, q2, q3, q4⟩ := b2.map hm
  -- x = g (f y), y = g' (f' x)
  subst f1
  subst p1
  have ex : g (f (g' (f' x))) = x := by rw [q1]; exact g1
  have c1 : ∀ z, In n z → f (g z) = g (f z) := fun z hz => lr_comm ha f4 g4 hz
  have c2 : ∀ z, In n z → f (g' z) = g' (f z) := fun z hz => lr_comm ha f4 q4 hz
  have c3 : ∀ z, In n z → f' (g z) = g (f' z) := fun z hz => lr_comm ha p4 g4 hz
  have c4 : ∀ z, In n z → f' (g' z) = g' (f' z) := fun z hz => lr_comm ha p4 q4 hz
  have hF : ∀ z, In n z → In n (f (f' z)) := fun z hz => f2 _ (p2 _ hz)
  have hG : ∀ z, In n z → In n (g (g' z)) := fun z hz => g2 _ (q2 _ hz)
  have hC : ∀ z, In n z → f (f' (g (g' z))) = g (g' (f (f' z))) := fun z hz => by
    rw [c3 _ (q2 _ hz), c4 _ hz, c1 _ (q2 _ (p2 _ hz)), c2 _ (p2 _ hz)]
  have ex2 : f (f' (g (g' x))) = x := by
    rw [hC x hx, ← c2 _ (p2 _ hx)]
    exact ex
  obtain ⟨p, hp, ep⟩ := back (f := fun z => f (f' z)) (g := fun z => g (g' z)) hF hG hC hx ex2
  obtain ⟨q, hq, eq⟩ := back (f := fun z => g (g' z)) (g := fun z => f (f' z)) hG hF (fun z hz => (hC z hz).symm) hx (by rw [← hC x hx]; exact ex2)
  -- x below f' x, and below g' x
  have itL : ∀ k z, In n z → Lg n m (iter (fun z => f (f' z)) k z) z := by
    intro k z hz
    induction k with
    | zero => exact .inl rfl
    | succ k ih =>
      have hk := iter_in hF hz k
      exact ((f3 _).trans hm ha hk (p3 _)).trans hm ha hz ih
  have itR : ∀ k z, In n z → Rg n m (iter (fun z => g (g' z)) k z) z := by
    intro k z hz
    induction k with
    | zero => exact .inl rfl
    | succ k ih =>
      have hk := iter_in hG hz k
      exact ((g3 _).trans hm ha hk (q3 _)).trans hm ha hz ih
  have lx : Lg n m x (f' x) := by
    obtain ⟨p', rfl⟩ : ∃ p', p = p' + 1 := ⟨p - 1, by omega⟩
    have e2 : iter (fun z => f (f' z)) p' (f (f' x)) = x := by
      have := iter_add (fun z => f (f' z)) p' 1 x
      rw [ep] at this
      exact this.symm
    have h1 := itL p' (f (f' x)) (hF x hx)
    rw [e2] at h1
    exact h1.trans hm ha (p2 x hx) (f3 _)
  have rx : Rg n m x (g' x) := by
    obtain ⟨q', rfl⟩ : ∃ q', q = q' + 1 := ⟨q - 1, by omega⟩
    have e2 : iter (fun z => g (g' z)) q' (g (g' x)) = x := by
      have := iter_add (fun z => g (g' z)) q' 1 x
      rw [eq] at this
      exact this.symm
    have h1 := itR q' (g (g' x)) (hG x hx)
    rw [e2] at h1
    exact h1.trans hm ha (q2 x hx) (g3 _)
  refine ⟨g' x, q2 x hx, ⟨q3 x, rx⟩, ?_, ?_⟩
  · rw [← q1]
    rcases q4 with rfl | ⟨u, hu, rfl⟩
    · exact lx
    · exact lx.mulR ha (p2 x hx) hu
  · rw [← q1, ← c4 x hx]
    exact p3 _
theorem Dr.jr (hm : Clo n m) (ha : Asc n m) {x y : Int} (hx : In n x) (hy : In n y) (h : Dr n m x y) : Jr n m x y := by
  obtain ⟨z, hz, h1, h2⟩ := h
  exact ⟨(h1.2.jg hz).trans hm ha hy (h2.1.jg hm hy), (h2.2.jg hm hz).trans hm ha hx (h1.1.jg hx)⟩
end
end Q

set_option maxRecDepth 100000
set_option maxHeartbeats 1000000
namespace Q
open PySem
/-! by_keys(keys); names 0:keys 1:own 2:key -/
def B_by_keys : IS :=
 (.seq (.asg 1 (.bi .list (.cons (.var 0) .nil)))
 (.seq (.frz 1)
 (.seq (.ret (.bi .tuple (.cons (.comp 2 (.var 1) (.con (.bl true)) (.index (.var 1) (.var 2))) .nil)))
 .skip)))
def F_by_keys : Fn := ⟨1, 3, false, 0, 0, B_by_keys⟩
/-! right_multiples(s, x); names 0:s 1:x -/
def B_right_multiples : IS :=
 (.seq (.ret (.bi .tuple (.cons (.bi .sset (.cons (.bin .add (.bi .list (.cons (.ix (.fld (.var 0) 0 1) (.var 1)) .nil)) (.lst (.cons (.var 1) .nil))) .nil)) .nil)))
 .skip)
def F_right_multiples : Fn := ⟨2, 2, false, 0, 0, B_right_multiples⟩
/-! left_multiples(s, x); names 0:s 1:x 2:row -/
def B_left_multiples : IS :=
 (.seq (.ret (.bi .tuple (.cons (.bi .sset (.cons (.bin .add (.comp 2 (.fld (.var 0) 0 1) (.con (.bl true)) (.ix (.var 2) (.var 1))) (.lst (.cons (.var 1) .nil))) .nil)) .nil)))
 .skip)
def F_left_multiples : Fn := ⟨2, 3, false, 0, 0, B_left_multiples⟩
/-! two_sided_multiples(s, x); names 0:s 1:x 2:found 3:y -/
def B_two_sided_multiples (f_left_multiples f_right_multiples : Nat) : IS :=
 (.seq (.asg 2 (.lst .nil))
 (.seq (.for_ 3 (.call f_left_multiples (.cons (.var 0) (.cons (.var 1) .nil)))
 (.seq (.ext 2 (.call f_right_multiples (.cons (.var 0) (.cons (.var 3) .nil))))
 .skip))
 (.seq (.frz 2)
 (.seq (.ret (.bi .tuple (.cons (.bi .sset (.cons (.var 2) .nil)) .nil)))
 .skip))))
def F_two_sided_multiples (f_left_multiples f_right_multiples : Nat) : Fn := ⟨2, 4, false, 0, 0, B_two_sided_multiples f_left_multiples f_right_multiples⟩
/-! r_classes(s); names 0:s 1:x -/
def B_r_classes (f_by_keys f_right_multiples : Nat) : IS :=
 (.seq (.ret (.call f_by_keys (.cons (.comp 1 (.range1 (.fld (.var 0) 0 0)) (.con (.bl true)) (.call f_right_multiples (.cons (.var 0) (.cons (.var 1) .nil)))) .nil)))
 .skip)
def F_r_classes (f_by_keys f_right_multiples : Nat) : Fn := ⟨1, 2, false, 0, 0, B_r_classes f_by_keys f_right_multiples⟩
/-! l_classes(s); names 0:s 1:x -/
def B_l_classes (f_by_keys f_left_multiples : Nat) : IS :=
 (.seq (.ret (.call f_by_keys (.cons (.comp 1 (.range1 (.fld (.var 0) 0 0)) (.con (.bl true)) (.call f_left_multiples (.cons (.var 0) (.cons (.var 1) .nil)))) .nil)))
 .skip)
def F_l_classes (f_by_keys f_left_multiples : Nat) : Fn := ⟨1, 2, false, 0, 0, B_l_classes f_by_keys f_left_multiples⟩
/-! j_classes(s); names 0:s 1:x -/
def B_j_classes (f_by_keys f_two_sided_multiples : Nat) : IS :=
 (.seq (.ret (.call f_by_keys (.cons (.comp 1 (.range1 (.fld (.var 0) 0 0)) (.con (.bl true)) (.call f_two_sided_multiples (.cons (.var 0) (.cons (.var 1) .nil)))) .nil)))
 .skip)
def F_j_classes (f_by_keys f_two_sided_multiples : Nat) : Fn := ⟨1, 2, false, 0, 0, B_j_classes f_by_keys f_two_sided_multiples⟩
/-! h_classes(s); names 0:s 1:rows 2:columns 3:x -/
def B_h_classes (f_r_classes f_l_classes f_by_keys : Nat) : IS :=
 (.seq (.asg 1 (.call f_r_classes (.cons (.var 0) .nil)))
 (.seq (.frz 1)
 (.seq (.asg 2 (.call f_l_classes (.cons (.var 0) .nil)))
 (.seq (.frz 2)
 (.seq (.ret (.call f_by_keys (.cons (.comp 3 (.range1 (.fld (.var 0) 0 0)) (.con (.bl true)) (.tup (.cons (.ix (.var 1) (.var 3)) (.cons (.ix (.var 2) (.var 3)) .nil)))) .nil)))
 .skip)))))
def F_h_classes (f_r_classes f_l_classes f_by_keys : Nat) : Fn := ⟨1, 4, false, 0, 0, B_h_classes f_r_classes f_l_classes f_by_keys⟩
/-! d_classes(s); names 0:s 1:rows 2:columns 3:keys 4:x 5:near 6:z 7:y -/
def B_d_classes (f_r_classes f_l_classes f_by_keys : Nat) (es : List (Nat × Nat)) : IS :=
 (.seq (.asg 1 (.call f_r_classes (.cons (.var 0) .nil)))
 (.seq (.frz 1)
 (.seq (.asg 2 (.call f_l_classes (.cons (.var 0) .nil)))
 (.seq (.frz 2)
 (.seq (.asg 3 (.lst .nil))
 (.seq (.for_ 4 (.range1 (.fld (.var 0) 0 0))
 (.seq (.asg 5 (.comp 6 (.range1 (.fld (.var 0) 0 0)) (.eqm es (.ix (.var 1) (.var 6)) (.ix (.var 1) (.var 4))) (.ix (.var 2) (.var 6))))
 (.seq (.frz 5)
 (.seq (.app 3 (.bi .tuple (.cons (.comp 7 (.range1 (.fld (.var 0) 0 0)) (.bin .in_ (.ix (.var 2) (.var 7)) (.var 5)) (.var 7)) .nil)))
 .skip))))
 (.seq (.frz 3)
 (.seq (.ret (.call f_by_keys (.cons (.var 3) .nil)))
 .skip))))))))
def F_d_classes (f_r_classes f_l_classes f_by_keys : Nat) (es : List (Nat × Nat)) : Fn := ⟨1, 8, false, 0, 0, B_d_classes f_r_classes f_l_classes f_by_keys es⟩
/-! _law_multiples(table, x, left, right); names 0:table 1:x 2:left 3:right 4:found 5:y 6:row -/
def B_law_multiples : IS :=
 (.seq (.asg 4 (.lst (.cons (.var 1) .nil)))
 (.seq (.frz 4)
 (.seq (.ite (.var 2)
 (.seq (.asg 4 (.bin .add (.var 4) (.comp 6 (.var 0) (.con (.bl true)) (.ix (.var 6) (.var 1)))))
 (.seq (.frz 4)
 .skip))
 .skip)
 (.seq (.ite (.var 3)
 (.seq (.for_ 5 (.bi .list (.cons (.var 4) .nil))
 (.seq (.asg 4 (.bin .add (.var 4) (.bi .list (.cons (.ix (.var 0) (.var 5)) .nil))))
 (.seq (.frz 4)
 .skip)))
 .skip)
 .skip)
 (.seq (.ret (.bi .sorted (.cons (.comp 5 (.range1 (.bi .len (.cons (.var 0) .nil))) (.bin .in_ (.var 5) (.var 4)) (.var 5)) .nil)))
 .skip)))))
def F_law_multiples : Fn := ⟨4, 7, false, 0, 0, B_law_multiples⟩
/-! _law_keys(table, left, right); names 0:table 1:left 2:right 3:keys 4:x 5:key -/
def B_law_keys (f__law_multiples : Nat) : IS :=
 (.seq (.asg 3 (.comp 4 (.range1 (.bi .len (.cons (.var 0) .nil))) (.con (.bl true)) (.call f__law_multiples (.cons (.var 0) (.cons (.var 4) (.cons (.var 1) (.cons (.var 2) .nil)))))))
 (.seq (.frz 3)
 (.seq (.ret (.bi .tuple (.cons (.comp 5 (.var 3) (.con (.bl true)) (.index (.var 3) (.var 5))) .nil)))
 .skip)))
def F_law_keys (f__law_multiples : Nat) : Fn := ⟨3, 6, false, 0, 0, B_law_keys f__law_multiples⟩

theorem ev_bi1 {cf : CF} {ρ : Ev} {st s1 : Store} {a : IE} {x z : Cell} {o : BI} (ha : evE cf a ρ st = .ok x s1) (hz : biC o [x] = some z) : evE cf (.bi o (.cons a .nil)) ρ st = .ok z s1 := ev_bi (ev_cons ha ev_nil) hz
/-! ### lists of small numbers, ascending -/
abbrev lstT (l : List Int) : D := .lst (l.map .int)
def filt (n : Nat) (p : Int → Bool) : List Int := (rng n).filter p
theorem rng_rises (n : Nat) : (rng n).Pairwise (· < ·) := by
  unfold rng
  rw [List.pairwise_map]
  exact List.pairwise_lt_range.imp fun h => Int.ofNat_lt.mpr h
theorem filt_rises (n : Nat) (p : Int → Bool) : (filt n p).Pairwise (· < ·) := (rng_rises n).sublist List.filter_sublist
theorem filt_mem {n : Nat} {p : Int → Bool} {z : Int} : z ∈ filt n p ↔ In n z ∧ p z = true := by
  unfold filt In
  rw [List.mem_filter, rng_mem]
theorem filt_len {n : Nat} {p : Int → Bool} : (filt n p).length ≤ n := Nat.le_trans (List.length_filter_le _ _) (Nat.le_of_eq (rng_length n))
theorem filt_congr {n : Nat} {p q : Int → Bool} (h : ∀ z, In n z → p z = q z) : filt n p = filt n q := List.filter_congr fun z hz => h z (rng_mem.mp hz)
theorem filt_inj {n : Nat} {p q : Int → Bool} (h : filt n p = filt n q) {z : Int} (hz : In n z) : p z = q z := by
  have h1 : z ∈ filt n p ↔ z ∈ filt n q := by rw [h]
  rw [filt_mem, filt_mem] at h1
  rw [Bool.eq_iff_iff]
  exact ⟨fun a => (h1.mp ⟨hz, a⟩).2, fun a => (h1.mpr ⟨hz, a⟩).2⟩
theorem uniq_filt {n : Nat} {l : List Int} {p : Int → Bool} (h : ∀ z, z ∈ l ↔ In n z ∧ p z = true) : uniqZ l = filt n p :=
  rises_eq (uniqZ_rises l) (filt_rises n p) fun z => by rw [uniqZ_mem, h, filt_mem]
theorem sort_rises : ∀ {l : List Int}, l.Pairwise (· < ·) → sortZ id l = l
  | [], _ => rfl
  | x :: l, h => by
    obtain ⟨h1, h2⟩ := List.pairwise_cons.mp h
    show insZ id x (sortZ id l) = _
    rw [sort_rises h2]
    cases l with
    | nil => rfl
    | cons y l =>
      have := h1 y List.mem_cons_self
      unfold insZ
      rw [if_pos (show id x ≤ id y from Int.le_of_lt this)]
theorem lstT_eq {k : Nat} (a b : List Int) : eqN (k + 1) (lstT a) (lstT b) = decide (a = b) := by
  rw [Bool.eq_iff_iff, decide_eq_true_eq, eqN_iff (nice_lst fun _ _ => nice_int) (nice_lst fun _ _ => nice_int)]
  constructor
  · intro h
    injection h with h
    exact (List.map_inj_right fun _ _ e => by injection e).mp h
  · rintro rfl
    rfl
theorem intsD_map : ∀ l : List Int, intsD (l.map .int) = some l
  | [] => rfl
  | x :: l => by simp only [List.map_cons, intsD, intsD_map l, Option.map_some]
theorem b_sset {c : Cell} {l : List Int} (h : ltItems c = some (l.map .int)) (h1 : (uniqZ l).length < 64) (h2 : l.length < 4000) : biC .sset [c] = some (.own (((uniqZ l).map .int).map .imm)) := by
  simp only [biC, bSset, setZ, h, Option.bind_some, intsD_map]
  rw [if_pos ⟨h1, h2⟩]
  rfl
theorem b_lset {c : Cell} {l : List Int} (h : ltItems c = some (l.map .int)) (h1 : (uniqZ l).length < 64) (h2 : l.length < 4000) : biC .lset [c] = some (.imm (.int ((uniqZ l).length : Nat))) := by
  simp only [biC, bLset, setZ, h, Option.bind_some, intsD_map]
  rw [if_pos ⟨h1, h2⟩]
  rfl
theorem b_ssetF {c : Cell} {l : List Int} {n : Nat} {p : Int → Bool} (h : ltItems c = some (l.map .int)) (hn : n < 64) (h2 : l.length < 4000) (hp : ∀ z, z ∈ l ↔ In n z ∧ p z = true) : biC .sset [c] = some (.own (((filt n p).map .int).map .imm)) := by
  have e := uniq_filt hp
  have := filt_len (n := n) (p := p)
  rw [← e]
  exact b_sset h (by rw [e]; omega) h2
theorem lt_own {l : List D} : ltItems (.own (l.map .imm)) = some l := lst_own
theorem lst_one {d : D} : lstItems (.own [.imm d]) = some [d] := rfl
/-! ### the first of a kind -/
def first (n : Nat) (E : Int → Int → Bool) (x : Int) : Int := ((((rng n).findIdx? fun y => E y x).getD 0 : Nat) : Int)
theorem first_is {n : Nat} {E : Int → Int → Bool} {x : Int} (hx : In n x) (hr : E x x = true) : ∃ i : Nat, (rng n).findIdx? (fun y => E y x) = some i ∧ i < n ∧ E i x = true ∧ ∀ j : Int, 0 ≤ j → j < i → E j x = false := by
  cases e : (rng n).findIdx? fun y => E y x with
  | none =>
    rw [List.findIdx?_eq_none_iff] at e
    have := e x (rng_mem.mpr hx)
    rw [hr] at this
    cases this
  | some i =>
    rw [List.findIdx?_eq_some_iff_getElem] at e
    obtain ⟨h1, h2, h3⟩ := e
    rw [rng_length] at h1
    have g : ∀ (k : Nat) (hk : k < (rng n).length), (rng n)[k] = (k : Int) := fun k hk => by
      have := rng_get (n := n) (i := k) (by rw [rng_length] at hk; exact hk)
      rw [List.getElem?_eq_getElem hk] at this
      exact Option.some.inj this
    refine ⟨i, rfl, h1, by rw [g] at h2; exact h2, fun j j0 j1 => ?_⟩
    have := h3 j.toNat (by omega)
    rw [g] at this
    rw [Int.toNat_of_nonneg j0] at this
    exact Bool.eq_false_iff.mpr this
theorem first_spec {n : Nat} {E : Int → Int → Bool} {x : Int} (hx : In n x) (hr : E x x = true) : In n (first n E x) ∧ E (first n E x) x = true ∧ (∀ j : Int, 0 ≤ j → j < first n E x → E j x = false) ∧ (rng n).findIdx? (fun y => E y x) = some (first n E x).toNat := by
  obtain ⟨i, h1, h2, h3, h4⟩ := first_is hx hr
  have e : first n E x = (i : Int) := by unfold first; rw [h1]; rfl
  rw [e]
  exact ⟨⟨by omega, by omega⟩, h3, h4, by rw [h1, Int.toNat_natCast]⟩
-- an equivalence's least elements
structure Eqv (n : Nat) (E : Int → Int → Bool) : Prop where
  refl : ∀ x, In n x → E x x = true
  symm : ∀ x y, In n x → In n y → E x y = true → E y x = true
  trans : ∀ x y z, In n x → In n y → In n z → E x y = true → E y z = true → E x z = true
theorem first_eq {n : Nat} {E : Int → Int → Bool} (h : Eqv n E) {x y : Int} (hx : In n x) (hy : In n y) : first n E x = first n E y ↔ E x y = true := by
  obtain ⟨a1, a2, a3, _⟩ := first_spec hx (h.refl x hx)
  obtain ⟨b1, b2, b3, _⟩ := first_spec hy (h.refl y hy)
  constructor
  · intro e
    rw [e] at a2
    exact h.trans x _ y hx b1 hy (h.symm _ _ b1 hx a2) b2
  · intro e
    have h1 := h.trans _ _ _ a1 hx hy a2 e
    have h2 := h.trans _ _ _ b1 hy hx b2 (h.symm _ _ hx hy e)
    rcases Int.lt_trichotomy (first n E x) (first n E y) with q | q | q
    · rw [b3 _ a1.1 q] at h1; cases h1
    · exact q
    · rw [a3 _ b1.1 q] at h2; cases h2
theorem first_clo {n : Nat} {E : Int → Int → Bool} (hr : ∀ x, In n x → E x x = true) : Clo1 n n (first n E) := fun x x0 x1 => (first_spec ⟨x0, x1⟩ (hr x ⟨x0, x1⟩)).1
theorem first_congr {n : Nat} {E E' : Int → Int → Bool} {x : Int} (h : ∀ y, In n y → E y x = E' y x) : first n E x = first n E' x := by
  unfold first
  congr 2
  have key : ∀ l : List Int, (∀ y ∈ l, In n y) → l.findIdx? (fun y => E y x) = l.findIdx? fun y => E' y x := by
    intro l
    induction l with
    | nil => intro _; rfl
    | cons y l ih =>
      intro hl
      rw [List.findIdx?_cons, List.findIdx?_cons, h y (hl y List.mem_cons_self), ih fun z hz => hl z (List.mem_cons_of_mem _ hz)]
  exact key _ fun y hy => rng_mem.mp hy
theorem idx_vec {n : Nat} {k : Int → D} {E : Int → Int → Bool} {x : Int} (hk : ∀ y, okN 4 (k y) = true) (hE : ∀ y, In n y → eqN 4 (k y) (k x) = E y x) (hx : In n x) (hr : E x x = true) : indexC (vec n k) (.imm (k x)) = some (first n E x).toNat := by
  show indexD (vec n k) (k x) = _
  rw [indexD_N (hk x) (List.all_eq_true.mpr fun y hy => by obtain ⟨z, _, rfl⟩ := List.mem_map.mp hy; exact hk z)]
  obtain ⟨_, _, _, h⟩ := first_spec hx hr
  rw [← h, List.findIdx?_map]
  have key : ∀ l : List Int, (∀ y ∈ l, In n y) → l.findIdx? ((fun y => eqN 4 y (k x)) ∘ k) = l.findIdx? fun y => E y x := by
    intro l
    induction l with
    | nil => intro _; rfl
    | cons y l ih =>
      intro hl
      rw [List.findIdx?_cons, List.findIdx?_cons, ih fun z hz => hl z (List.mem_cons_of_mem _ hz)]
      show (if eqN 4 (k y) (k x) then _ else _) = _
      rw [hE y (hl y List.mem_cons_self)]
  exact key _ fun y hy => rng_mem.mp hy
/-! ### by_keys -/
def SpKeys (g : Rn) : Prop := ∀ (n : Nat) (k : Int → D) (E : Int → Int → Bool) (st : Store), n ≤ 1000 → (∀ y, okN 4 (k y) = true) → (∀ x y, In n x → In n y → eqN 4 (k y) (k x) = E y x) → (∀ x, In n x → E x x = true) → g [.imm (.lst (vec n k))] st = .ok (.imm (rowT n (first n E))) st
theorem sp_keys {cf : CF} {W : Nat} : SpKeys (runFn cf W F_by_keys) := by
  intro n k E st hn hk hE hr
  refine Re.wp_eq (run_wp rfl rfl ?_)
  show (evS cf W B_by_keys [.imm (.lst (vec n k)), .undef, .undef] st).wp _
  unfold B_by_keys
  walk_at "go"
  apply wp_ret (c := .imm (rowT n (first n E)))
  · apply ev_bi1 (x := .own ((vec n fun x => D.int (first n E x)).map .imm))
    · skip
      apply ev_compV (h := k)
      · walk_at "ev"
      · walk_at "it"
      · omega
      · intro i i0 i1
        walk_at "set"
        have := idx_vec hk (fun y hy => hE i y ⟨i0, i1⟩ hy) ⟨i0, i1⟩ (hr i ⟨i0, i1⟩)
        have e : ((first n E i).toNat : Int) = first n E i := Int.toNat_of_nonneg (first_clo hr i i0 i1).1
        rw [← e]
        exact ev_index (ev_var rfl) rfl (ev_var rfl) this
    · walk_at "bi"
  · rfl
  exact ⟨rfl, rfl⟩
/-! ### multiples -/
def rM (n : Nat) (m : Int → Int → Int) (x z : Int) : Bool := decide (z = x) || (rng n).any fun t => decide (m x t = z)
def lM (n : Nat) (m : Int → Int → Int) (x z : Int) : Bool := decide (z = x) || (rng n).any fun t => decide (m t x = z)
def jM (n : Nat) (m : Int → Int → Int) (x z : Int) : Bool := (rng n).any fun y => lM n m x y && rM n m y z
theorem rM_iff {n : Nat} {m : Int → Int → Int} {x z : Int} : rM n m x z = true ↔ Rg n m z x := by
  unfold rM Rg In
  rw [Bool.or_eq_true, decide_eq_true_eq, List.any_eq_true]
  simp only [rng_mem, decide_eq_true_eq]
theorem lM_iff {n : Nat} {m : Int → Int → Int} {x z : Int} : lM n m x z = true ↔ Lg n m z x := by
  unfold lM Lg In
  rw [Bool.or_eq_true, decide_eq_true_eq, List.any_eq_true]
  simp only [rng_mem, decide_eq_true_eq]
theorem jM_iff {n : Nat} {m : Int → Int → Int} {x z : Int} : jM n m x z = true ↔ Jg n m z x := by
  unfold jM Jg
  rw [List.any_eq_true]
  simp only [rng_mem, Bool.and_eq_true, rM_iff, lM_iff]
  exact Iff.rfl
def SpMults (R : Nat → (Int → Int → Int) → Int → Int → Bool) (g : Rn) : Prop := ∀ (n : Nat) (m : Int → Int → Int) (x : Int) (st : Store), n ≤ 24 → Clo n m → 0 ≤ x → x < (n : Int) → g [.imm (semD n m), .imm (.int x)] st = .ok (.imm (mapT (filt n (R n m x)))) st
theorem rl_mem {n : Nat} {m : Int → Int → Int} (hm : Clo n m) {x : Int} (hx : In n x) (z : Int) : z ∈ (rng n).map (m x) ++ [x] ↔ In n z ∧ rM n m x z = true := by
  rw [rM_iff, List.mem_append, List.mem_map, List.mem_singleton]
  simp only [rng_mem]
  constructor
  · rintro (⟨t, ht, rfl⟩ | rfl)
    · exact ⟨In.mul hm hx ht, .inr ⟨t, ht, rfl⟩⟩
    · exact ⟨hx, .inl rfl⟩
  · rintro ⟨_, rfl | ⟨t, ht, rfl⟩⟩
    · exact .inr rfl
    · exact .inl ⟨t, ht, rfl⟩
theorem ll_mem {n : Nat} {m : Int → Int → Int} (hm : Clo n m) {x : Int} (hx : In n x) (z : Int) : z ∈ (rng n).map (fun t => m t x) ++ [x] ↔ In n z ∧ lM n m x z = true := by
  rw [lM_iff, List.mem_append, List.mem_map, List.mem_singleton]
  simp only [rng_mem]
  constructor
  · rintro (⟨t, ht, rfl⟩ | rfl)
    · exact ⟨In.mul hm ht hx, .inr ⟨t, ht, rfl⟩⟩
    · exact ⟨hx, .inl rfl⟩
  · rintro ⟨_, rfl | ⟨t, ht, rfl⟩⟩
    · exact .inr rfl
    · exact .inl ⟨t, ht, rfl⟩
theorem sp_rmul {cf : CF} {W : Nat} : SpMults rM (runFn cf W F_right_multiples) := by
  intro n m x st hn hm x0 x1
  refine Re.wp_eq (run_wp rfl rfl ?_)
  show (evS cf W B_right_multiples [.imm (semD n m), .imm (.int x)] st).wp _
  unfold B_right_multiples
  apply wp_seq
  apply wp_ret (c := .imm (mapT (filt n (rM n m x))))
  · apply ev_bi1 (x := .own (((filt n (rM n m x)).map D.int).map .imm))
    · skip
      apply ev_bi1 (x := .own ((((rng n).map (m x) ++ [x]).map D.int).map .imm))
      · skip
        apply ev_bin (x := .own ((vec n fun y => D.int (m x y)).map .imm)) (y := .own [.imm (.int x)]) (s1 := st)
        · walk_at "ev"
        · walk_at "ev"
        · have e : (vec n fun y => D.int (m x y)) ++ [D.int x] = ((rng n).map (m x) ++ [x]).map D.int := by
            rw [List.map_append, List.map_map]
            rfl
          rw [b_addL lst_own lst_one (by rw [vec_length]; simp; omega), e]
      · exact b_ssetF lt_own (by omega) (by rw [List.length_append, List.length_map, rng_length]; simp; omega) (rl_mem hm ⟨x0, x1⟩)
    · walk_at "bi"
  · rfl
  exact ⟨rfl, rfl⟩
theorem sp_lmul {cf : CF} {W : Nat} : SpMults lM (runFn cf W F_left_multiples) := by
  intro n m x st hn hm x0 x1
  refine Re.wp_eq (run_wp rfl rfl ?_)
  show (evS cf W B_left_multiples [.imm (semD n m), .imm (.int x), .undef] st).wp _
  unfold B_left_multiples
  apply wp_seq
  apply wp_ret (c := .imm (mapT (filt n (lM n m x))))
  · apply ev_bi1 (x := .own (((filt n (lM n m x)).map D.int).map .imm))
    · skip
      apply ev_bi1 (x := .own ((((rng n).map (fun t => m t x) ++ [x]).map D.int).map .imm))
      · skip
        apply ev_bin (x := .own ((vec n fun y => D.int (m y x)).map .imm)) (y := .own [.imm (.int x)]) (s1 := st)
        · walk_at "ev"
        · walk_at "ev"
        · have e : (vec n fun y => D.int (m y x)) ++ [D.int x] = ((rng n).map (fun t => m t x) ++ [x]).map D.int := by
            rw [List.map_append, List.map_map]
            rfl
          rw [b_addL lst_own lst_one (by rw [vec_length]; simp; omega), e]
      · exact b_ssetF lt_own (by omega) (by rw [List.length_append, List.length_map, rng_length]; simp; omega) (ll_mem hm ⟨x0, x1⟩)
    · walk_at "bi"
  · rfl
  exact ⟨rfl, rfl⟩
theorem sp_jmul {cf : CF} {W i j : Nat} (hL : SpMults lM (cf i)) (hR : SpMults rM (cf j)) : SpMults jM (runFn cf W (F_two_sided_multiples i j)) := by
  intro n m x st hn hm x0 x1
  have e1 := fun st => hL n m x st hn hm x0 x1
  have e2 := fun y st h0 h1 => hR n m y st hn hm h0 h1
  clear hL hR
  refine Re.wp_eq (run_wp rfl rfl ?_)
  show (evS cf W (B_two_sided_multiples i j) [.imm (semD n m), .imm (.int x), .undef, .undef] st).wp _
  unfold B_two_sided_multiples
  walk_at "go"
  apply wp_forL1 (a := 2) (xs := filt n (lM n m x)) (f := .int) [3] (fun ys c s => s = st ∧ ∃ l : List Int, c = .own ((l.map .int).map .imm) ∧ l.length ≤ 24 * ys.length ∧ ∀ z, z ∈ l ↔ In n z ∧ ∃ y ∈ ys, rM n m y z = true)
  · walk_at "ev"
  · walk_at "for"
  · exact ⟨rfl, [], rfl, Nat.zero_le _, fun z => by simp⟩
  · rintro ys y zs c g s hsp ⟨rfl, l, rfl, hl, hz⟩
    have hlen := congrArg List.length hsp
    rw [List.length_append, List.length_cons] at hlen
    have hfl := filt_len (n := n) (p := lM n m x)
    have hy : y ∈ filt n (lM n m x) := by rw [hsp]; exact List.mem_append_right _ List.mem_cons_self
    obtain ⟨⟨y0, y1⟩, _⟩ := filt_mem.mp hy
    have e3 := e2 y s y0 y1
    have hk := filt_len (n := n) (p := rM n m y)
    walk_at "set"
    apply wp_seq
    apply wp_ext (cs := (l.map D.int).map .imm) (ds := (filt n (rM n m y)).map .int)
    · rfl
    · walk_at "ev"
    · rfl
    · exact small_of (by rw [List.length_map, List.length_map, List.length_map]; omega)
    walk_at "set"
    walk_at "red"
    walk_at "go"
    refine ⟨rfl, rfl, l ++ filt n (rM n m y), ?_, ?_, fun z => ?_⟩
    · rw [List.map_append, List.map_append]
      rfl
    · rw [List.length_append, List.length_append, List.length_cons, List.length_nil]
      omega
    · rw [List.mem_append, hz, filt_mem]
      simp only [List.mem_append, List.mem_singleton]
      constructor
      · rintro (⟨h1, w, h2, h3⟩ | ⟨h1, h2⟩)
        · exact ⟨h1, w, .inl h2, h3⟩
        · exact ⟨h1, y, .inr rfl, h2⟩
      · rintro ⟨h1, w, h2 | rfl, h3⟩
        · exact .inl ⟨h1, w, h2, h3⟩
        · exact .inr ⟨h1, h3⟩
  · rintro c g s ⟨rfl, l, rfl, hl, hz⟩
    have hfl := filt_len (n := n) (p := lM n m x)
    walk_at "set"
    walk_at "go"
    apply wp_ret (c := .imm (mapT (filt n (jM n m x))))
    · apply ev_bi1 (x := .own (((filt n (jM n m x)).map D.int).map .imm))
      · apply ev_bi1
        · walk_at "ev"
        · refine b_ssetF rfl (by omega) (by omega) fun z => ?_
          rw [hz]
          unfold jM
          rw [List.any_eq_true]
          simp only [filt_mem, rng_mem, Bool.and_eq_true]
          exact and_congr Iff.rfl ⟨fun ⟨y, ⟨h1, h2⟩, h3⟩ => ⟨y, h1, h2, h3⟩, fun ⟨y, h1, h2, h3⟩ => ⟨y, ⟨h1, h2⟩, h3⟩⟩
      · walk_at "bi"
    · rfl
    exact ⟨rfl, rfl⟩
/-! ### classes -/
-- alike by what a relation gives
def eqB (n : Nat) (R : Int → Int → Bool) (y x : Int) : Bool := decide (filt n (R y) = filt n (R x))
theorem eqB_eqv {n : Nat} {R : Int → Int → Bool} : Eqv n (eqB n R) := by
  refine ⟨fun x _ => decide_eq_true rfl, fun x y _ _ h => ?_, fun x y z _ _ _ h h' => ?_⟩
  · exact decide_eq_true (of_decide_eq_true h).symm
  · exact decide_eq_true ((of_decide_eq_true h).trans (of_decide_eq_true h'))
-- the classes of multiples by R
def SpCls (R : Nat → (Int → Int → Int) → Int → Int → Bool) (g : Rn) : Prop := ∀ (n : Nat) (m : Int → Int → Int) (st : Store), n ≤ 24 → Clo n m → g [.imm (semD n m)] st = .ok (.imm (rowT n (first n (eqB n (R n m))))) st
theorem sp_rcls {cf : CF} {W i j : Nat} {R : Nat → (Int → Int → Int) → Int → Int → Bool} (hK : SpKeys (cf i)) (hR : SpMults R (cf j)) : SpCls R (runFn cf W (F_r_classes i j)) := by
  intro n m st hn hm
  have e1 := fun x st h0 h1 => hR n m x st hn hm h0 h1
  have e2 := hK n (fun x => mapT (filt n (R n m x))) (eqB n (R n m)) st (by omega) (fun y => nice_ok nice_ints) (fun x y _ _ => mapT_eq _ _) (fun x _ => decide_eq_true rfl)
  clear hK hR
  refine Re.wp_eq (run_wp rfl rfl ?_)
  show (evS cf W (B_r_classes i j) [.imm (semD n m), .undef] st).wp _
  unfold B_r_classes
  walk_at "go"
  exact ⟨rfl, rfl⟩
theorem sp_lcls {cf : CF} {W i j : Nat} {R : Nat → (Int → Int → Int) → Int → Int → Bool} (hK : SpKeys (cf i)) (hR : SpMults R (cf j)) : SpCls R (runFn cf W (F_l_classes i j)) := sp_rcls hK hR
theorem sp_jcls {cf : CF} {W i j : Nat} {R : Nat → (Int → Int → Int) → Int → Int → Bool} (hK : SpKeys (cf i)) (hR : SpMults R (cf j)) : SpCls R (runFn cf W (F_j_classes i j)) := sp_rcls hK hR
-- both
def andB (E E' : Int → Int → Bool) (y x : Int) : Bool := E y x && E' y x
def hB (n : Nat) (m : Int → Int → Int) : Int → Int → Bool := andB (eqB n (rM n m)) (eqB n (lM n m))
theorem hB_eqv {n : Nat} {m : Int → Int → Int} : Eqv n (hB n m) := by
  have a := eqB_eqv (n := n) (R := rM n m)
  have b := eqB_eqv (n := n) (R := lM n m)
  refine ⟨fun x h => ?_, fun x y hx hy h => ?_, fun x y z hx hy hz h h' => ?_⟩
  · unfold hB andB; rw [a.refl x h, b.refl x h]; rfl
  · unfold hB andB at *
    rw [Bool.and_eq_true] at *
    exact ⟨a.symm x y hx hy h.1, b.symm x y hx hy h.2⟩
  · unfold hB andB at *
    rw [Bool.and_eq_true] at *
    exact ⟨a.trans x y z hx hy hz h.1 h'.1, b.trans x y z hx hy hz h.2 h'.2⟩
-- pairs of classes as keys
theorem pair_eq {n : Nat} {E E' : Int → Int → Bool} (h : Eqv n E) (h' : Eqv n E') {x y : Int} (hx : In n x) (hy : In n y) : eqN 4 (.tup [.int (first n E y), .int (first n E' y)]) (.tup [.int (first n E x), .int (first n E' x)]) = andB E E' y x := by
  show eqN 4 (mapT [first n E y, first n E' y]) (mapT [first n E x, first n E' x]) = _
  rw [mapT_eq, Bool.eq_iff_iff, decide_eq_true_eq]
  unfold andB
  rw [Bool.and_eq_true, ← first_eq h hy hx, ← first_eq h' hy hx]
  simp only [List.cons.injEq, and_true]
def SpClsH (g : Rn) : Prop := ∀ (n : Nat) (m : Int → Int → Int) (st : Store), n ≤ 24 → Clo n m → g [.imm (semD n m)] st = .ok (.imm (rowT n (first n (hB n m)))) st
theorem sp_hcls {cf : CF} {W i j k : Nat} (hR : SpCls rM (cf i)) (hL : SpCls lM (cf j)) (hK : SpKeys (cf k)) : SpClsH (runFn cf W (F_h_classes i j k)) := by
  intro n m st hn hm
  have e1 := fun st => hR n m st hn hm
  have e2 := fun st => hL n m st hn hm
  have e3 := hK n (fun x => .tup [.int (first n (eqB n (rM n m)) x), .int (first n (eqB n (lM n m)) x)]) (hB n m) st (by omega) (fun y => nice_ok (show nice 4 (mapT [_, _]) = true from nice_ints)) (fun x y hx hy => pair_eq eqB_eqv eqB_eqv hx hy) hB_eqv.refl
  have hc1 := first_clo (n := n) (eqB_eqv (R := rM n m)).refl
  have hc2 := first_clo (n := n) (eqB_eqv (R := lM n m)).refl
  clear hK hR hL
  refine Re.wp_eq (run_wp rfl rfl ?_)
  show (evS cf W (B_h_classes i j k) [.imm (semD n m), .undef, .undef, .undef] st).wp _
  unfold B_h_classes
  walk_at "go"
  exact ⟨rfl, rfl⟩
end Q

set_option maxRecDepth 100000
set_option maxHeartbeats 1000000
namespace Q
open PySem
/-! ### in, of numbers -/
theorem any_int {v : Int} {l : List Int} : ((l.map D.int).any fun y => eqN 4 y (.int v)) = decide (v ∈ l) := by
  rw [List.any_map, Bool.eq_iff_iff, List.any_eq_true, decide_eq_true_eq]
  constructor
  · rintro ⟨w, h1, h2⟩
    have := (eqN_iff (n := 4) nice_int nice_int).mp h2
    injection this with e
    rw [← e]
    exact h1
  · intro h
    exact ⟨v, h, (eqN_iff (n := 4) nice_int nice_int).mpr rfl⟩
theorem all_int {l : List Int} : (l.map D.int).all (okN 4) = true := List.all_eq_true.mpr fun y hy => by
  obtain ⟨z, _, rfl⟩ := List.mem_map.mp hy
  exact nice_ok nice_int
theorem b_inZL {v : Int} {l : List Int} : binC .in_ (.imm (.int v)) (.imm (lstT l)) = some (.imm (.bl (decide (v ∈ l)))) := by
  rw [b_inL dat_imm dat_imm (nice_ok nice_int) all_int, any_int]
theorem b_inZT {v : Int} {l : List Int} : binC .in_ (.imm (.int v)) (.imm (mapT l)) = some (.imm (.bl (decide (v ∈ l)))) := by
  rw [b_inT dat_imm dat_imm (nice_ok nice_int) all_int, any_int]
theorem b_ninZL {v : Int} {l : List Int} : binC .notin (.imm (.int v)) (.imm (lstT l)) = some (.imm (.bl (!decide (v ∈ l)))) := by
  rw [b_notinL dat_imm dat_imm (nice_ok nice_int) all_int, any_int]
theorem b_ninZT {v : Int} {l : List Int} : binC .notin (.imm (.int v)) (.imm (mapT l)) = some (.imm (.bl (!decide (v ∈ l)))) := by
  rw [b_notinT dat_imm dat_imm (nice_ok nice_int) all_int, any_int]
theorem vec_int {n : Nat} {f : Int → Int} : (vec n fun x => D.int (f x)) = ((rng n).map f).map .int := by
  rw [List.map_map]
  rfl
/-! ### what the relations say -/
section
variable {n : Nat} {m : Int → Int → Int}
theorem eqB_r (hm : Clo n m) (ha : Asc n m) {x y : Int} (hx : In n x) (hy : In n y) : eqB n (rM n m) y x = true ↔ Rr n m y x := by
  unfold eqB
  rw [decide_eq_true_eq]
  constructor
  · intro h
    have h1 := filt_inj h hx
    have h2 := filt_inj h hy
    rw [Bool.eq_iff_iff, rM_iff, rM_iff] at h1 h2
    exact ⟨h2.mp (.inl rfl), h1.mpr (.inl rfl)⟩
  · rintro ⟨h1, h2⟩
    refine filt_congr fun z hz => ?_
    rw [Bool.eq_iff_iff, rM_iff, rM_iff]
    exact ⟨fun h => h.trans hm ha hx h1, fun h => h.trans hm ha hy h2⟩
theorem eqB_l (hm : Clo n m) (ha : Asc n m) {x y : Int} (hx : In n x) (hy : In n y) : eqB n (lM n m) y x = true ↔ Lr n m y x := by
  unfold eqB
  rw [decide_eq_true_eq]
  constructor
  · intro h
    have h1 := filt_inj h hx
    have h2 := filt_inj h hy
    rw [Bool.eq_iff_iff, lM_iff, lM_iff] at h1 h2
    exact ⟨h2.mp (.inl rfl), h1.mpr (.inl rfl)⟩
  · rintro ⟨h1, h2⟩
    refine filt_congr fun z hz => ?_
    rw [Bool.eq_iff_iff, lM_iff, lM_iff]
    exact ⟨fun h => h.trans hm ha hx h1, fun h => h.trans hm ha hy h2⟩
theorem eqB_j (hm : Clo n m) (ha : Asc n m) {x y : Int} (hx : In n x) (hy : In n y) : eqB n (jM n m) y x = true ↔ Jr n m y x := by
  unfold eqB
  rw [decide_eq_true_eq]
  constructor
  · intro h
    have h1 := filt_inj h hx
    have h2 := filt_inj h hy
    rw [Bool.eq_iff_iff, jM_iff, jM_iff] at h1 h2
    exact ⟨h2.mp (Jg.refl hy), h1.mpr (Jg.refl hx)⟩
  · rintro ⟨h1, h2⟩
    refine filt_congr fun z hz => ?_
    rw [Bool.eq_iff_iff, jM_iff, jM_iff]
    exact ⟨fun h => h.trans hm ha hx h1, fun h => h.trans hm ha hy h2⟩
abbrev cR (n : Nat) (m : Int → Int → Int) : Int → Int := first n (eqB n (rM n m))
abbrev cL (n : Nat) (m : Int → Int → Int) : Int → Int := first n (eqB n (lM n m))
abbrev cJ (n : Nat) (m : Int → Int → Int) : Int → Int := first n (eqB n (jM n m))
theorem cR_eq (hm : Clo n m) (ha : Asc n m) {x y : Int} (hx : In n x) (hy : In n y) : cR n m y = cR n m x ↔ Rr n m y x := (first_eq eqB_eqv hy hx).trans (eqB_r hm ha hx hy)
theorem cL_eq (hm : Clo n m) (ha : Asc n m) {x y : Int} (hx : In n x) (hy : In n y) : cL n m y = cL n m x ↔ Lr n m y x := (first_eq eqB_eqv hy hx).trans (eqB_l hm ha hx hy)
theorem cJ_eq (hm : Clo n m) (ha : Asc n m) {x y : Int} (hx : In n x) (hy : In n y) : cJ n m y = cJ n m x ↔ Jr n m y x := (first_eq eqB_eqv hy hx).trans (eqB_j hm ha hx hy)
theorem cR_clo : Clo1 n n (cR n m) := first_clo (eqB_eqv).refl
theorem cL_clo : Clo1 n n (cL n m) := first_clo (eqB_eqv).refl
theorem cJ_clo : Clo1 n n (cJ n m) := first_clo (eqB_eqv).refl
theorem Jr.symm {x y : Int} (h : Jr n m x y) : Jr n m y x := ⟨h.2, h.1⟩
theorem Jr.trans (hm : Clo n m) (ha : Asc n m) {x y z : Int} (hx : In n x) (hz : In n z) (h : Jr n m x y) (h' : Jr n m y z) : Jr n m x z := ⟨h.1.trans hm ha hz h'.1, h'.2.trans hm ha hx h.2⟩
-- the D-relation as the program and the law work it out
def dM (n : Nat) (m : Int → Int → Int) (x y : Int) : Bool := decide (cL n m y ∈ ((rng n).filter fun z => decide (cR n m z = cR n m x)).map (cL n m))
theorem dM_iff (hm : Clo n m) (ha : Asc n m) {x y : Int} (hx : In n x) (hy : In n y) : dM n m x y = true ↔ Jr n m x y := by
  unfold dM
  rw [decide_eq_true_eq, List.mem_map]
  constructor
  · rintro ⟨z, h1, h2⟩
    rw [List.mem_filter, rng_mem, decide_eq_true_eq] at h1
    exact Dr.jr hm ha hx hy ⟨z, h1.1, (cR_eq hm ha hx h1.1).mp h1.2, (cL_eq hm ha hy h1.1).mp h2⟩
  · intro h
    obtain ⟨z, hz, h1, h2⟩ := h.dr hm ha hx hy
    exact ⟨z, List.mem_filter.mpr ⟨rng_mem.mpr hz, decide_eq_true ((cR_eq hm ha hx hz).mpr h1)⟩, (cL_eq hm ha hy hz).mpr h2⟩
theorem eqB_d (hm : Clo n m) (ha : Asc n m) {x y : Int} (hx : In n x) (hy : In n y) : eqB n (dM n m) y x = eqB n (jM n m) y x := by
  rw [Bool.eq_iff_iff, eqB_j hm ha hx hy]
  unfold eqB
  rw [decide_eq_true_eq]
  constructor
  · intro h
    have h1 := filt_inj h hx
    rw [Bool.eq_iff_iff, dM_iff hm ha hy hx, dM_iff hm ha hx hx] at h1
    exact h1.mpr ⟨Jg.refl hx, Jg.refl hx⟩
  · intro h
    refine filt_congr fun z hz => ?_
    rw [Bool.eq_iff_iff, dM_iff hm ha hy hz, dM_iff hm ha hx hz]
    exact ⟨fun q => (h.symm).trans hm ha hx hz q, fun q => h.trans hm ha hy hz q⟩
end
def SpClsD (g : Rn) : Prop := ∀ (n : Nat) (m : Int → Int → Int) (st : Store), n ≤ 24 → Clo n m → Asc n m → g [.imm (semD n m)] st = .ok (.imm (rowT n (cJ n m))) st
theorem sp_dcls {cf : CF} {W i j k : Nat} {es : List (Nat × Nat)} (hR : SpCls rM (cf i)) (hL : SpCls lM (cf j)) (hK : SpKeys (cf k)) : SpClsD (runFn cf W (F_d_classes i j k es)) := by
  intro n m st hn hm ha
  have e1 := fun st => hR n m st hn hm
  have e2 := fun st => hL n m st hn hm
  have e3 := hK n (fun x => mapT (filt n (dM n m x))) (eqB n (dM n m)) st (by omega) (fun y => nice_ok nice_ints) (fun x y _ _ => mapT_eq _ _) (fun x _ => decide_eq_true rfl)
  have hc1 := cR_clo (n := n) (m := m)
  have hc2 := cL_clo (n := n) (m := m)
  clear hK hR hL
  refine Re.wp_eq (run_wp rfl rfl ?_)
  show (evS cf W (B_d_classes i j k es) [.imm (semD n m), .undef, .undef, .undef, .undef, .undef, .undef, .undef] st).wp _
  unfold B_d_classes
  walk_at "go"
  apply wp_for1 (a := 3) [4, 5] (fun i c s => s = st ∧ c = .own ((vec i fun x => mapT (filt n (dM n m x))).map .imm))
  · walk_at "ev"
  · walk_at "for"
  · exact ⟨rfl, rfl⟩
  · rintro x c g s hx ⟨rfl, rfl⟩
    walk_at "set"
    walk_at "go"
    apply wp_app (cs := (vec x fun x => mapT (filt n (dM n m x))).map .imm) (c := .imm (mapT (filt n (dM n m x))))
    · rfl
    · apply ev_bi1
      · apply ev_compFV (n := n) (h := .int) (p := dM n m x) (g := .int)
        · walk_at "ev"
        · walk_at "it"
        · omega
        · intro y y0 y1
          walk_at "set"
          apply ev_bin
          · walk_at "ev"
          · walk_at "ev"
          · have := b_inZL (v := cL n m y) (l := ((rng n).filter fun z => decide (cR n m z = cR n m x)).map (cL n m))
            dsimp only [lstT] at this
            rw [List.map_map] at this
            exact this
        · intro y y0 y1 _
          walk_at "set"
          walk_at "ev"
      · exact tup_O
    · rfl
    · exact small_of (by rw [List.length_map, vec_length]; omega)
    walk_at "set"
    walk_at "red"
    walk_at "go"
    exact ⟨rfl, rfl, congrArg Cell.own (app_vec rfl)⟩
  · rintro c g s ⟨rfl, rfl⟩
    walk_at "set"
    walk_at "go"
    have e : rowT n (first n (eqB n (dM n m))) = rowT n (cJ n m) := congrArg D.tup (List.map_congr_left fun x hx => congrArg D.int (first_congr fun y hy => eqB_d hm ha (rng_mem.mp hx) hy))
    rw [← e]
    exact ⟨rfl, rfl⟩
/-! ### the law's multiples and keys -/
def LM (l r : Bool) : Nat → (Int → Int → Int) → Int → Int → Bool := if l then (if r then jM else lM) else rM
def SpLMul (g : Rn) : Prop := ∀ (n : Nat) (m : Int → Int → Int) (x : Int) (l r : Bool) (st : Store), n ≤ 24 → Clo n m → 0 ≤ x → x < (n : Int) → (l || r) = true → g [.imm (tabL n m), .imm (.int x), .imm (.bl l), .imm (.bl r)] st = .ok (.own (((filt n (LM l r n m x)).map D.int).map .imm)) st
theorem sp_lmult {cf : CF} {W : Nat} : SpLMul (runFn cf W F_law_multiples) := by
  intro n m x l r st hn hm x0 x1 hlr
  refine Re.wp_eq (run_wp rfl rfl ?_)
  show (evS cf W B_law_multiples [.imm (tabL n m), .imm (.int x), .imm (.bl l), .imm (.bl r), .undef, .undef, .undef] st).wp _
  unfold B_law_multiples
  -- the end
  have fin : ∀ (A : List Int) (c5 c6 : Cell) (p : Int → Bool) (K : Wish), A.length ≤ 1000 → (∀ z, In n z → (z ∈ A ↔ p z = true)) → K.R (.own (((filt n p).map D.int).map .imm)) st →
      (evS cf W (.seq (.ret (.bi .sorted (.cons (.comp 5 (.range1 (.bi .len (.cons (.var 0) .nil))) (.bin .in_ (.var 5) (.var 4)) (.var 5)) .nil))) .skip) [.imm (tabL n m), .imm (.int x), .imm (.bl l), .imm (.bl r), .imm (lstT A), c5, c6] st).wp K := by
    intro A c5 c6 p K hA hp hK
    have e : filt n p = filt n fun z => decide (z ∈ A) := filt_congr fun z hz => by
      rw [Bool.eq_iff_iff, decide_eq_true_eq]
      exact (hp z hz).symm
    rw [e] at hK
    apply wp_seq
    refine wp_ret (c := .own (((filt n fun z => decide (z ∈ A)).map D.int).map .imm)) (s1 := st) ?_ rfl hK
    apply ev_bi1 (x := .own (((filt n fun z => decide (z ∈ A)).map D.int).map .imm))
    · apply ev_compFV (n := n) (h := .int) (p := fun z => decide (z ∈ A)) (g := .int)
      · walk_at "ev"
      · walk_at "it"
      · omega
      · intro y y0 y1
        walk_at "set"
        exact ev_bin (ev_var rfl) (ev_var rfl) b_inZL
      · intro y y0 y1 _
        walk_at "set"
        walk_at "ev"
    · have : bSortedL [.own (((filt n fun z => decide (z ∈ A)).map D.int).map .imm)] = some (.own (((filt n fun z => decide (z ∈ A)).map D.int).map .imm)) := by
        simp only [bSortedL, lst_own, Option.bind_some, intsD_map]
        rw [sort_rises (filt_rises _ _)]
        rfl
      exact this
  -- the right multiples of some
  have right : ∀ (A : List Int) (c5 c6 : Cell) (K : Wish), A.length ≤ 30 → (∀ y ∈ A, In n y) → (∀ (B : List Int) (c5 c6 : Cell), B.length ≤ 1000 → (∀ z, z ∈ B ↔ z ∈ A ∨ ∃ y ∈ A, ∃ t, In n t ∧ m y t = z) → K.N [.imm (tabL n m), .imm (.int x), .imm (.bl l), .imm (.bl r), .imm (lstT B), c5, c6] st) →
      (evS cf W (.seq (.for_ 5 (.bi .list (.cons (.var 4) .nil)) (.seq (.asg 4 (.bin .add (.var 4) (.bi .list (.cons (.ix (.var 0) (.var 5)) .nil)))) (.seq (.frz 4) .skip))) .skip) [.imm (tabL n m), .imm (.int x), .imm (.bl l), .imm (.bl r), .imm (lstT A), c5, c6] st).wp K := by
    intro A c5 c6 K hA hin hK
    apply wp_seq
    apply wp_forL1 (a := 4) (xs := A) (f := .int) [5] (fun ys c s => s = st ∧ ∃ B : List Int, c = .imm (lstT B) ∧ B.length ≤ 30 + 24 * ys.length ∧ ∀ z, z ∈ B ↔ z ∈ A ∨ ∃ y ∈ ys, ∃ t, In n t ∧ m y t = z)
    · walk_at "ev"
    · walk_at "for"
    · exact ⟨rfl, A, rfl, by simp; omega, fun z => by simp⟩
    · rintro ys y zs c g s hsp ⟨rfl, B, rfl, hB, hz⟩
      have hlen := congrArg List.length hsp
      rw [List.length_append, List.length_cons] at hlen
      obtain ⟨y0, y1⟩ := hin y (by rw [hsp]; exact List.mem_append_right _ List.mem_cons_self)
      walk_at "set"
      apply wp_seq
      apply wp_asg (c := .own (((B ++ (rng n).map (m y)).map D.int).map .imm)) (s1 := s)
      · apply ev_bin (y := .own ((vec n fun t => D.int (m y t)).map .imm)) (s1 := s)
        · walk_at "ev"
        · walk_at "ev"
        · have e : B.map D.int ++ (vec n fun t => D.int (m y t)) = (B ++ (rng n).map (m y)).map D.int := by
            rw [List.map_append, List.map_map]
            rfl
          rw [b_addL lst_imm lst_own (by rw [List.length_map, vec_length]; omega), e]
      · rfl
      walk_at "set"
      walk_at "red"
      walk_at "go"
      refine ⟨rfl, rfl, _, rfl, ?_, fun z => ?_⟩
      · rw [List.length_append, List.length_append, List.length_map, rng_length, List.length_cons, List.length_nil]
        omega
      · rw [List.mem_append, hz, List.mem_map]
        simp only [List.mem_append, List.mem_singleton, rng_mem]
        constructor
        · rintro ((h | ⟨w, h1, h2⟩) | ⟨t, h1, h2⟩)
          · exact .inl h
          · exact .inr ⟨w, .inl h1, h2⟩
          · exact .inr ⟨y, .inr rfl, t, h1, h2⟩
        · rintro (h | ⟨w, h1 | rfl, h2⟩)
          · exact .inl (.inl h)
          · exact .inl (.inr ⟨w, h1, h2⟩)
          · obtain ⟨t, h3, h4⟩ := h2
            exact .inr ⟨t, h3, h4⟩
    · rintro c g s ⟨rfl, B, rfl, hB, hz⟩
      walk_at "set"
      walk_at "go"
      exact hK B _ _ (by omega) hz
  have one : ∀ z : Int, (z = x ↔ z ∈ [x]) := fun z => by rw [List.mem_singleton]
  cases l with
  | false =>
    cases r with
    | false => cases hlr
    | true =>
      walk_at "go"
      apply wp_iteF
      · walk_at "ev"
      · rfl
      walk_at "go"
      apply wp_iteT
      · walk_at "ev"
      · rfl
      refine right [x] _ _ _ (by simp) (fun y hy => by rw [List.mem_singleton] at hy; rw [hy]; exact ⟨x0, x1⟩) fun B c5 c6 hB hz => ?_
      refine fin B c5 c6 (rM n m x) _ hB (fun z hzn => ?_) ⟨rfl, rfl⟩
      rw [hz, rM_iff]
      simp only [List.mem_singleton]
      constructor
      · rintro (h | ⟨y, rfl, h⟩)
        · exact .inl h
        · exact .inr h
      · rintro (h | h)
        · exact .inl h
        · exact .inr ⟨x, rfl, h⟩
  | true =>
    have hA : ∀ z, z ∈ [x] ++ (rng n).map (fun t => m t x) ↔ In n z ∧ lM n m x z = true := fun z => by
      rw [← ll_mem hm ⟨x0, x1⟩, List.mem_append, List.mem_append]
      exact Or.comm
    have hlen : ([x] ++ (rng n).map (fun t => m t x)).length = n + 1 := by
      rw [List.length_append, List.length_map, rng_length]
      simp
      omega
    walk_at "go"
    apply wp_iteT
    · walk_at "ev"
    · rfl
    apply wp_seq
    apply wp_asg (c := .own ((([x] ++ (rng n).map (fun t => m t x)).map D.int).map .imm)) (s1 := st)
    · apply ev_bin (y := .own ((vec n fun t => D.int (m t x)).map .imm)) (s1 := st)
      · walk_at "ev"
      · walk_at "ev"
      · have e : [D.int x] ++ (vec n fun t => D.int (m t x)) = ([x] ++ (rng n).map (fun t => m t x)).map D.int := by
          rw [List.map_append, List.map_map]
          rfl
        rw [b_addL lst_imm lst_own (by rw [vec_length]; simp; omega), e]
    · rfl
    walk_at "set"
    walk_at "red"
    walk_at "go"
    generalize [x] ++ (rng n).map (fun t => m t x) = A at *
    cases r with
    | false =>
      apply wp_iteF
      · walk_at "ev"
      · rfl
      walk_at "red"
      apply wp_skip
      refine fin A _ _ (lM n m x) _ (by omega) (fun z hzn => ?_) ⟨rfl, rfl⟩
      rw [hA]
      exact ⟨fun h => h.2, fun h => ⟨hzn, h⟩⟩
    | true =>
      apply wp_iteT
      · walk_at "ev"
      · rfl
      refine right A _ _ _ (by omega) (fun y hy => ((hA y).mp hy).1) fun B c5 c6 hB hz => ?_
      refine fin B c5 c6 (jM n m x) _ hB (fun z hzn => ?_) ⟨rfl, rfl⟩
      rw [hz, jM_iff]
      constructor
      · rintro (h | ⟨y, h, h2⟩)
        · obtain ⟨h1, h2⟩ := (hA z).mp h
          exact ⟨z, h1, lM_iff.mp h2, .inl rfl⟩
        · obtain ⟨h1, h3⟩ := (hA y).mp h
          exact ⟨y, h1, lM_iff.mp h3, .inr h2⟩
      · rintro ⟨y, hy, h1, h2⟩
        have hyA := (hA y).mpr ⟨hy, lM_iff.mpr h1⟩
        rcases h2 with rfl | h2
        · exact .inl hyA
        · exact .inr ⟨y, hyA, h2⟩
def SpLKeys (g : Rn) : Prop := ∀ (n : Nat) (m : Int → Int → Int) (l r : Bool) (st : Store), n ≤ 24 → Clo n m → (l || r) = true → g [.imm (tabL n m), .imm (.bl l), .imm (.bl r)] st = .ok (.imm (rowT n (first n (eqB n (LM l r n m))))) st
theorem sp_lkeys {cf : CF} {W i : Nat} (h : SpLMul (cf i)) : SpLKeys (runFn cf W (F_law_keys i)) := by
  intro n m l r st hn hm hlr
  have e1 := fun x st h0 h1 => h n m x l r st hn hm h0 h1 hlr
  clear h
  refine Re.wp_eq (run_wp rfl rfl ?_)
  show (evS cf W (B_law_keys i) [.imm (tabL n m), .imm (.bl l), .imm (.bl r), .undef, .undef, .undef] st).wp _
  unfold B_law_keys
  apply wp_seq
  apply wp_asg (c := .own (vec n fun x => .own (((filt n (LM l r n m x)).map D.int).map .imm))) (s1 := st)
  · apply ev_compVC (n := n) (h := .int)
    · walk_at "ev"
    · walk_at "it"
    · omega
    · intro y y0 y1
      walk_at "set"
      walk_at "ev"
    · intro _
      rfl
  · rfl
  walk_at "set"
  walk_at "red"
  walk_at "go"
  apply wp_ret (c := .imm (rowT n (first n (eqB n (LM l r n m)))))
  · apply ev_bi1 (x := .own ((vec n fun x => D.int (first n (eqB n (LM l r n m)) x)).map .imm))
    · apply ev_compV (n := n) (h := fun x => lstT (filt n (LM l r n m x)))
      · walk_at "ev"
      · walk_at "it"
      · omega
      · intro i i0 i1
        walk_at "set"
        have := idx_vec (n := n) (k := fun x => lstT (filt n (LM l r n m x))) (E := eqB n (LM l r n m)) (fun y => nice_ok (nice_lst fun _ _ => nice_int)) (fun y _ => lstT_eq _ _) ⟨i0, i1⟩ (decide_eq_true rfl)
        have e : ((first n (eqB n (LM l r n m)) i).toNat : Int) = first n (eqB n (LM l r n m)) i := Int.toNat_of_nonneg (first_clo eqB_eqv.refl i i0 i1).1
        rw [← e]
        exact ev_index (ev_var rfl) rfl (ev_var rfl) this
    · walk_at "bi"
  · rfl
  exact ⟨rfl, rfl⟩
/-! ### small things for the laws -/
theorem ne_same {d : D} (h : nice 4 d = true) : binC .ne (.imm d) (.imm d) = some (.imm (.bl false)) := by
  rw [b_neN dat_imm dat_imm (nice_ok h) (nice_ok h), (eqN_iff h h).mpr rfl]
  rfl
theorem eq_same {d : D} (h : nice 4 d = true) : binC .eq (.imm d) (.imm d) = some (.imm (.bl true)) := by
  rw [b_eqN dat_imm dat_imm (nice_ok h) (nice_ok h), (eqN_iff h h).mpr rfl]
theorem filt_head {n : Nat} {E : Int → Int → Bool} {x : Int} (hx : In n x) (hr : E x x = true) : (filt n fun y => E y x)[0]? = some (first n E x) := by
  obtain ⟨h1, h2, h3, _⟩ := first_spec hx hr
  have hm : first n E x ∈ filt n fun y => E y x := filt_mem.mpr ⟨h1, h2⟩
  have hp := filt_rises n fun y => E y x
  cases e : filt n fun y => E y x with
  | nil => rw [e] at hm; cases hm
  | cons a l =>
    rw [e] at hm hp
    have ha : a ∈ filt n fun y => E y x := by rw [e]; exact List.mem_cons_self
    obtain ⟨a1, a2⟩ := filt_mem.mp ha
    rcases List.mem_cons.mp hm with h | h
    · rw [h]; rfl
    · have := (List.pairwise_cons.mp hp).1 _ h
      rw [h3 a a1.1 this] at a2
      cases a2
theorem lenpos {β : Type} {xs : List β} {q : β → Bool} : decide ((0 : Int) < ((xs.filter q).length : Int)) = xs.any q := by
  rw [Bool.eq_iff_iff, decide_eq_true_eq, List.any_eq_true]
  constructor
  · intro h
    obtain ⟨a, ha⟩ := List.exists_mem_of_length_pos (l := xs.filter q) (by omega)
    exact ⟨a, List.mem_filter.mp ha⟩
  · rintro ⟨a, h1, h2⟩
    have := List.length_pos_of_mem (List.mem_filter.mpr ⟨h1, h2⟩)
    omega
theorem noS (n : Nat) (h : n ≤ 1000) (f : Int → Int) : noStr 2 (rowT n f) = true := by
  simp only [noStr, List.length_map, rng_length, Bool.and_eq_true, decide_eq_true_eq, List.all_eq_true, List.mem_map]
  refine ⟨by omega, ?_⟩
  rintro _ ⟨_, _, rfl⟩
  rfl
theorem ev_orS {cf : CF} {ρ : Ev} {st : Store} {a b : IE} {y : Cell} (ha : evE cf a ρ st = .ok (.imm (.bl false)) st) (hb : evE cf b ρ st = .ok y st) : evE cf (.or a b) ρ st = .ok y st := ev_orF ha rfl hb
theorem ev_binS {cf : CF} {ρ : Ev} {st : Store} {a b : IE} {x y z : Cell} {o : Op} (ha : evE cf a ρ st = .ok x st) (hb : evE cf b ρ st = .ok y st) (hz : binC o x y = some z) : evE cf (.bin o a b) ρ st = .ok z st := ev_bin ha hb hz
theorem ev_neS {cf : CF} {ρ : Ev} {st : Store} {a b : IE} {d : D} (ha : evE cf a ρ st = .ok (.imm d) st) (hb : evE cf b ρ st = .ok (.imm d) st) (h : nice 4 d = true) : evE cf (.bin .ne a b) ρ st = .ok (.imm (.bl false)) st := ev_bin ha hb (ne_same h)
theorem ev_eqS {cf : CF} {ρ : Ev} {st : Store} {a b : IE} {d : D} (ha : evE cf a ρ st = .ok (.imm d) st) (hb : evE cf b ρ st = .ok (.imm d) st) (h : nice 4 d = true) : evE cf (.bin .eq a b) ρ st = .ok (.imm (.bl true)) st := ev_bin ha hb (eq_same h)
theorem ev_eqmS {cf : CF} {ρ : Ev} {st : Store} {a b : IE} {d : D} {es : List (Nat × Nat)} (ha : evE cf a ρ st = .ok (.imm d) st) (hb : evE cf b ρ st = .ok (.imm d) st) (hi : insOf (.imm d) = none) (h : nice 4 d = true) : evE cf (.eqm es a b) ρ st = .ok (.imm (.bl true)) st := ev_eqm ha hb hi (eq_same h)
end Q

set_option maxRecDepth 100000
namespace Law
open PySem Q
def top (i : Nat) : Stmt := PySem.Challenge.pw_reesroads_k14_greens_relations.main.body.getD i (.Pass ⟨0, 0, 0, 0⟩)
def inC (s : Stmt) (j : Nat) : Stmt := match s with
  | .ClassDef (body := b) .. => b.getD j (.Pass ⟨0, 0, 0, 0⟩)
  | _ => .Pass ⟨0, 0, 0, 0⟩
def b0 : IS :=
 (.seq (.ret (.and (.isi (.var 0) [.int]) (.not (.isi (.var 0) [.bool]))))
 .skip)
def i0 : FI := ⟨"is_integer", .glob, "is_integer", (top 6), [("value" : Str)], [("value" : Str)], ⟨1, 1, false, 0, 0, b0⟩⟩
def b1 : IS :=
 (.seq (.asg 1 (.bi .list (.cons (.var 0) .nil)))
 (.seq (.frz 1)
 (.seq (.ret (.bi .tuple (.cons (.comp 2 (.var 1) (.con (.bl true)) (.index (.var 1) (.var 2))) .nil)))
 .skip)))
def i1 : FI := ⟨"by_keys", .glob, "by_keys", (top 7), [("keys" : Str)], [("keys" : Str), ("own" : Str), ("key" : Str)], ⟨1, 3, false, 0, 0, b1⟩⟩
def b2 : IS :=
 (.seq (.ret (.bi .tuple (.cons (.bi .sset (.cons (.bin .add (.bi .list (.cons (.ix (.fld (.var 0) 0 1) (.var 1)) .nil)) (.lst (.cons (.var 1) .nil))) .nil)) .nil)))
 .skip)
def i2 : FI := ⟨"right_multiples", .glob, "right_multiples", (top 9), [("s" : Str), ("x" : Str)], [("s" : Str), ("x" : Str)], ⟨2, 2, false, 0, 0, b2⟩⟩
def b3 : IS :=
 (.seq (.ret (.bi .tuple (.cons (.bi .sset (.cons (.bin .add (.comp 2 (.fld (.var 0) 0 1) (.con (.bl true)) (.ix (.var 2) (.var 1))) (.lst (.cons (.var 1) .nil))) .nil)) .nil)))
 .skip)
def i3 : FI := ⟨"left_multiples", .glob, "left_multiples", (top 10), [("s" : Str), ("x" : Str)], [("s" : Str), ("x" : Str), ("row" : Str)], ⟨2, 3, false, 0, 0, b3⟩⟩
def b4 : IS :=
 (.seq (.asg 2 (.lst .nil))
 (.seq (.for_ 3 (.call 3 (.cons (.var 0) (.cons (.var 1) .nil)))
 (.seq (.ext 2 (.call 2 (.cons (.var 0) (.cons (.var 3) .nil))))
 .skip))
 (.seq (.frz 2)
 (.seq (.ret (.bi .tuple (.cons (.bi .sset (.cons (.var 2) .nil)) .nil)))
 .skip))))
def i4 : FI := ⟨"two_sided_multiples", .glob, "two_sided_multiples", (top 11), [("s" : Str), ("x" : Str)], [("s" : Str), ("x" : Str), ("found" : Str), ("y" : Str)], ⟨2, 4, false, 0, 0, b4⟩⟩
def b5 : IS :=
 (.seq (.ret (.call 1 (.cons (.comp 1 (.range1 (.fld (.var 0) 0 0)) (.con (.bl true)) (.call 2 (.cons (.var 0) (.cons (.var 1) .nil)))) .nil)))
 .skip)
def i5 : FI := ⟨"r_classes", .glob, "r_classes", (top 12), [("s" : Str)], [("s" : Str), ("x" : Str)], ⟨1, 2, false, 0, 0, b5⟩⟩
def b6 : IS :=
 (.seq (.ret (.call 1 (.cons (.comp 1 (.range1 (.fld (.var 0) 0 0)) (.con (.bl true)) (.call 3 (.cons (.var 0) (.cons (.var 1) .nil)))) .nil)))
 .skip)
def i6 : FI := ⟨"l_classes", .glob, "l_classes", (top 13), [("s" : Str)], [("s" : Str), ("x" : Str)], ⟨1, 2, false, 0, 0, b6⟩⟩
def b7 : IS :=
 (.seq (.ret (.call 1 (.cons (.comp 1 (.range1 (.fld (.var 0) 0 0)) (.con (.bl true)) (.call 4 (.cons (.var 0) (.cons (.var 1) .nil)))) .nil)))
 .skip)
def i7 : FI := ⟨"j_classes", .glob, "j_classes", (top 14), [("s" : Str)], [("s" : Str), ("x" : Str)], ⟨1, 2, false, 0, 0, b7⟩⟩
def b8 : IS :=
 (.seq (.asg 1 (.call 5 (.cons (.var 0) .nil)))
 (.seq (.frz 1)
 (.seq (.asg 2 (.call 6 (.cons (.var 0) .nil)))
 (.seq (.frz 2)
 (.seq (.ret (.call 1 (.cons (.comp 3 (.range1 (.fld (.var 0) 0 0)) (.con (.bl true)) (.tup (.cons (.ix (.var 1) (.var 3)) (.cons (.ix (.var 2) (.var 3)) .nil)))) .nil)))
 .skip)))))
def i8 : FI := ⟨"h_classes", .glob, "h_classes", (top 15), [("s" : Str)], [("s" : Str), ("rows" : Str), ("columns" : Str), ("x" : Str)], ⟨1, 4, false, 0, 0, b8⟩⟩
def b9 : IS :=
 (.seq (.asg 1 (.call 5 (.cons (.var 0) .nil)))
 (.seq (.frz 1)
 (.seq (.asg 2 (.call 6 (.cons (.var 0) .nil)))
 (.seq (.frz 2)
 (.seq (.asg 3 (.lst .nil))
 (.seq (.for_ 4 (.range1 (.fld (.var 0) 0 0))
 (.seq (.asg 5 (.comp 6 (.range1 (.fld (.var 0) 0 0)) (.eqm [(0, 14)] (.ix (.var 1) (.var 6)) (.ix (.var 1) (.var 4))) (.ix (.var 2) (.var 6))))
 (.seq (.frz 5)
 (.seq (.app 3 (.bi .tuple (.cons (.comp 7 (.range1 (.fld (.var 0) 0 0)) (.bin .in_ (.ix (.var 2) (.var 7)) (.var 5)) (.var 7)) .nil)))
 .skip))))
 (.seq (.frz 3)
 (.seq (.ret (.call 1 (.cons (.var 3) .nil)))
 .skip))))))))
def i9 : FI := ⟨"d_classes", .glob, "d_classes", (top 16), [("s" : Str)], [("s" : Str), ("rows" : Str), ("columns" : Str), ("keys" : Str), ("x" : Str), ("near" : Str), ("z" : Str), ("y" : Str)], ⟨1, 8, false, 0, 0, b9⟩⟩
def b10 : IS :=
 (.seq (.ret (.and (.call 0 (.cons (.var 0) .nil)) (.chn .le .lt (.con (.int 0)) (.var 0) (.var 1))))
 .skip)
def i10 : FI := ⟨"is_item", .glob, "is_item", (top 19), [("value" : Str), ("n" : Str)], [("value" : Str), ("n" : Str)], ⟨2, 2, false, 0, 0, b10⟩⟩
def b11 : IS :=
 (.seq (.ite (.or (.not (.isi (.var 0) [.list, .tuple])) (.bin .eq (.bi .len (.cons (.var 0) .nil)) (.con (.int 0))))
 (.seq (.raiseM 1)
 .skip)
 .skip)
 (.seq (.asg 1 (.lst .nil))
 (.seq (.for_ 2 (.var 0)
 (.seq (.ite (.or (.not (.isi (.var 2) [.list, .tuple])) (.bin .ne (.bi .len (.cons (.var 2) .nil)) (.bi .len (.cons (.var 0) .nil))))
 (.seq (.raiseM 1)
 .skip)
 .skip)
 (.seq (.for_ 3 (.var 2)
 (.seq (.ite (.not (.call 10 (.cons (.var 3) (.cons (.bi .len (.cons (.var 0) .nil)) .nil))))
 (.seq (.raiseM 1)
 .skip)
 .skip)
 .skip))
 (.seq (.app 1 (.bi .tuple (.cons (.var 2) .nil)))
 .skip))))
 (.seq (.frz 1)
 (.seq (.ret (.bi .tuple (.cons (.var 1) .nil)))
 .skip)))))
def i11 : FI := ⟨"taken_table", .glob, "taken_table", (top 20), [("table" : Str)], [("table" : Str), ("found" : Str), ("row" : Str), ("item" : Str)], ⟨1, 4, false, 0, 0, b11⟩⟩
def b12 : IS :=
 (.seq (.for_ 1 (.var 0)
 (.seq (.for_ 2 (.range1 (.bi .len (.cons (.var 0) .nil)))
 (.seq (.ite (.bin .ne (.comp 3 (.range1 (.bi .len (.cons (.var 0) .nil))) (.con (.bl true)) (.ix (.ix (.var 0) (.ix (.var 1) (.var 2))) (.var 3))) (.comp 4 (.ix (.var 0) (.var 2)) (.con (.bl true)) (.ix (.var 1) (.var 4))))
 (.seq (.ret (.con (.bl false)))
 .skip)
 .skip)
 .skip))
 .skip))
 (.seq (.ret (.con (.bl true)))
 .skip))
def i12 : FI := ⟨"is_associative", .glob, "is_associative", (top 21), [("table" : Str)], [("table" : Str), ("row" : Str), ("y" : Str), ("z" : Str), ("item" : Str)], ⟨1, 5, false, 0, 0, b12⟩⟩
def b13 : IS :=
 (.seq (.asg 2 (.call 11 (.cons (.var 1) .nil)))
 (.seq (.frz 2)
 (.seq (.ite (.bin .gt (.bi .len (.cons (.var 2) .nil)) (.glob "MOST" (.int 24)))
 (.seq (.raise 2 (.cons (.con (.str "large")) .nil))
 .skip)
 .skip)
 (.seq (.ite (.not (.call 12 (.cons (.var 2) .nil)))
 (.seq (.raise 2 (.cons (.con (.str "associative")) .nil))
 .skip)
 .skip)
 (.seq (.setf 0 0 (.bi .len (.cons (.var 2) .nil)))
 (.seq (.setf 0 1 (.var 2))
 .skip))))))
def i13 : FI := ⟨"__init__", (.init 0), "Semigroup.__init__", (inC (top 22) 0), [("self" : Str), ("table" : Str)], [("self" : Str), ("table" : Str), ("own" : Str)], ⟨2, 3, true, 0, 2, b13⟩⟩
def b14 : IS :=
 (.seq (.ret (.and (.isi (.var 1) [.c 0]) (.eqm [(0, 14)] (.fld (.var 0) 0 1) (.fld (.var 1) 0 1))))
 .skip)
def i14 : FI := ⟨"__eq__", (.meth 0), "Semigroup.__eq__", (inC (top 22) 1), [("self" : Str), ("other" : Str)], [("self" : Str), ("other" : Str)], ⟨2, 2, false, 0, 0, b14⟩⟩
def b15 : IS :=
 (.seq (.asg 1 (.con (.int 0)))
 (.seq (.asg 2 (.con (.int 1)))
 (.seq (.for_ 3 (.slc (.var 0) .nopart (.con (.int 63)))
 (.seq (.asg 1 (.bin .add (.bin .mul (.var 1) (.con (.int 1000003))) (.bi .abs (.cons (.var 3) .nil))))
 (.seq (.asg 2 (.bin .mod (.bi .int (.cons (.bin .add (.bin .mul (.var 2) (.con (.int 48271))) (.var 3)) .nil)) (.con (.int 2147483647))))
 .skip)))
 (.seq (.ret (.nref (.cons (.var 1) (.cons (.ite (.bin .ne (.var 2) (.con (.int 1973665155))) (.var 2) (.con (.int 7))) .nil))))
 .skip))))
def i15 : FI := ⟨"_law_state", .glob, "_law_state", (top 24), [("script" : Str)], [("script" : Str), ("seed" : Str), ("total" : Str), ("cell" : Str)], ⟨1, 4, false, 0, 0, b15⟩⟩
def b16 : IS :=
 (.seq (.ite (.eqm [(0, 14)] (.var 0) (.con (.str "a word that nothing else is")))
 (.seq (.ret (.con (.bl true)))
 .skip)
 .skip)
 (.seq (.ret (.and (.isi (.var 0) [.tuple, .list]) (.bin .gt (.bi .len (.cons (.comp 1 (.var 0) (.call 16 (.cons (.var 1) .nil)) (.var 1)) .nil)) (.con (.int 0)))))
 .skip))
def i16 : FI := ⟨"_law_odd", .glob, "_law_odd", (top 25), [("value" : Str)], [("value" : Str), ("item" : Str)], ⟨1, 2, false, 0, 0, b16⟩⟩
def b17 : IS :=
 (.seq (.ret (.ite (.call 16 (.cons (.var 0) .nil)) (.con (.str "odd")) (.var 0)))
 .skip)
def i17 : FI := ⟨"_law_honest", .glob, "_law_honest", (top 26), [("value" : Str)], [("value" : Str)], ⟨1, 1, false, 0, 0, b17⟩⟩
def b18 : IS :=
 (.seq (.ite (.bin .gt (.ix (.var 0) (.con (.int 0))) (.con (.int 0)))
 (.seq (.asg 2 (.bin .mod (.bi .int (.cons (.ix (.var 0) (.con (.int 0))) .nil)) (.var 1)))
 (.seq (.sset 0 (.con (.int 0)) (.bin .fdiv (.ix (.var 0) (.con (.int 0))) (.var 1)))
 (.seq (.retv 2)
 .skip)))
 .skip)
 (.seq (.sset 0 (.con (.int 1)) (.bin .mod (.bi .int (.cons (.bin .add (.bin .mul (.ix (.var 0) (.con (.int 1))) (.con (.int 48271))) (.con (.int 11))) .nil)) (.con (.int 2147483647))))
 (.seq (.ret (.bin .mod (.bi .int (.cons (.bin .fdiv (.ix (.var 0) (.con (.int 1))) (.con (.int 7))) .nil)) (.var 1)))
 .skip)))
def i18 : FI := ⟨"_law_take", .glob, "_law_take", (top 27), [("state" : Str), ("m" : Str)], [("state" : Str), ("m" : Str), ("value" : Str)], ⟨2, 3, false, 0, 0, b18⟩⟩
def b19 : IS :=
 (.seq (.asg 2 (.lrange false (.range1 (.var 1))))
 (.seq (.asg 3 (.lst .nil))
 (.seq (.for_ 4 (.range1 (.var 1))
 (.seq (.apop 3 2 (.call 18 (.cons (.var 0) (.cons (.bi .len (.cons (.var 2) .nil)) .nil))))
 .skip))
 (.seq (.frz 2)
 (.seq (.frz 3)
 (.seq (.retv 3)
 .skip))))))
def i19 : FI := ⟨"_law_order_of", .glob, "_law_order_of", (top 28), [("state" : Str), ("n" : Str)], [("state" : Str), ("n" : Str), ("left" : Str), ("found" : Str), ("k" : Str)], ⟨2, 5, false, 0, 0, b19⟩⟩
def b20 : IS :=
 (.seq (.asg 2 (.bi .len (.cons (.var 0) .nil)))
 (.seq (.asg 3 (.comp 4 (.range1 (.var 2)) (.con (.bl true)) (.comp 5 (.range1 (.var 2)) (.con (.bl true)) (.con (.int 0)))))
 (.seq (.for_ 4 (.range1 (.var 2))
 (.seq (.for_ 5 (.range1 (.var 2))
 (.seq (.set2 3 (.ix (.var 1) (.var 4)) (.ix (.var 1) (.var 5)) (.ix (.var 1) (.ix (.ix (.var 0) (.var 4)) (.var 5))))
 .skip))
 .skip))
 (.seq (.frz 3)
 (.seq (.ret (.comp 6 (.var 3) (.con (.bl true)) (.bi .tuple (.cons (.var 6) .nil))))
 .skip)))))
def i20 : FI := ⟨"_law_renamed", .glob, "_law_renamed", (top 29), [("table" : Str), ("order" : Str)], [("table" : Str), ("order" : Str), ("n" : Str), ("found" : Str), ("x" : Str), ("y" : Str), ("row" : Str)], ⟨2, 7, false, 0, 0, b20⟩⟩
def b21 : IS :=
 (.seq (.ret (.bi .tuple (.cons (.comp 2 (.var 0) (.con (.bl true)) (.ix (.var 1) (.var 2))) .nil)))
 .skip)
def i21 : FI := ⟨"_law_after", .glob, "_law_after", (top 30), [("f" : Str), ("g" : Str)], [("f" : Str), ("g" : Str), ("x" : Str)], ⟨2, 3, false, 0, 0, b21⟩⟩
def b22 : IS :=
 (.seq (.asg 1 (.lst .nil))
 (.seq (.for_ 2 (.var 0)
 (.seq (.ite (.bin .notin (.var 2) (.var 1))
 (.seq (.app 1 (.var 2))
 .skip)
 .skip)
 .skip))
 (.seq (.for_ 3 (.range1 (.con (.int 30)))
 (.seq (.for_ 2 (.bi .list (.cons (.var 1) .nil))
 (.seq (.for_ 4 (.var 0)
 (.seq (.asg 5 (.call 21 (.cons (.var 2) (.cons (.var 4) .nil))))
 (.seq (.frz 5)
 (.seq (.ite (.and (.bin .notin (.var 5) (.var 1)) (.bin .lt (.bi .len (.cons (.var 1) .nil)) (.con (.int 30))))
 (.seq (.app 1 (.var 5))
 .skip)
 .skip)
 .skip))))
 .skip))
 .skip))
 (.seq (.frz 1)
 (.seq (.retv 1)
 .skip)))))
def i22 : FI := ⟨"_law_closed", .glob, "_law_closed", (top 31), [("maps" : Str)], [("maps" : Str), ("found" : Str), ("f" : Str), ("turn" : Str), ("g" : Str), ("h" : Str)], ⟨1, 6, false, 0, 0, b22⟩⟩
def b23 : IS :=
 (.seq (.asg 2 (.bin .add (.con (.int 2)) (.call 18 (.cons (.var 0) (.cons (.con (.int 2)) .nil)))))
 (.seq (.frz 2)
 (.seq (.asg 3 (.lst .nil))
 (.seq (.for_ 4 (.range1 (.bin .add (.con (.int 1)) (.call 18 (.cons (.var 0) (.cons (.con (.int 2)) .nil)))))
 (.seq (.app 3 (.bi .tuple (.cons (.comp 8 (.range1 (.var 2)) (.con (.bl true)) (.call 18 (.cons (.var 0) (.cons (.var 2) .nil)))) .nil)))
 .skip))
 (.seq (.frz 3)
 (.seq (.asg 5 (.call 22 (.cons (.var 3) .nil)))
 (.seq (.frz 5)
 (.seq (.ite (.bin .gt (.bi .len (.cons (.var 5) .nil)) (.var 1))
 (.seq (.asg 5 (.call 22 (.cons (.slc (.var 3) .nopart (.con (.int 1))) .nil)))
 (.seq (.frz 5)
 .skip))
 .skip)
 (.seq (.ite (.bin .gt (.bi .len (.cons (.var 5) .nil)) (.var 1))
 (.seq (.asg 5 (.lst (.cons (.bi .tuple (.cons (.comp 8 (.range1 (.var 2)) (.con (.bl true)) (.ix (.ix (.var 3) (.con (.int 0))) (.con (.int 0)))) .nil)) .nil)))
 (.seq (.frz 5)
 .skip))
 .skip)
 (.seq (.ret (.comp 6 (.var 5) (.con (.bl true)) (.bi .tuple (.cons (.comp 7 (.var 5) (.con (.bl true)) (.index (.var 5) (.call 21 (.cons (.var 6) (.cons (.var 7) .nil))))) .nil))))
 .skip))))))))))
def i23 : FI := ⟨"_law_of_maps", .glob, "_law_of_maps", (top 32), [("state" : Str), ("most" : Str)], [("state" : Str), ("most" : Str), ("k" : Str), ("maps" : Str), ("turn" : Str), ("found" : Str), ("f" : Str), ("g" : Str), ("x" : Str)], ⟨2, 9, false, 0, 0, b23⟩⟩
def b24 : IS :=
 (.seq (.asg 2 (.bin .add (.con (.int 1)) (.call 18 (.cons (.var 0) (.cons (.var 1) .nil)))))
 (.seq (.frz 2)
 (.seq (.asg 3 (.bin .add (.con (.int 1)) (.call 18 (.cons (.var 0) (.cons (.var 2) .nil)))))
 (.seq (.frz 3)
 (.seq (.asg 4 (.bin .sub (.bin .add (.var 2) (.con (.int 1))) (.var 3)))
 (.seq (.asg 5 (.lst .nil))
 (.seq (.for_ 6 (.range1 (.var 2))
 (.seq (.asg 7 (.lst .nil))
 (.seq (.for_ 8 (.range1 (.var 2))
 (.seq (.asg 9 (.bin .add (.bin .add (.var 6) (.var 8)) (.con (.int 2))))
 (.seq (.ite (.bin .gt (.var 9) (.var 2))
 (.seq (.asg 9 (.bin .add (.var 4) (.bin .mod (.bi .int (.cons (.bin .sub (.var 9) (.var 4)) .nil)) (.var 3))))
 .skip)
 .skip)
 (.seq (.app 7 (.bin .sub (.var 9) (.con (.int 1))))
 .skip))))
 (.seq (.frz 7)
 (.seq (.app 5 (.bi .tuple (.cons (.var 7) .nil)))
 .skip)))))
 (.seq (.frz 5)
 (.seq (.retv 5)
 .skip)))))))))
def i24 : FI := ⟨"_law_monogenic", .glob, "_law_monogenic", (top 33), [("state" : Str), ("most" : Str)], [("state" : Str), ("most" : Str), ("n" : Str), ("period" : Str), ("index" : Str), ("rows" : Str), ("x" : Str), ("row" : Str), ("y" : Str), ("k" : Str)], ⟨2, 10, false, 0, 0, b24⟩⟩
def b25 : IS :=
 (.seq (.asg 6 (.bin .mul (.bin .mul (.var 0) (.var 1)) (.var 2)))
 (.seq (.asg 7 (.lst .nil))
 (.seq (.for_ 8 (.range1 (.var 6))
 (.seq (.asg 9 (.lst .nil))
 (.seq (.for_ 10 (.range1 (.var 6))
 (.seq (.asg 11 (.bin .mod (.bi .int (.cons (.var 8) .nil)) (.var 1)))
 (.seq (.asg 12 (.bin .fdiv (.var 10) (.bin .mul (.var 2) (.var 1))))
 (.seq (.ite (.and (.var 5) (.ix (.ix (.var 4) (.var 11)) (.var 12)))
 (.seq (.app 9 (.var 6))
 .skip)
 (.seq (.asg 13 (.bin .mod (.bi .int (.cons (.bin .add (.bin .add (.bin .fdiv (.var 8) (.var 1)) (.ix (.ix (.var 3) (.var 11)) (.var 12))) (.bin .fdiv (.var 10) (.var 1))) .nil)) (.var 2)))
 (.seq (.app 9 (.bin .add (.bin .mul (.bin .add (.bin .mul (.bin .fdiv (.var 8) (.bin .mul (.var 2) (.var 1))) (.var 2)) (.var 13)) (.var 1)) (.bin .mod (.bi .int (.cons (.var 10) .nil)) (.var 1))))
 .skip)))
 .skip))))
 (.seq (.frz 9)
 (.seq (.app 7 (.bi .tuple (.cons (.bin .add (.var 9) (.comp 14 (.range1 (.bi .int (.cons (.var 5) .nil))) (.con (.bl true)) (.var 6))) .nil)))
 .skip)))))
 (.seq (.ite (.var 5)
 (.seq (.app 7 (.bi .tuple (.cons (.comp 14 (.range1 (.bin .add (.var 6) (.con (.int 1)))) (.con (.bl true)) (.var 6)) .nil)))
 .skip)
 .skip)
 (.seq (.frz 7)
 (.seq (.retv 7)
 .skip))))))
def i25 : FI := ⟨"_law_triples", .glob, "_law_triples", (top 34), [("a" : Str), ("b" : Str), ("g" : Str), ("twist" : Str), ("holes" : Str), ("zero" : Str)], [("a" : Str), ("b" : Str), ("g" : Str), ("twist" : Str), ("holes" : Str), ("zero" : Str), ("size" : Str), ("rows" : Str), ("x" : Str), ("row" : Str), ("y" : Str), ("j" : Str), ("i" : Str), ("turn" : Str), ("k" : Str)], ⟨6, 15, false, 0, 0, b25⟩⟩
def b26 : IS :=
 (.seq (.asg 2 (.bin .add (.con (.int 1)) (.call 18 (.cons (.var 0) (.cons (.con (.int 2)) .nil)))))
 (.seq (.frz 2)
 (.seq (.asg 3 (.bin .add (.con (.int 1)) (.call 18 (.cons (.var 0) (.cons (.con (.int 2)) .nil)))))
 (.seq (.frz 3)
 (.seq (.asg 4 (.bin .add (.con (.int 1)) (.call 18 (.cons (.var 0) (.cons (.con (.int 2)) .nil)))))
 (.seq (.frz 4)
 (.seq (.ite (.bin .gt (.bin .add (.bin .mul (.bin .mul (.var 2) (.var 3)) (.var 4)) (.con (.int 1))) (.var 1))
 (.seq (.unp [2, 3, 4] (.tup (.cons (.con (.int 1)) (.cons (.con (.int 1)) (.cons (.bi .min2 (.cons (.con (.int 2)) (.cons (.var 1) .nil))) .nil)))))
 .skip)
 .skip)
 (.seq (.asg 5 (.comp 8 (.range1 (.var 3)) (.con (.bl true)) (.comp 9 (.range1 (.var 2)) (.con (.bl true)) (.call 18 (.cons (.var 0) (.cons (.var 4) .nil))))))
 (.seq (.frz 5)
 (.seq (.asg 6 (.comp 8 (.range1 (.var 3)) (.con (.bl true)) (.comp 9 (.range1 (.var 2)) (.con (.bl true)) (.eqm [(0, 14)] (.call 18 (.cons (.var 0) (.cons (.con (.int 3)) .nil))) (.con (.int 0))))))
 (.seq (.frz 6)
 (.seq (.asg 7 (.and (.eqm [(0, 14)] (.call 18 (.cons (.var 0) (.cons (.con (.int 2)) .nil))) (.con (.int 0))) (.bin .lt (.bin .mul (.bin .mul (.var 2) (.var 3)) (.var 4)) (.var 1))))
 (.seq (.ret (.call 25 (.cons (.var 2) (.cons (.var 3) (.cons (.var 4) (.cons (.var 5) (.cons (.var 6) (.cons (.var 7) .nil))))))))
 .skip)))))))))))))
def i26 : FI := ⟨"_law_blocks", .glob, "_law_blocks", (top 35), [("state" : Str), ("most" : Str)], [("state" : Str), ("most" : Str), ("a" : Str), ("b" : Str), ("g" : Str), ("twist" : Str), ("holes" : Str), ("zero" : Str), ("j" : Str), ("i" : Str)], ⟨2, 10, false, 0, 0, b26⟩⟩
def b27 : IS :=
 (.seq (.asg 2 (.call 18 (.cons (.var 0) (.cons (.con (.int 8)) .nil))))
 (.seq (.frz 2)
 (.seq (.asg 3 (.bin .add (.con (.int 1)) (.call 18 (.cons (.var 0) (.cons (.var 1) .nil)))))
 (.seq (.frz 3)
 (.seq (.ite (.eqm [(0, 14)] (.var 2) (.con (.int 0)))
 (.seq (.ret (.comp 4 (.range1 (.var 3)) (.con (.bl true)) (.bi .tuple (.cons (.comp 5 (.range1 (.var 3)) (.con (.bl true)) (.var 4)) .nil))))
 .skip)
 .skip)
 (.seq (.ite (.eqm [(0, 14)] (.var 2) (.con (.int 1)))
 (.seq (.ret (.comp 4 (.range1 (.var 3)) (.con (.bl true)) (.bi .tuple (.cons (.comp 5 (.range1 (.var 3)) (.con (.bl true)) (.con (.int 0))) .nil))))
 .skip)
 .skip)
 (.seq (.ite (.eqm [(0, 14)] (.var 2) (.con (.int 2)))
 (.seq (.ret (.call 24 (.cons (.var 0) (.cons (.var 1) .nil))))
 .skip)
 .skip)
 (.seq (.ite (.eqm [(0, 14)] (.var 2) (.con (.int 3)))
 (.seq (.ret (.comp 4 (.range1 (.var 3)) (.con (.bl true)) (.bi .tuple (.cons (.comp 5 (.range1 (.var 3)) (.con (.bl true)) (.bi .min2 (.cons (.var 4) (.cons (.var 5) .nil)))) .nil))))
 .skip)
 .skip)
 (.seq (.ite (.bin .lt (.var 2) (.con (.int 6)))
 (.seq (.ret (.call 23 (.cons (.var 0) (.cons (.var 1) .nil))))
 .skip)
 .skip)
 (.seq (.ret (.call 26 (.cons (.var 0) (.cons (.var 1) .nil))))
 .skip))))))))))
def i27 : FI := ⟨"_law_plain", .glob, "_law_plain", (top 36), [("state" : Str), ("most" : Str)], [("state" : Str), ("most" : Str), ("pick" : Str), ("n" : Str), ("x" : Str), ("y" : Str)], ⟨2, 6, false, 0, 0, b27⟩⟩
def b28 : IS :=
 (.seq (.asg 3 (.bi .len (.cons (.var 1) .nil)))
 (.seq (.asg 4 (.call 18 (.cons (.var 0) (.cons (.con (.int 6)) .nil))))
 (.seq (.frz 4)
 (.seq (.ite (.eqm [(0, 14)] (.var 4) (.con (.int 0)))
 (.seq (.ret (.comp 6 (.range1 (.var 3)) (.con (.bl true)) (.bi .tuple (.cons (.comp 8 (.range1 (.var 3)) (.con (.bl true)) (.ix (.ix (.var 1) (.var 8)) (.var 6))) .nil))))
 .skip)
 .skip)
 (.seq (.ite (.and (.eqm [(0, 14)] (.var 4) (.con (.int 1))) (.bin .lt (.var 3) (.var 2)))
 (.seq (.ret (.bin .add (.comp 7 (.var 1) (.con (.bl true)) (.bin .add (.var 7) (.tup (.cons (.var 3) .nil)))) (.lst (.cons (.bi .tuple (.cons (.comp 8 (.range1 (.bin .add (.var 3) (.con (.int 1)))) (.con (.bl true)) (.var 3)) .nil)) .nil))))
 .skip)
 .skip)
 (.seq (.ite (.and (.eqm [(0, 14)] (.var 4) (.con (.int 2))) (.bin .lt (.var 3) (.var 2)))
 (.seq (.ret (.bin .add (.comp 6 (.range1 (.var 3)) (.con (.bl true)) (.bin .add (.ix (.var 1) (.var 6)) (.tup (.cons (.var 6) .nil)))) (.lst (.cons (.lrange true (.range1 (.bin .add (.var 3) (.con (.int 1))))) .nil))))
 .skip)
 .skip)
 (.seq (.ite (.and (.eqm [(0, 14)] (.var 4) (.con (.int 3))) (.bin .le (.bin .mul (.con (.int 2)) (.var 3)) (.var 2)))
 (.seq (.asg 5 (.lst (.cons (.tup (.cons (.con (.int 0)) (.cons (.con (.int 0)) .nil))) (.cons (.tup (.cons (.con (.int 0)) (.cons (.con (.int 1)) .nil))) .nil))))
 (.seq (.frz 5)
 (.seq (.ite (.eqm [(0, 14)] (.call 18 (.cons (.var 0) (.cons (.con (.int 2)) .nil))) (.con (.int 0)))
 (.seq (.asg 5 (.lst (.cons (.tup (.cons (.con (.int 0)) (.cons (.con (.int 1)) .nil))) (.cons (.tup (.cons (.con (.int 1)) (.cons (.con (.int 0)) .nil))) .nil))))
 (.seq (.frz 5)
 .skip))
 .skip)
 (.seq (.ret (.comp 6 (.range1 (.bin .mul (.con (.int 2)) (.var 3))) (.con (.bl true)) (.bi .tuple (.cons (.comp 8 (.range1 (.bin .mul (.con (.int 2)) (.var 3))) (.con (.bl true)) (.bin .add (.bin .mul (.con (.int 2)) (.ix (.ix (.var 1) (.bin .fdiv (.var 6) (.con (.int 2)))) (.bin .fdiv (.var 8) (.con (.int 2))))) (.ix (.ix (.var 5) (.bin .mod (.bi .int (.cons (.var 6) .nil)) (.con (.int 2)))) (.bin .mod (.bi .int (.cons (.var 8) .nil)) (.con (.int 2)))))) .nil))))
 .skip))))
 .skip)
 (.seq (.retv 1)
 .skip))))))))
def i28 : FI := ⟨"_law_extended", .glob, "_law_extended", (top 37), [("state" : Str), ("table" : Str), ("most" : Str)], [("state" : Str), ("table" : Str), ("most" : Str), ("n" : Str), ("pick" : Str), ("second" : Str), ("x" : Str), ("row" : Str), ("y" : Str)], ⟨3, 9, false, 0, 0, b28⟩⟩
def b29 : IS :=
 (.seq (.asg 2 (.call 28 (.cons (.var 0) (.cons (.call 27 (.cons (.var 0) (.cons (.var 1) .nil))) (.cons (.var 1) .nil)))))
 (.seq (.frz 2)
 (.seq (.ret (.call 20 (.cons (.var 2) (.cons (.call 19 (.cons (.var 0) (.cons (.bi .len (.cons (.var 2) .nil)) .nil))) .nil))))
 .skip)))
def i29 : FI := ⟨"_law_semigroup", .glob, "_law_semigroup", (top 38), [("state" : Str), ("most" : Str)], [("state" : Str), ("most" : Str), ("table" : Str)], ⟨2, 3, false, 0, 0, b29⟩⟩
def b30 : IS :=
 (.seq (.asg 4 (.lst (.cons (.var 1) .nil)))
 (.seq (.frz 4)
 (.seq (.ite (.var 2)
 (.seq (.asg 4 (.bin .add (.var 4) (.comp 6 (.var 0) (.con (.bl true)) (.ix (.var 6) (.var 1)))))
 (.seq (.frz 4)
 .skip))
 .skip)
 (.seq (.ite (.var 3)
 (.seq (.for_ 5 (.bi .list (.cons (.var 4) .nil))
 (.seq (.asg 4 (.bin .add (.var 4) (.bi .list (.cons (.ix (.var 0) (.var 5)) .nil))))
 (.seq (.frz 4)
 .skip)))
 .skip)
 .skip)
 (.seq (.ret (.bi .sorted (.cons (.comp 5 (.range1 (.bi .len (.cons (.var 0) .nil))) (.bin .in_ (.var 5) (.var 4)) (.var 5)) .nil)))
 .skip)))))
def i30 : FI := ⟨"_law_multiples", .glob, "_law_multiples", (top 39), [("table" : Str), ("x" : Str), ("left" : Str), ("right" : Str)], [("table" : Str), ("x" : Str), ("left" : Str), ("right" : Str), ("found" : Str), ("y" : Str), ("row" : Str)], ⟨4, 7, false, 0, 0, b30⟩⟩
def b31 : IS :=
 (.seq (.asg 3 (.comp 4 (.range1 (.bi .len (.cons (.var 0) .nil))) (.con (.bl true)) (.call 30 (.cons (.var 0) (.cons (.var 4) (.cons (.var 1) (.cons (.var 2) .nil)))))))
 (.seq (.frz 3)
 (.seq (.ret (.bi .tuple (.cons (.comp 5 (.var 3) (.con (.bl true)) (.index (.var 3) (.var 5))) .nil)))
 .skip)))
def i31 : FI := ⟨"_law_keys", .glob, "_law_keys", (top 40), [("table" : Str), ("left" : Str), ("right" : Str)], [("table" : Str), ("left" : Str), ("right" : Str), ("keys" : Str), ("x" : Str), ("key" : Str)], ⟨3, 6, false, 0, 0, b31⟩⟩
def b32 : IS :=
 (.seq (.asg 1 (.call 15 (.cons (.var 0) .nil)))
 (.seq (.asg 2 (.call 29 (.cons (.var 1) (.cons (.con (.int 7)) .nil))))
 (.seq (.frz 2)
 (.seq (.asg 3 (.bi .len (.cons (.var 2) .nil)))
 (.seq (.asg 4 (.new 0 13 (.cons (.var 2) .nil)))
 (.seq (.asg 5 (.call 31 (.cons (.var 2) (.cons (.con (.bl false)) (.cons (.con (.bl true)) .nil)))))
 (.seq (.frz 5)
 (.seq (.asg 6 (.call 31 (.cons (.var 2) (.cons (.con (.bl true)) (.cons (.con (.bl false)) .nil)))))
 (.seq (.frz 6)
 (.seq (.ite (.or (.bin .ne (.call 17 (.cons (.call 5 (.cons (.var 4) .nil)) .nil)) (.var 5)) (.or (.bin .ne (.call 17 (.cons (.call 6 (.cons (.var 4) .nil)) .nil)) (.var 6)) (.bin .ne (.call 17 (.cons (.call 7 (.cons (.var 4) .nil)) .nil)) (.call 31 (.cons (.var 2) (.cons (.con (.bl true)) (.cons (.con (.bl true)) .nil)))))))
 (.seq (.ret (.con (.bl false)))
 .skip)
 .skip)
 (.seq (.asg 7 (.comp 9 (.range1 (.var 3)) (.con (.bl true)) (.tup (.cons (.ix (.var 5) (.var 9)) (.cons (.ix (.var 6) (.var 9)) .nil)))))
 (.seq (.frz 7)
 (.seq (.ite (.bin .ne (.call 17 (.cons (.call 8 (.cons (.var 4) .nil)) .nil)) (.bi .tuple (.cons (.comp 12 (.var 7) (.con (.bl true)) (.index (.var 7) (.var 12))) .nil)))
 (.seq (.ret (.con (.bl false)))
 .skip)
 .skip)
 (.seq (.asg 8 (.lst .nil))
 (.seq (.for_ 9 (.range1 (.var 3))
 (.seq (.asg 10 (.comp 11 (.range1 (.var 3)) (.bin .gt (.bi .len (.cons (.comp 13 (.range1 (.var 3)) (.and (.eqm [(0, 14)] (.ix (.var 5) (.var 13)) (.ix (.var 5) (.var 9))) (.eqm [(0, 14)] (.ix (.var 6) (.var 13)) (.ix (.var 6) (.var 11)))) (.var 13)) .nil)) (.con (.int 0))) (.var 11)))
 (.seq (.frz 10)
 (.seq (.app 8 (.ix (.var 10) (.con (.int 0))))
 .skip))))
 (.seq (.frz 8)
 (.seq (.ret (.and (.eqm [(0, 14)] (.call 17 (.cons (.call 9 (.cons (.var 4) .nil)) .nil)) (.bi .tuple (.cons (.var 8) .nil))) (.eqm [(0, 14)] (.call 17 (.cons (.call 7 (.cons (.var 4) .nil)) .nil)) (.bi .tuple (.cons (.var 8) .nil)))))
 .skip)))))))))))))))))
def i32 : FI := ⟨"law", .glob, "law", (top 41), [("script" : Str)], [("script" : Str), ("state" : Str), ("table" : Str), ("n" : Str), ("s" : Str), ("rows" : Str), ("columns" : Str), ("both" : Str), ("due" : Str), ("x" : Str), ("near" : Str), ("y" : Str), ("key" : Str), ("z" : Str)], ⟨1, 14, false, 0, 0, b32⟩⟩
def I : List FI := [i0, i1, i2, i3, i4, i5, i6, i7, i8, i9, i10, i11, i12, i13, i14, i15, i16, i17, i18, i19, i20, i21, i22, i23, i24, i25, i26, i27, i28, i29, i30, i31, i32]
def cl : List (Str × List Str) := [("Semigroup", [("n" : Str), ("table" : Str)])]
def ex : List (Str × List Str) := [("Fault", []), ("Malformed", []), ("Refused", [("reason" : Str)])]
def gv : List (Str × D) := [("MOST", (.int 24))]
def g : Gs := gsOf I cl ex gv
theorem s0 : stB g i0 = true := by decide +kernel
theorem s1 : stB g i1 = true := by decide +kernel
theorem s2 : stB g i2 = true := by decide +kernel
theorem s3 : stB g i3 = true := by decide +kernel
theorem s4 : stB g i4 = true := by decide +kernel
theorem s5 : stB g i5 = true := by decide +kernel
theorem s6 : stB g i6 = true := by decide +kernel
theorem s7 : stB g i7 = true := by decide +kernel
theorem s8 : stB g i8 = true := by decide +kernel
theorem s9 : stB g i9 = true := by decide +kernel
theorem s10 : stB g i10 = true := by decide +kernel
theorem s11 : stB g i11 = true := by decide +kernel
theorem s12 : stB g i12 = true := by decide +kernel
theorem s13 : stB g i13 = true := by decide +kernel
theorem s14 : stB g i14 = true := by decide +kernel
theorem s15 : stB g i15 = true := by decide +kernel
theorem s16 : stB g i16 = true := by decide +kernel
theorem s17 : stB g i17 = true := by decide +kernel
theorem s18 : stB g i18 = true := by decide +kernel
theorem s19 : stB g i19 = true := by decide +kernel
theorem s20 : stB g i20 = true := by decide +kernel
theorem s21 : stB g i21 = true := by decide +kernel
theorem s22 : stB g i22 = true := by decide +kernel
theorem s23 : stB g i23 = true := by decide +kernel
theorem s24 : stB g i24 = true := by decide +kernel
theorem s25 : stB g i25 = true := by decide +kernel
theorem s26 : stB g i26 = true := by decide +kernel
theorem s27 : stB g i27 = true := by decide +kernel
theorem s28 : stB g i28 = true := by decide +kernel
theorem s29 : stB g i29 = true := by decide +kernel
theorem s30 : stB g i30 = true := by decide +kernel
theorem s31 : stB g i31 = true := by decide +kernel
theorem s32 : stB g i32 = true := by decide +kernel
theorem st_all : ∀ i ∈ I, stB g i = true := by
  unfold I
  simp only [List.forall_mem_cons]
  exact ⟨s0, s1, s2, s3, s4, s5, s6, s7, s8, s9, s10, s11, s12, s13, s14, s15, s16, s17, s18, s19, s20, s21, s22, s23, s24, s25, s26, s27, s28, s29, s30, s31, s32, fun _ h => nomatch h⟩
abbrev F : List Fn := I.map (·.fn)
end Law

set_option maxRecDepth 100000
set_option maxHeartbeats 1000000
namespace Law
open PySem Q
theorem t0 : ∀ k : Nat, 1 ≤ k → SpInt (callN F 100 k 0)
  | k + 1, h => (sp_int )
  | 0, h => absurd h (by decide)
theorem t12 : ∀ k : Nat, 1 ≤ k → SpAsc (callN F 100 k 12)
  | k + 1, h => (sp_asc )
  | 0, h => absurd h (by decide)
theorem t18 : ∀ k : Nat, 1 ≤ k → SpTake (callN F 100 k 18)
  | k + 1, h => (sp_take )
  | 0, h => absurd h (by decide)
theorem t20 : ∀ k : Nat, 1 ≤ k → SpRenamed (callN F 100 k 20)
  | k + 1, h => (sp_renamed )
  | 0, h => absurd h (by decide)
theorem t21 : ∀ k : Nat, 1 ≤ k → SpAfter (callN F 100 k 21)
  | k + 1, h => (sp_after )
  | 0, h => absurd h (by decide)
theorem t25 : ∀ k : Nat, 1 ≤ k → SpTriples (callN F 100 k 25)
  | k + 1, h => (sp_triples )
  | 0, h => absurd h (by decide)
theorem t14 : ∀ k : Nat, 1 ≤ k → SpEqNo (callN F 100 k 14)
  | k + 1, h => (sp_eqno )
  | 0, h => absurd h (by decide)
theorem t1 : ∀ k : Nat, 1 ≤ k → SpKeys (callN F 100 k 1)
  | k + 1, h => (sp_keys )
  | 0, h => absurd h (by decide)
theorem t2 : ∀ k : Nat, 1 ≤ k → SpMults rM (callN F 100 k 2)
  | k + 1, h => (sp_rmul )
  | 0, h => absurd h (by decide)
theorem t3 : ∀ k : Nat, 1 ≤ k → SpMults lM (callN F 100 k 3)
  | k + 1, h => (sp_lmul )
  | 0, h => absurd h (by decide)
theorem t30 : ∀ k : Nat, 1 ≤ k → SpLMul (callN F 100 k 30)
  | k + 1, h => (sp_lmult )
  | 0, h => absurd h (by decide)
theorem t10 : ∀ k : Nat, 2 ≤ k → SpItem (callN F 100 k 10)
  | k + 1, h => (sp_item (t0 k (by omega)))
  | 0, h => absurd h (by decide)
theorem t19 : ∀ k : Nat, 2 ≤ k → SpOrder (callN F 100 k 19)
  | k + 1, h => (sp_order (t18 k (by omega)))
  | 0, h => absurd h (by decide)
theorem t22 : ∀ k : Nat, 2 ≤ k → SpClosed (callN F 100 k 22)
  | k + 1, h => (sp_closed (t21 k (by omega)))
  | 0, h => absurd h (by decide)
theorem t24 : ∀ k : Nat, 2 ≤ k → SpTab (callN F 100 k 24)
  | k + 1, h => (sp_monogenic (t18 k (by omega)))
  | 0, h => absurd h (by decide)
theorem t26 : ∀ k : Nat, 2 ≤ k → SpTab (callN F 100 k 26)
  | k + 1, h => (sp_blocks (t18 k (by omega)) (t25 k (by omega)))
  | 0, h => absurd h (by decide)
theorem t28 : ∀ k : Nat, 2 ≤ k → SpExt (callN F 100 k 28)
  | k + 1, h => (sp_extended (t18 k (by omega)))
  | 0, h => absurd h (by decide)
theorem t4 : ∀ k : Nat, 2 ≤ k → SpMults jM (callN F 100 k 4)
  | k + 1, h => (sp_jmul (t3 k (by omega)) (t2 k (by omega)))
  | 0, h => absurd h (by decide)
theorem t5 : ∀ k : Nat, 2 ≤ k → SpCls rM (callN F 100 k 5)
  | k + 1, h => (sp_rcls (t1 k (by omega)) (t2 k (by omega)))
  | 0, h => absurd h (by decide)
theorem t6 : ∀ k : Nat, 2 ≤ k → SpCls lM (callN F 100 k 6)
  | k + 1, h => (sp_lcls (t1 k (by omega)) (t3 k (by omega)))
  | 0, h => absurd h (by decide)
theorem t31 : ∀ k : Nat, 2 ≤ k → SpLKeys (callN F 100 k 31)
  | k + 1, h => (sp_lkeys (t30 k (by omega)))
  | 0, h => absurd h (by decide)
theorem t11 : ∀ k : Nat, 3 ≤ k → SpTaken (callN F 100 k 11)
  | k + 1, h => (sp_taken (t10 k (by omega)))
  | 0, h => absurd h (by decide)
theorem t23 : ∀ k : Nat, 3 ≤ k → SpTab (callN F 100 k 23)
  | k + 1, h => (sp_of_maps (t18 k (by omega)) (t22 k (by omega)) (t21 k (by omega)))
  | 0, h => absurd h (by decide)
theorem t7 : ∀ k : Nat, 3 ≤ k → SpCls jM (callN F 100 k 7)
  | k + 1, h => (sp_jcls (t1 k (by omega)) (t4 k (by omega)))
  | 0, h => absurd h (by decide)
theorem t8 : ∀ k : Nat, 3 ≤ k → SpClsH (callN F 100 k 8)
  | k + 1, h => (sp_hcls (t5 k (by omega)) (t6 k (by omega)) (t1 k (by omega)))
  | 0, h => absurd h (by decide)
theorem t9 : ∀ k : Nat, 3 ≤ k → SpClsD (callN F 100 k 9)
  | k + 1, h => (sp_dcls (t5 k (by omega)) (t6 k (by omega)) (t1 k (by omega)))
  | 0, h => absurd h (by decide)
theorem t13 : ∀ k : Nat, 4 ≤ k → SpSem (callN F 100 k 13)
  | k + 1, h => (sp_sem (t11 k (by omega)) (t12 k (by omega)))
  | 0, h => absurd h (by decide)
theorem t27 : ∀ k : Nat, 4 ≤ k → SpTab (callN F 100 k 27)
  | k + 1, h => (sp_plain (t18 k (by omega)) (t24 k (by omega)) (t23 k (by omega)) (t26 k (by omega)))
  | 0, h => absurd h (by decide)
theorem t29 : ∀ k : Nat, 5 ≤ k → SpSemi (callN F 100 k 29)
  | k + 1, h => (sp_semigroup (t28 k (by omega)) (t27 k (by omega)) (t20 k (by omega)) (t19 k (by omega)))
  | 0, h => absurd h (by decide)
theorem t16 : ∀ n k : Nat, n ≤ 4 → n + 1 ≤ k → SpOdd n (callN F 100 k 16)
  | 0, k + 1, _, _ => (sp_odd0)
  | n + 1, k + 1, h, h2 => (sp_oddS h (t16 n k (by omega) (by omega)))
  | _, 0, _, h => absurd h (by omega)
theorem t17 : ∀ n k : Nat, n ≤ 4 → n + 2 ≤ k → SpHonest n (callN F 100 k 17)
  | n, k + 1, h, h2 => (sp_honest (t16 n k h (by omega)))
  | _, 0, _, h => absurd h (by omega)
theorem tI16 : ∀ k : Nat, 2 ≤ k → SpOddI (callN F 100 k 16)
  | k + 1, h => (sp_oddI (t14 k (by omega)))
  | 0, h => absurd h (by decide)
theorem tI17 : ∀ k : Nat, 3 ≤ k → SpHonestI (callN F 100 k 17)
  | k + 1, h => (sp_honestI (tI16 k (by omega)))
  | 0, h => absurd h (by decide)
theorem law_run {cf : CF} {s : List D} {sc : Cell} (hs : StOk s) (h15 : cf 15 [sc] [] = .ok (.imm (.sref 0)) [s]) (h29 : SpSemi (cf 29)) (h13 : SpSem (cf 13)) (h31 : SpLKeys (cf 31)) (h5 : SpCls rM (cf 5)) (h6 : SpCls lM (cf 6)) (h7 : SpCls jM (cf 7)) (h8 : SpClsH (cf 8)) (h9 : SpClsD (cf 9)) (h17 : SpHonest 2 (cf 17)) (hsc : ∃ d, sc = .imm d) :
    (runFn cf 100 ⟨1, 14, false, 0, 0, b32⟩ [sc] []).wp (fun c _ => c = .imm (.bl true)) noX := by
  obtain ⟨scd, rfl⟩ := hsc
  obtain ⟨n, m, s1, hs1, n1, n7, hm, ha, e2⟩ := h29 7 s (by decide) (by decide) hs
  have e3 : ∀ st, cf 13 [.obj 0 [], .imm (tabL n m)] st = .ok (.imm (semD n m)) st := fun st => h13 n m false (fun _ => true) st n1 (by omega) hm ha
  have k1 : ∀ st, cf 31 [.imm (tabL n m), .imm (.bl false), .imm (.bl true)] st = .ok (.imm (rowT n (cR n m))) st := fun st => h31 n m false true st (by omega) hm rfl
  have k2 : ∀ st, cf 31 [.imm (tabL n m), .imm (.bl true), .imm (.bl false)] st = .ok (.imm (rowT n (cL n m))) st := fun st => h31 n m true false st (by omega) hm rfl
  have k3 : ∀ st, cf 31 [.imm (tabL n m), .imm (.bl true), .imm (.bl true)] st = .ok (.imm (rowT n (cJ n m))) st := fun st => h31 n m true true st (by omega) hm rfl
  have q5 := fun st => h5 n m st (by omega) hm
  have q6 := fun st => h6 n m st (by omega) hm
  have q7 := fun st => h7 n m st (by omega) hm
  have q8 := fun st => h8 n m st (by omega) hm
  have q9 := fun st => h9 n m st (by omega) hm ha
  have q17 : ∀ (f : Int → Int) st, cf 17 [.imm (rowT n f)] st = .ok (.imm (rowT n f)) st := fun f st => h17 _ st (noS n (by omega) f)
  have hc1 := cR_clo (n := n) (m := m)
  have hc2 := cL_clo (n := n) (m := m)
  clear h29 h13 h31 h5 h6 h7 h8 h9 h17
  have hN : ∀ f : Int → Int, nice 4 (rowT n f) = true := fun f => nice_ints
  refine run_wp rfl rfl ?_
  show (evS cf 100 b32 [.imm scd, .undef, .undef, .undef, .undef, .undef, .undef, .undef, .undef, .undef, .undef, .undef, .undef, .undef] []).wp _
  unfold b32
  walk_at "go"
  apply wp_iteF (x := .imm (.bl false))
  · refine ev_orS (ev_neS (d := rowT n (cR n m)) (by walk_at "ev") (by walk_at "ev") (hN _)) (ev_orS (ev_neS (d := rowT n (cL n m)) (by walk_at "ev") (by walk_at "ev") (hN _)) (ev_neS (d := rowT n (cJ n m)) (by walk_at "ev") (by walk_at "ev") (hN _)))
  · rfl
  walk_at "go"
  apply wp_iteF (x := .imm (.bl false))
  · refine ev_neS (d := rowT n (first n (hB n m))) (by walk_at "ev") ?_ (hN _)
    apply ev_bi1 (x := .own ((vec n fun x => D.int (first n (hB n m) x)).map .imm))
    · apply ev_compV (n := n) (h := fun x => .tup [.int (cR n m x), .int (cL n m x)])
      · walk_at "ev"
      · walk_at "it"
      · omega
      · intro i i0 i1
        walk_at "set"
        have := idx_vec (n := n) (k := fun x => .tup [.int (cR n m x), .int (cL n m x)]) (E := hB n m) (x := i) (fun y => nice_ok (show nice 4 (mapT [_, _]) = true from nice_ints)) (fun y hy => pair_eq eqB_eqv eqB_eqv ⟨i0, i1⟩ hy) ⟨i0, i1⟩ (hB_eqv.refl i ⟨i0, i1⟩)
        have e : ((first n (hB n m) i).toNat : Int) = first n (hB n m) i := Int.toNat_of_nonneg (first_clo hB_eqv.refl i i0 i1).1
        rw [← e]
        exact ev_index (ev_var rfl) rfl (ev_var rfl) this
    · walk_at "bi"
  · rfl
  walk_at "go"
  apply wp_for1 (a := 8) [9, 10] (fun i c s => s = [s1] ∧ c = .own ((vec i fun x => D.int (cJ n m x)).map .imm))
  · walk_at "ev"
  · walk_at "for"
  · exact ⟨rfl, rfl⟩
  · rintro x c g s hx ⟨rfl, rfl⟩
    have hx' : In n x := ⟨by omega, by omega⟩
    walk_at "set"
    apply wp_seq
    apply wp_asg (c := .own (((filt n fun y => eqB n (jM n m) y x).map D.int).map .imm)) (s1 := [s1])
    · have e : (filt n fun y => eqB n (jM n m) y x) = (rng n).filter fun y => decide ((0 : Int) < (((rng n).filter fun z => decide (cR n m z = cR n m x) && decide (cL n m z = cL n m y)).length : Int)) := by
        refine filt_congr fun y hy => ?_
        rw [lenpos, Bool.eq_iff_iff, eqB_j hm ha hx' hy, List.any_eq_true]
        constructor
        · intro h
          obtain ⟨z, hz, h1, h2⟩ := h.symm.dr hm ha hx' hy
          exact ⟨z, rng_mem.mpr hz, by rw [Bool.and_eq_true, decide_eq_true_eq, decide_eq_true_eq]; exact ⟨(cR_eq hm ha hx' hz).mpr h1, (cL_eq hm ha hy hz).mpr h2⟩⟩
        · rintro ⟨z, hz, h⟩
          rw [Bool.and_eq_true, decide_eq_true_eq, decide_eq_true_eq] at h
          have hz := rng_mem.mp hz
          exact (Dr.jr hm ha hx' hy ⟨z, hz, (cR_eq hm ha hx' hz).mp h.1, (cL_eq hm ha hy hz).mp h.2⟩).symm
      rw [e]
      apply ev_compFV (n := n) (h := .int) (g := .int)
      · walk_at "ev"
      · walk_at "it"
      · omega
      · intro y y0 y1
        walk_at "set"
        apply ev_binS (y := .imm (.int 0))
        · apply ev_bi1
          · apply ev_compFV (n := n) (h := .int) (g := .int) (p := fun z => decide (cR n m z = cR n m x) && decide (cL n m z = cL n m y))
            · walk_at "ev"
            · walk_at "it"
            · omega
            · intro z z0 z1
              walk_at "set"
              apply ev_andB
              · exact ev_eqm (by walk_at "ev") (by walk_at "ev") rfl b_eqI
              · intro _
                exact ev_eqm (by walk_at "ev") (by walk_at "ev") rfl b_eqI
            · intro z z0 z1 _
              walk_at "set"
              walk_at "ev"
          · exact len_O (n := ((rng n).filter fun z => decide (cR n m z = cR n m x) && decide (cL n m z = cL n m y)).length) (by rw [List.length_map, List.length_map])
        · walk_at "ev"
        · exact b_gt
      · intro y y0 y1 _
        walk_at "set"
        walk_at "ev"
    · rfl
    walk_at "set"
    walk_at "red"
    walk_at "go"
    apply wp_app (cs := (vec x fun x => D.int (cJ n m x)).map .imm) (c := .imm (.int (cJ n m x)))
    · rfl
    · refine ev_ix (ev_var rfl) ev_con (ix_L (Int.le_refl 0) ?_)
      show ((filt n fun y => eqB n (jM n m) y x).map D.int)[0]? = _
      rw [List.getElem?_map, filt_head hx' (decide_eq_true rfl)]
      rfl
    · rfl
    · exact small_of (by rw [List.length_map, vec_length]; omega)
    walk_at "set"
    walk_at "red"
    walk_at "go"
    exact ⟨rfl, rfl, congrArg Cell.own (app_vec rfl)⟩
  · rintro c g s ⟨rfl, rfl⟩
    walk_at "set"
    walk_at "go"
    have e := (eqN_iff (n := 4) (hN (cJ n m)) (hN (cJ n m))).mpr rfl
    show Cell.imm (D.bl (eqN 4 (rowT n (cJ n m)) (rowT n (cJ n m)) && eqN 4 (rowT n (cJ n m)) (rowT n (cJ n m)))) = _
    rw [e]
    rfl
theorem law_ok : ∀ ns : List Int, ns.length ≤ 63 → (∀ z ∈ ns, Builtin.Int.intBits z ≤ 1048576) → ∃ st, callN F 100 20 32 [.imm (.scr (ns.map .int))] [] = .ok (.imm (.bl true)) st := by
  intro ns hl hb
  obtain ⟨s, hs, e1⟩ := state_run (cf := callN F 100 18) (W := 100) (st := []) (B := 1048577) hl (fun z hz => bits_lt (hb z hz)) (by decide)
  obtain ⟨c, st, e, rfl⟩ := Re.wp_ex (law_run (cf := callN F 100 19) hs e1 (t29 19 (by decide)) (t13 19 (by decide)) (t31 19 (by decide)) (t5 19 (by decide)) (t6 19 (by decide)) (t7 19 (by decide)) (t8 19 (by decide)) (t9 19 (by decide)) (t17 2 19 (by decide) (by decide)) ⟨_, rfl⟩)
  exact ⟨st, e⟩
end Law

set_option maxRecDepth 100000
open PySem PySem.W PyProof.Rows Q Law
set_option maxRecDepth 100000 in
set_option maxHeartbeats 0 in
theorem PySem.Challenge.cw_reesroads_k14_greens_relations_holds : PySem.Challenge.rw_reesroads_k14_greens_relations.Holds := by
  w_on; o_law; k_head; (case hw => w_witness2)
  k_fill
  refine Q.law_walk (l := PySem.Challenge.rw_reesroads_k14_greens_relations) (g := Law.g) (I := Law.I) (W := 100) (k := 20) (f := 32) rfl rfl (fun w h Y => PySem.W.kIn_of Y) rfl ?hb Law.st_all ?hd ?hx rfl ?hp ?hz Law.law_ok
  case hp => intro i e; cases e; rfl
  case hz => exact ⟨rfl, by decide, by decide⟩
  case hb =>
    intro w
    kernel_rfl
  case hd =>
    intro w mg h KX G
    unfold Law.I
    simp only [List.forall_mem_cons]
    refine ⟨?d0, ?d1, ?d2, ?d3, ?d4, ?d5, ?d6, ?d7, ?d8, ?d9, ?d10, ?d11, ?d12, ?d13, ?d14, ?d15, ?d16, ?d17, ?d18, ?d19, ?d20, ?d21, ?d22, ?d23, ?d24, ?d25, ?d26, ?d27, ?d28, ?d29, ?d30, ?d31, ?d32, fun _ h => nomatch h⟩
    case d0 =>
      refine' dyn_glob KX G rfl ?a ?l ?c ?k (fun _ _ _ _ _ _ us hl => match us, hl with | [_], _ => rfl)
      (case a => k_is); (case l => k_is); (case c => k_is); (case k => k_is)
    case d1 =>
      refine' dyn_glob KX G rfl ?a ?l ?c ?k (fun _ _ _ _ _ _ us hl => match us, hl with | [_], _ => rfl)
      (case a => k_is); (case l => k_is); (case c => k_is); (case k => k_is)
    case d2 =>
      refine' dyn_glob KX G rfl ?a ?l ?c ?k (fun _ _ _ _ _ _ us hl => match us, hl with | [_, _], _ => rfl)
      (case a => k_is); (case l => k_is); (case c => k_is); (case k => k_is)
    case d3 =>
      refine' dyn_glob KX G rfl ?a ?l ?c ?k (fun _ _ _ _ _ _ us hl => match us, hl with | [_, _], _ => rfl)
      (case a => k_is); (case l => k_is); (case c => k_is); (case k => k_is)
    case d4 =>
      refine' dyn_glob KX G rfl ?a ?l ?c ?k (fun _ _ _ _ _ _ us hl => match us, hl with | [_, _], _ => rfl)
      (case a => k_is); (case l => k_is); (case c => k_is); (case k => k_is)
    case d5 =>
      refine' dyn_glob KX G rfl ?a ?l ?c ?k (fun _ _ _ _ _ _ us hl => match us, hl with | [_], _ => rfl)
      (case a => k_is); (case l => k_is); (case c => k_is); (case k => k_is)
    case d6 =>
      refine' dyn_glob KX G rfl ?a ?l ?c ?k (fun _ _ _ _ _ _ us hl => match us, hl with | [_], _ => rfl)
      (case a => k_is); (case l => k_is); (case c => k_is); (case k => k_is)
    case d7 =>
      refine' dyn_glob KX G rfl ?a ?l ?c ?k (fun _ _ _ _ _ _ us hl => match us, hl with | [_], _ => rfl)
      (case a => k_is); (case l => k_is); (case c => k_is); (case k => k_is)
    case d8 =>
      refine' dyn_glob KX G rfl ?a ?l ?c ?k (fun _ _ _ _ _ _ us hl => match us, hl with | [_], _ => rfl)
      (case a => k_is); (case l => k_is); (case c => k_is); (case k => k_is)
    case d9 =>
      refine' dyn_glob KX G rfl ?a ?l ?c ?k (fun _ _ _ _ _ _ us hl => match us, hl with | [_], _ => rfl)
      (case a => k_is); (case l => k_is); (case c => k_is); (case k => k_is)
    case d10 =>
      refine' dyn_glob KX G rfl ?a ?l ?c ?k (fun _ _ _ _ _ _ us hl => match us, hl with | [_, _], _ => rfl)
      (case a => k_is); (case l => k_is); (case c => k_is); (case k => k_is)
    case d11 =>
      refine' dyn_glob KX G rfl ?a ?l ?c ?k (fun _ _ _ _ _ _ us hl => match us, hl with | [_], _ => rfl)
      (case a => k_is); (case l => k_is); (case c => k_is); (case k => k_is)
    case d12 =>
      refine' dyn_glob KX G rfl ?a ?l ?c ?k (fun _ _ _ _ _ _ us hl => match us, hl with | [_], _ => rfl)
      (case a => k_is); (case l => k_is); (case c => k_is); (case k => k_is)
    case d13 =>
      refine' dyn_init KX G rfl rfl ?aC ?m ?kC ?a ?f ?l ?c ?k (fun _ _ _ _ _ _ us hl => match us, hl with | [_, _], _ => rfl)
      (case aC => k_is); (case m => k_is); (case kC => k_is); (case a => k_is); (case f => k_is); (case l => k_is); (case c => k_is); (case k => k_is)
    case d14 =>
      refine' dyn_meth rfl rfl ?aC (by decide) ?a ?f ?l ?c ?k (fun _ _ _ _ _ _ us hl => match us, hl with | [_, _], _ => rfl)
      (case aC => k_is); (case a => k_is); (case f => k_is); (case l => k_is); (case c => k_is); (case k => k_is)
    case d15 =>
      refine' dyn_glob KX G rfl ?a ?l ?c ?k (fun _ _ _ _ _ _ us hl => match us, hl with | [_], _ => rfl)
      (case a => k_is); (case l => k_is); (case c => k_is); (case k => k_is)
    case d16 =>
      refine' dyn_glob KX G rfl ?a ?l ?c ?k (fun _ _ _ _ _ _ us hl => match us, hl with | [_], _ => rfl)
      (case a => k_is); (case l => k_is); (case c => k_is); (case k => k_is)
    case d17 =>
      refine' dyn_glob KX G rfl ?a ?l ?c ?k (fun _ _ _ _ _ _ us hl => match us, hl with | [_], _ => rfl)
      (case a => k_is); (case l => k_is); (case c => k_is); (case k => k_is)
    case d18 =>
      refine' dyn_glob KX G rfl ?a ?l ?c ?k (fun _ _ _ _ _ _ us hl => match us, hl with | [_, _], _ => rfl)
      (case a => k_is); (case l => k_is); (case c => k_is); (case k => k_is)
    case d19 =>
      refine' dyn_glob KX G rfl ?a ?l ?c ?k (fun _ _ _ _ _ _ us hl => match us, hl with | [_, _], _ => rfl)
      (case a => k_is); (case l => k_is); (case c => k_is); (case k => k_is)
    case d20 =>
      refine' dyn_glob KX G rfl ?a ?l ?c ?k (fun _ _ _ _ _ _ us hl => match us, hl with | [_, _], _ => rfl)
      (case a => k_is); (case l => k_is); (case c => k_is); (case k => k_is)
    case d21 =>
      refine' dyn_glob KX G rfl ?a ?l ?c ?k (fun _ _ _ _ _ _ us hl => match us, hl with | [_, _], _ => rfl)
      (case a => k_is); (case l => k_is); (case c => k_is); (case k => k_is)
    case d22 =>
      refine' dyn_glob KX G rfl ?a ?l ?c ?k (fun _ _ _ _ _ _ us hl => match us, hl with | [_], _ => rfl)
      (case a => k_is); (case l => k_is); (case c => k_is); (case k => k_is)
    case d23 =>
      refine' dyn_glob KX G rfl ?a ?l ?c ?k (fun _ _ _ _ _ _ us hl => match us, hl with | [_, _], _ => rfl)
      (case a => k_is); (case l => k_is); (case c => k_is); (case k => k_is)
    case d24 =>
      refine' dyn_glob KX G rfl ?a ?l ?c ?k (fun _ _ _ _ _ _ us hl => match us, hl with | [_, _], _ => rfl)
      (case a => k_is); (case l => k_is); (case c => k_is); (case k => k_is)
    case d25 =>
      refine' dyn_glob KX G rfl ?a ?l ?c ?k (fun _ _ _ _ _ _ us hl => match us, hl with | [_, _, _, _, _, _], _ => rfl)
      (case a => k_is); (case l => k_is); (case c => k_is); (case k => k_is)
    case d26 =>
      refine' dyn_glob KX G rfl ?a ?l ?c ?k (fun _ _ _ _ _ _ us hl => match us, hl with | [_, _], _ => rfl)
      (case a => k_is); (case l => k_is); (case c => k_is); (case k => k_is)
    case d27 =>
      refine' dyn_glob KX G rfl ?a ?l ?c ?k (fun _ _ _ _ _ _ us hl => match us, hl with | [_, _], _ => rfl)
      (case a => k_is); (case l => k_is); (case c => k_is); (case k => k_is)
    case d28 =>
      refine' dyn_glob KX G rfl ?a ?l ?c ?k (fun _ _ _ _ _ _ us hl => match us, hl with | [_, _, _], _ => rfl)
      (case a => k_is); (case l => k_is); (case c => k_is); (case k => k_is)
    case d29 =>
      refine' dyn_glob KX G rfl ?a ?l ?c ?k (fun _ _ _ _ _ _ us hl => match us, hl with | [_, _], _ => rfl)
      (case a => k_is); (case l => k_is); (case c => k_is); (case k => k_is)
    case d30 =>
      refine' dyn_glob KX G rfl ?a ?l ?c ?k (fun _ _ _ _ _ _ us hl => match us, hl with | [_, _, _, _], _ => rfl)
      (case a => k_is); (case l => k_is); (case c => k_is); (case k => k_is)
    case d31 =>
      refine' dyn_glob KX G rfl ?a ?l ?c ?k (fun _ _ _ _ _ _ us hl => match us, hl with | [_, _, _], _ => rfl)
      (case a => k_is); (case l => k_is); (case c => k_is); (case k => k_is)
    case d32 =>
      refine' dyn_glob KX G rfl ?a ?l ?c ?k (fun _ _ _ _ _ _ us hl => match us, hl with | [_], _ => rfl)
      (case a => k_is); (case l => k_is); (case c => k_is); (case k => k_is)
  case hx =>
    intro w
    refine ⟨?x0, trivial⟩
    case x0 =>
      refine' dyn_exc (qual := "Refused.__init__") (sN := "self") (q := "reason") (st := (inC (top 4) 0)) ?a ?i ?l ?c ?k (fun _ _ _ _ _ _ us hl => match us, hl with | [_, _], _ => rfl) (by decide +kernel) ?m ?t
      (case a => k_is); (case i => k_is); (case l => k_is); (case c => k_is); (case k => k_is); (case m => kernel_rfl); (case t => kernel_rfl)

