import PyProof.Rows.All
import Wide.All
import OpenK.AllK
import Wide.FinOn
import PyProof.ReprReads
import HandS.ForMost
import HandS.ForExc
import HandS.Deep
import HandS.Wide
import HandS.Lambda
import HandS.TupAny
import HandS.TupMul
import HandS.Gcd
import HandS.IsInst
import HandS.Style
import HandS.SortInts
import HandS.ExcOwn
import HandS.TryOnly
import HandS.Walk
import HandS.Rev
import HandS.RevRange
import HandS.Iter
import HandS.Zip
import KE.GoesZip
import KE.GoesMore
import HandS.Comp
import HandS.ExcSuper
import HandS.Ends
import KE.KSuper
import KE.KExcSuper
import HandS.TryMany
import HandS.ExcField
import HandS.ExcIs
import KE.KExcIs
import HandS.Words
import PyProof.ReprRoads
import HandS.Text
import PyProof.ZipIter
import PyProof.TupleOfSeq
import HandS.WordsExc
import HandS.EndBits
import HandS.EndTab
import HandS.HeadHook1
import HandS.HeadHook2
import HandS.HeadHook3
import HandS.HeadHook4
import KE.KStateDown
import Lean
import HandS.Head0
import HandS.Head1
import HandS.Head2
import HandS.HeadEnd
import HandS.Head3
import PySem.Challenge.RW_withinshapes_k73_texts_refused
set_option Elab.async false
set_option linter.all false
set_option maxRecDepth 100000
/-! Rf1: an own small language (IE, IS) over plain data, and what it evaluates to. -/
namespace Rf
open PySem

abbrev D := PyData

/-- what a name holds: shared data; a list of this frame's own; the law's state; the lambda that was handed in -/
inductive Cell where
  | sh (d : D)
  | ow (ds : List D)
  | st
  | amb

/-- a frame's slots, and how many draws are left to it -/
structure Sl where
  cs : List (Option Cell)
  n : Nat
@[reducible] def Sl.set (st : Sl) (i : Nat) (c : Option Cell) : Sl := ⟨st.cs.set i c, st.n⟩
@[reducible] def Sl.length (st : Sl) : Nat := st.cs.length
@[reducible] def Sl.spent (st : Sl) (n : Nat) : Sl := ⟨st.cs, n⟩

/-- a tree over drawn numbers -/
inductive T (α : Type) where
  | ok (a : α)
  | ex (x : Nat) (args : List D) (st : Sl)
  | bad
  | draw (limit : Nat) (k : Nat → T α)

namespace T
def bind {α β : Type} : T α → (α → T β) → T β
  | ok a, f => f a
  | ex x as st, _ => ex x as st
  | bad, _ => bad
  | draw l k, f => draw l fun n => bind (k n) f
/-- every end is as it should be -/
def All {α : Type} (P : α → Prop) (E : Nat → List D → Sl → Prop) : T α → Prop
  | ok a => P a
  | ex x as st => E x as st
  | bad => False
  | draw l k => ∀ n, n < l → All P E (k n)
theorem all_bind {α β : Type} {P : β → Prop} {E : Nat → List D → Sl → Prop} {f : α → T β} : ∀ (t : T α), All P E (bind t f) → All (fun a => All P E (f a)) E t
  | ok _, h => h
  | ex _ _ _, h => h
  | bad, h => h
  | draw _ k, h => fun n hn => all_bind (k n) (h n hn)
theorem all_bind' {α β : Type} {P : β → Prop} {E : Nat → List D → Sl → Prop} {f : α → T β} : ∀ (t : T α), All (fun a => All P E (f a)) E t → All P E (bind t f)
  | ok _, h => h
  | ex _ _ _, h => h
  | bad, h => h
  | draw _ k, h => fun n hn => all_bind' (k n) (h n hn)
theorem all_mono {α : Type} {P P' : α → Prop} {E E' : Nat → List D → Sl → Prop} (hp : ∀ a, P a → P' a) (he : ∀ x as st, E x as st → E' x as st) : ∀ (t : T α), All P E t → All P' E' t
  | ok _, h => hp _ h
  | ex _ _ _, h => he _ _ _ h
  | bad, h => h
  | draw _ k, h => fun n hn => all_mono hp he (k n) (h n hn)
def opt {α : Type} : Option α → T α
  | some a => ok a
  | none => bad
/-- what is raised is raised at these slots -/
def at_ {α : Type} (st : Sl) : T α → T α
  | ok a => ok a
  | ex x as st' => ex x as (st.spent st'.n)
  | bad => bad
  | draw l k => draw l fun n => at_ st (k n)
theorem all_at {α : Type} {P : α → Prop} {E : Nat → List D → Sl → Prop} {st : Sl} : ∀ (t : T α), All P E (at_ st t) → All P (fun x as st' => E x as (st.spent st'.n)) t
  | ok _, h => h
  | ex _ _ _, h => h
  | bad, h => h
  | draw _ k, h => fun n hn => all_at (k n) (h n hn)
/-- what is raised within a comprehension is not told -/
def noex {α : Type} : T α → T α
  | ok a => ok a
  | ex _ _ _ => bad
  | bad => bad
  | draw l k => draw l fun n => noex (k n)
theorem all_noex {α : Type} {P : α → Prop} {E : Nat → List D → Sl → Prop} : ∀ (t : T α), All P E (noex t) → All P (fun _ _ _ => False) t
  | ok _, h => h
  | ex _ _ _, h => h
  | bad, h => h
  | draw _ k, h => fun n hn => all_noex (k n) (h n hn)
end T

inductive IOp where
  | add | sub | mul | fdiv | mod | pow
inductive ICmp where
  | lt | le | gt | ge | eq | ne | inn | notin
/-- built-ins, by values -/
inductive IB where
  | len | isInt | isBool | isTup | isStr | abs | gcd | int | max | min | sum | tuple | list | sorted | sortset | str | repr | join | split

mutual
inductive IE where
  | con (d : D)
  | var (i : Nat)
  | gl (g : Nat)
  | bin (op : IOp) (a b : IE)
  | neg (a : IE)
  | inv (a : IE)
  | and_ (a b : IE)
  | or_ (a b : IE)
  | cmp (op : ICmp) (a b : IE)
  | chain (o1 o2 : ICmp) (a b c : IE)
  | isN (a : IE)
  | notN (a : IE)
  | ite (c a b : IE)
  | tup (es : IEs)
  | lst (es : IEs)
  | idx (a b : IE)
  | slc (a : IE) (lo hi : IO)
  | rev (a : IE)
  | call (f : Nat) (as : IEs)
  | bi (f : IB) (as : IEs)
  | lc (elt : IE) (tg : List Nat) (it : II) (cond : IO)
  | lam (f : Nat) (body : IE)
  | act (i : Nat)
  | pop (i : Nat)
  | req (i j : Nat)
  | join (sep : Str) (a : IE)
  | kcall (f : Nat) (ks : List Nat) (as bs : IEs)
  | hole
inductive IEs where
  | nil
  | cons (e : IE) (es : IEs)
inductive IO where
  | none
  | some (e : IE)
/-- what is walked -/
inductive II where
  | seq (a : IE)
  | enum (a : IE)
  | zip (as : IEs)
  | revd (a : IE)
  | range (as : IEs)
  | revrange (as : IEs)
  | comb (a : IE) (k : Nat)
end

/-- what an except clause tells: data, a field of the error (by its number), isinstance of the error; the suite stores it or hands it out -/
inductive HP where
  | con (d : D)
  | fld (n : Nat)
  | isi (c : Nat)
inductive HE where
  | one (p : HP)
  | tup (ps : List HP)
  | var (i : Nat)
inductive HSu where
  | asg (j : Nat) (e : HE)
  | ret (e : HE)

mutual
inductive IS where
  | set (i : Nat) (e : IE)
  | setT (is : List Nat) (e : IE)
  | par (is : List Nat) (es : IEs)
  | sub (i : Nat) (ix e : IE)
  | app (i : Nat) (e : IE)
  | ext (i : Nat) (e : IE)
  | expr (e : IE)
  | ret (e : IE)
  | retN
  | ifs (c : IE) (a b : ISs)
  | for_ (tg : List Nat) (it : II) (body : ISs)
  | while_ (c : IE) (body : ISs)
  | raise_ (x : Nat) (as : IEs)
  | try_ (body : ISs) (hs : IHs)
  | pass
  | brk
  | hole
inductive ISs where
  | nil
  | cons (s : IS) (ss : ISs)
inductive IHs where
  | nil
  | cons (x : Nat) (i : Option Nat) (suite : HSu) (hs : IHs)
end

inductive Out where
  | nx
  | ret (c : Cell)
  | brk

/-! ### values -/
def Cell.d? : Cell → Option D
  | .sh d => some d
  | .ow ds => some (.list ds)
  | _ => none
def Cell.sh? : Cell → Option D
  | .sh d => some d
  | _ => none
def Cell.ow? : Cell → Option (List D)
  | .ow ds => some ds
  | _ => none
def Cell.int? : Cell → Option Int
  | .sh (.int i) => some i
  | _ => none
def Cell.bool? : Cell → Option Bool
  | .sh (.bool b) => some b
  | _ => none
def isNone : D → Bool
  | .none => true
  | _ => false
def isAmb : Cell → Option Unit
  | .amb => some ()
  | _ => none
def tupD? : D → Option (List D)
  | .tuple xs => some xs
  | _ => none
def dataC : Cell → Option Cell
  | .sh d => some (.sh d)
  | .ow ds => some (.ow ds)
  | _ => none
/-- made shared -/
def Cell.fz : Cell → Cell
  | .ow ds => .sh (.list ds)
  | c => c
def items? : Cell → Option (List D)
  | .sh (.list ds) => some ds
  | .sh (.tuple ds) => some ds
  | .ow ds => some ds
  | _ => none
def list? : Cell → Option (List D)
  | .sh (.list ds) => some ds
  | .ow ds => some ds
  | _ => none
def ints? : List D → Option (List Int)
  | [] => some []
  | .int i :: r => match ints? r with
    | some is => some (i :: is)
    | none => none
  | _ => none

def strs? : List D → Option (List Str)
  | [] => some []
  | .str x :: r => match strs? r with
    | some xs => some (x :: xs)
    | none => none
  | _ => none
/-- the parameters' values, by the places that tell them -/
def permC (cs : List Cell) : List Nat → Option (List Cell)
  | [] => some []
  | i :: is => match cs[i]?, permC cs is with
    | some c, some r => some (c :: r)
    | _, _ => none
def LINE : Nat := 16777216
def mulOk (a b : Int) : Bool := a.natAbs.log2 + b.natAbs.log2 < 1000000
def opBin : IOp → Cell → Cell → Option Cell
  | .add, .sh (.int a), .sh (.int b) => some (.sh (.int (a + b)))
  | .add, .sh (.str a), .sh (.str b) => if a.length + b.length ≤ LINE then some (.sh (.str (a ++ b))) else none
  | .add, .sh (.tuple a), .sh (.tuple b) => if a.length + b.length ≤ LINE then some (.sh (.tuple (a ++ b))) else none
  | .add, a, b => match a, b with
    | .ow x, .ow y => if x.length + y.length ≤ LINE then some (.ow (x ++ y)) else none
    | .ow x, .sh (.list y) => if x.length + y.length ≤ LINE then some (.ow (x ++ y)) else none
    | .sh (.list x), .ow y => if x.length + y.length ≤ LINE then some (.ow (x ++ y)) else none
    | .sh (.list x), .sh (.list y) => if x.length + y.length ≤ LINE then some (.ow (x ++ y)) else none
    | _, _ => none
  | .sub, .sh (.int a), .sh (.int b) => some (.sh (.int (a - b)))
  | .sub, .sh (.bool a), .sh (.bool b) => some (.sh (.int ((if a then 1 else 0) - (if b then 1 else 0))))
  | .mul, .sh (.int a), .sh (.int b) => if mulOk a b then some (.sh (.int (a * b))) else none
  | .mul, .ow x, .sh (.int k) => if x.length * k.toNat ≤ LINE ∧ k.natAbs < 9223372036854775808 then some (.ow (List.replicate k.toNat x).flatten) else none
  | .mul, .sh (.tuple x), .sh (.int k) => if x ≠ [] ∧ 2 ≤ k ∧ k ≤ 1000 ∧ x.length ≤ 1000 then some (.sh (.tuple (List.replicate k.toNat x).flatten)) else none
  | .fdiv, .sh (.int a), .sh (.int b) => if b ≠ 0 ∧ b.natAbs.log2 < 9000 then some (.sh (.int (a.fdiv b))) else none
  | .mod, .sh (.int a), .sh (.int b) => if b = 0 then none else some (.sh (.int (a.fmod b)))
  | .pow, .sh (.int a), .sh (.int b) => if 0 ≤ b ∧ b ≤ 1000000 ∧ a.natAbs < 18446744073709551616 then some (.sh (.int (a ^ b.toNat))) else none
  | _, _, _ => none

/-- data that == takes: no dict, texts within the line, not too deep -/
def plain (d : D) : Bool := d.canLay0 && decide (d.depth ≤ 64)
/-- flat data, as `in` a tuple takes it -/
def flat : D → Bool
  | .none | .bool _ | .int _ | .str _ => true
  | _ => false
def opCmp : ICmp → Cell → Cell → Option Bool
  | .lt, .sh (.int a), .sh (.int b) => some (decide (a < b))
  | .le, .sh (.int a), .sh (.int b) => some (decide (a ≤ b))
  | .gt, .sh (.int a), .sh (.int b) => some (decide (b < a))
  | .ge, .sh (.int a), .sh (.int b) => some (decide (b ≤ a))
  | .eq, .sh (.int a), .sh (.int b) => some (decide (a = b))
  | .ne, .sh (.int a), .sh (.int b) => some (!decide (a = b))
  | .eq, a, b => match a.d?, b.d? with
    | some x, some y => if plain x && plain y then some (PyData.eqv x y) else none
    | _, _ => none
  | .ne, a, b => match a.d?, b.d? with
    | some x, some y => if plain x && plain y then some (!PyData.eqv x y) else none
    | _, _ => none
  | .inn, a, .sh (.tuple ys) => match a with
    | .sh x => if flat x && ys.all flat then some (ys.any fun y => PyData.eqv y x) else none
    | _ => none
  | .notin, a, .sh (.tuple ys) => match a with
    | .sh x => if flat x && ys.all flat then some (!ys.any fun y => PyData.eqv y x) else none
    | _ => none
  | .inn, a, b => match a.d?, items? b with
    | some x, some ys => if plain x && plain (.list ys) then some (ys.any fun y => PyData.eqv y x) else none
    | _, _ => none
  | .notin, a, b => match a.d?, items? b with
    | some x, some ys => if plain x && plain (.list ys) then some (!ys.any fun y => PyData.eqv y x) else none
    | _, _ => none
  | _, _, _ => none

/-- data whose repr is told: a list or a tuple, no dict within, not too deep, not too long -/
def showOk (d : D) : Bool := (match d with
  | .list _ => true
  | .tuple _ => true
  | _ => false) && d.showable && !d.hasDict && decide (d.depth ≤ 60) && decide (d.shown.length ≤ LINE)
/-- repr(a) == repr(b) -/
def reqOf (a b : Cell) : Option Bool := match a.d?, b.d? with
  | some x, some y => if showOk x && showOk y then some (decide (x.shown = y.shown)) else none
  | _, _ => none
/-- the place of an index -/
def ixOf (n : Nat) (i : Int) : Option Nat := if 0 ≤ i then (if i < n then some i.toNat else none) else if -(n : Int) ≤ i then some (i + n).toNat else none
def opIdx (a b : Cell) : Option D := match b with
  | .sh (.int i) => match a with
    | .sh (.str x) => if x.length ≤ LINE then (match ixOf x.length i with
        | some j => match x.cps.toList[j]? with
          | some c => some (.str ⟨#[c]⟩)
          | none => none
        | none => none) else none
    | a => match items? a with
      | some xs => match ixOf xs.length i with
        | some j => xs[j]?
        | none => none
      | none => none
  | _ => none
def cutIx (n d : Nat) : Option Int → Nat
  | none => d
  | some v => if v < 0 then (v + (n : Int)).toNat else min v.toNat n
def cutOf (xs : List D) (lo hi : Option Int) : List D := (xs.drop (cutIx xs.length 0 lo)).take (cutIx xs.length xs.length hi - cutIx xs.length 0 lo)
def opSlc (a : Cell) (lo hi : Option Int) : Option Cell := match a with
  | .sh (.tuple xs) => some (.sh (.tuple (cutOf xs lo hi)))
  | .sh (.list xs) => some (.ow (cutOf xs lo hi))
  | .ow xs => some (.ow (cutOf xs lo hi))
  | .sh (.str x) => if x.length ≤ LINE then some (.sh (.str ⟨((x.cps.toList.drop (cutIx x.length 0 lo)).take (cutIx x.length x.length hi - cutIx x.length 0 lo)).toArray⟩)) else none
  | _ => none
def opRev : Cell → Option Cell
  | .sh (.list xs) => some (.ow xs.reverse)
  | .ow xs => some (.ow xs.reverse)
  | _ => none
def maxL : Int → List Int → Int
  | m, [] => m
  | m, x :: xs => maxL (if m < x then x else m) xs
def minL : Int → List Int → Int
  | m, [] => m
  | m, x :: xs => minL (if x < m then x else m) xs
def maxC : List Int → Option Cell
  | x :: xs => some (.sh (.int (maxL x xs)))
  | [] => none
def minC : List Int → Option Cell
  | x :: xs => some (.sh (.int (minL x xs)))
  | [] => none
def insI (x : Int) : List Int → List Int
  | [] => [x]
  | y :: ys => if x ≤ y then x :: y :: ys else y :: insI x ys
def srtI : List Int → List Int
  | [] => []
  | x :: xs => insI x (srtI xs)
def opB : IB → List Cell → Option Cell
  | .len, [c] => match c with
    | .sh (.str x) => if x.length ≤ LINE then some (.sh (.int x.length)) else none
    | c => match items? c with
      | some xs => some (.sh (.int xs.length))
      | none => none
  | .isInt, [c] => match c with
    | .sh (.int _) => some (.sh (.bool true))
    | .sh (.bool _) => some (.sh (.bool true))
    | c => match c.d? with
      | some _ => some (.sh (.bool false))
      | none => none
  | .isBool, [c] => match c with
    | .sh (.bool _) => some (.sh (.bool true))
    | c => match c.d? with
      | some _ => some (.sh (.bool false))
      | none => none
  | .isTup, [c] => match c with
    | .sh (.tuple _) => some (.sh (.bool true))
    | c => match c.d? with
      | some _ => some (.sh (.bool false))
      | none => none
  | .isStr, [c] => match c with
    | .sh (.str _) => some (.sh (.bool true))
    | c => match c.d? with
      | some _ => some (.sh (.bool false))
      | none => none
  | .abs, [.sh (.int i)] => some (.sh (.int (if i < 0 then -i else i)))
  | .gcd, [.sh (.int a), .sh (.int b)] => some (.sh (.int ((Nat.gcd a.natAbs b.natAbs : Nat) : Int)))
  | .int, [.sh (.int a)] => some (.sh (.int a))
  | .max, [c] => match list? c with
    | some ds => match ints? ds with
      | some xs => maxC xs
      | none => none
    | none => none
  | .min, [c] => match list? c with
    | some ds => match ints? ds with
      | some xs => minC xs
      | none => none
    | none => none
  | .sum, [c] => match list? c with
    | some ds => match ints? ds with
      | some xs => some (.sh (.int xs.sum))
      | none => none
    | none => none
  | .max, [.sh (.int a), .sh (.int b)] => some (.sh (.int (if b > a then b else a)))
  | .min, [.sh (.int a), .sh (.int b)] => some (.sh (.int (if b < a then b else a)))
  | .tuple, [c] => match items? c with
    | some xs => some (.sh (.tuple xs))
    | none => none
  | .list, [c] => match items? c with
    | some xs => some (.ow xs)
    | none => none
  | .sorted, [c] => match list? c with
    | some ds => match ints? ds with
      | some xs => some (.ow ((srtI xs).map .int))
      | none => none
    | none => none
  | _, _ => none

/-- stores into slots -/
def sets : List Nat → List D → Sl → Option Sl
  | [], [], st => some st
  | i :: is, d :: ds, st => sets is ds (st.set i (some (.sh d)))
  | _, _, _ => none
def setCs : List Nat → List Cell → Sl → Option Sl
  | [], [], st => some st
  | i :: is, c :: cs, st => setCs is cs (st.set i (some c))
  | _, _, _ => none
/-- one name, or a tuple of names -/
def bindT : List Nat → D → Sl → Option Sl
  | [i], d, st => some (st.set i (some (.sh d)))
  | is, d, st => match tupD? d with
    | some xs => sets is xs st
    | none => none
def slot? (st : Sl) (i : Nat) : Option Cell := (st.cs[i]?).bind id
def Sl.forget : List Nat → Sl → Sl
  | [], st => st
  | i :: is, st => Sl.forget is (st.set i none)
def rangeFrom (lo step : Int) : Nat → List D
  | 0 => []
  | n + 1 => .int lo :: rangeFrom (lo + step) step n
def smallI (i : Int) : Bool := decide (-4611686018427387904 ≤ i ∧ i < 4611686018427387904)
def smallS (lo hi c : Int) : Bool := decide (c ≠ 0 ∧ c.natAbs < 1073741824 ∧ 0 ≤ Builtin.Range.rangeSize lo hi c) && Builtin.Range.small lo hi c
def opRange : List Cell → Option (List D)
  | [.sh (.int hi)] => if smallI hi then some (rangeFrom 0 1 hi.toNat) else none
  | [.sh (.int lo), .sh (.int hi)] => if smallI lo && smallI hi then some (rangeFrom lo 1 (hi - lo).toNat) else none
  | [.sh (.int lo), .sh (.int hi), .sh (.int step)] => if smallS lo hi step then some (rangeFrom lo step (Builtin.Range.rangeSize lo hi step).toNat) else none
  | _ => none
def zipD : List (List D) → List D
  | [xs, ys] => (xs.zip ys).map fun p => .tuple [p.1, p.2]
  | [xs, ys, zs] => (xs.zip (ys.zip zs)).map fun p => .tuple [p.1, p.2.1, p.2.2]
  | _ => []
def enumD : Nat → List D → List D
  | _, [] => []
  | n, d :: ds => .tuple [.int n, d] :: enumD (n + 1) ds
def combos : Nat → List D → List (List D)
  | 0, _ => [[]]
  | _ + 1, [] => []
  | k + 1, x :: xs => (combos k xs).map (x :: ·) ++ combos (k + 1) xs
def allItems : List Cell → Option (List (List D))
  | [] => some []
  | c :: cs => match items? c, allItems cs with
    | some x, some r => some (x :: r)
    | _, _ => none

/-! ### the evaluator: cl calls a def, cm calls a def with the ambient lambda, am is the ambient lambda's answer, gl the module's constants -/
structure Env where
  cl : Nat → List Cell → Nat → T (Cell × Nat)
  cm : Nat → T Cell → T Cell
  am : T Cell
  gl : List D
  fuel : Nat

/-- without own lists -/
def shL : List (Option Cell) → List (Option Cell)
  | [] => []
  | some (.ow _) :: r => none :: shL r
  | c :: r => c :: shL r
/-- without own lists, without draws -/
@[reducible] def Sl.shared (st : Sl) : Sl := ⟨shL st.cs, 0⟩
/-- a slot read where nothing keeps it -/
def peek (st : Sl) (i : Nat) : T (Cell × Sl) := (T.opt (slot? st i)).bind fun c => .ok (c, st)
/-- a slot read where it is kept: an own list becomes shared -/
def Cell.kept (c : Cell) (st : Sl) (i : Nat) : Sl := match c with
  | .ow ds => st.set i (some (.sh (.list ds)))
  | _ => st
def take (st : Sl) (i : Nat) : T (Cell × Sl) := (T.opt (slot? st i)).bind fun c => .ok (c.fz, c.kept st i)
/-- the first operand, read again behind the second one -/
def again (a : IE) (c : Cell) (st : Sl) : T Cell := match a with
  | .var i => T.opt (slot? st i)
  | _ => .ok c
def mapL (elt : Sl → T (Cell × Sl)) (test : Sl → T (Cell × Sl)) (tg : List Nat) : List D → List D → Sl → T (List D × Sl)
  | [], acc, st => .ok (acc, st)
  | d :: ds, acc, st => (T.opt (bindT tg d st)).bind fun st1 => (test st1).bind fun p => (T.opt p.1.bool?).bind fun b =>
    cond b ((elt p.2).bind fun q => (T.opt q.1.fz.sh?).bind fun x => if acc.length < LINE then mapL elt test tg ds (acc ++ [x]) (Sl.forget tg q.2) else .bad) (mapL elt test tg ds acc (Sl.forget tg p.2))

mutual
/-- kept: own lists are made shared -/
def ev (G : Env) : IE → Sl → T (Cell × Sl)
  | .con d, st => .ok (.sh d, st)
  | .var i, st => take st i
  | .gl g, st => (T.opt G.gl[g]?).bind fun d => .ok (.sh d, st)
  | .bin op a b, st => (pk G a st).bind fun p => (pk G b p.2).bind fun q => (again a p.1 q.2).bind fun c => (T.opt (opBin op c q.1)).bind fun r => .ok (r, q.2)
  | .neg a, st => (ev G a st).bind fun p => (T.opt p.1.int?).bind fun i => .ok (.sh (.int (-i)), p.2)
  | .inv a, st => (ev G a st).bind fun p => (T.opt p.1.bool?).bind fun b => .ok (.sh (.bool (!b)), p.2)
  | .and_ a b, st => (ev G a st).bind fun p => (T.opt p.1.bool?).bind fun c => cond c (ev G b p.2) (.ok (.sh (.bool false), p.2))
  | .or_ a b, st => (ev G a st).bind fun p => (T.opt p.1.bool?).bind fun c => cond c (.ok (.sh (.bool true), p.2)) (ev G b p.2)
  | .cmp op a b, st => (pk G a st).bind fun p => (pk G b p.2).bind fun q => (again a p.1 q.2).bind fun c => (T.opt (opCmp op c q.1)).bind fun r => .ok (.sh (.bool r), q.2)
  | .chain o1 o2 a b c, st => (ev G a st).bind fun p => (ev G b p.2).bind fun q => (T.opt (opCmp o1 p.1 q.1)).bind fun k =>
      cond k ((ev G c q.2).bind fun r => (T.opt (opCmp o2 q.1 r.1)).bind fun x => .ok (.sh (.bool x), r.2)) (.ok (.sh (.bool false), q.2))
  | .isN a, st => (pk G a st).bind fun p => (T.opt p.1.d?).bind fun d => .ok (.sh (.bool (isNone d)), p.2)
  | .notN a, st => (pk G a st).bind fun p => (T.opt p.1.d?).bind fun d => .ok (.sh (.bool (!isNone d)), p.2)
  | .ite c a b, st => (ev G c st).bind fun p => (T.opt p.1.bool?).bind fun k => cond k (ev G a p.2) (ev G b p.2)
  | .tup es, st => (evs G es st).bind fun p => if p.1.length ≤ LINE then .ok (.sh (.tuple p.1), p.2) else .bad
  | .lst es, st => (evs G es st).bind fun p => if p.1.length ≤ LINE then .ok (.ow p.1, p.2) else .bad
  | .idx a b, st => (pk G a st).bind fun p => (pk G b p.2).bind fun q => (again a p.1 q.2).bind fun c => (T.opt (opIdx c q.1)).bind fun d => .ok (.sh d, q.2)
  | .slc a lo hi, st => (pk G a st).bind fun p => (evo G lo p.2).bind fun q => (evo G hi q.2).bind fun r => (again a p.1 r.2).bind fun c => (T.opt (opSlc c q.1 r.1)).bind fun x => .ok (x, r.2)
  | .rev a, st => (pk G a st).bind fun p => (T.opt (opRev p.1)).bind fun x => .ok (x, p.2)
  | .call f as, st => (evc G as st).bind fun p => ((G.cl f p.1 p.2.n).at_ p.2).bind fun c => .ok (c.1, p.2.spent c.2)
  | .bi f as, st => (evb G as st).bind fun p => (T.opt (opB f p.1)).bind fun c => .ok (c, p.2)
  | .lc elt tg it test, st => (evi G it st).bind fun p => (T.noex (mapL (ev G elt) (evq G test) tg p.1 [] (Sl.forget tg p.2))).bind fun q => .ok (.ow q.1, q.2)
  | .lam f body, st => (T.noex (G.cm f ((ev G body (Sl.shared st)).bind fun p => (T.opt p.1.fz.sh?).bind fun d => .ok (.sh d)))).bind fun c => (T.opt (dataC c)).bind fun c => .ok (c, st)
  | .act i, st => (T.opt ((slot? st i).bind isAmb)).bind fun _ => (G.am.at_ st).bind fun c => .ok (c, st.spent 0)
  | .pop i, st => (T.opt ((slot? st i).bind Cell.ow?)).bind fun ds => (T.opt ds.getLast?).bind fun d => .ok (.sh d, st.set i (some (.ow ds.dropLast)))
  | .req i j, st => (T.opt (slot? st i)).bind fun c => (T.opt (slot? st j)).bind fun d => (T.opt (reqOf c d)).bind fun b => .ok (.sh (.bool b), st)
  | .join sep a, st => (pk G a st).bind fun p => (T.opt (items? p.1)).bind fun ds => (T.opt (strs? ds)).bind fun ys =>
      if (ys.map (·.length)).sum + ys.length * sep.length ≤ LINE then .ok (.sh (.str (Str.join sep ys)), p.2) else .bad
  | .kcall f ks as bs, st => (evc G as st).bind fun p => (evc G bs p.2).bind fun q => (T.opt (permC (p.1 ++ q.1) ks)).bind fun cs => ((G.cl f cs q.2.n).at_ q.2).bind fun c => .ok (c.1, q.2.spent c.2)
  | .hole, _ => .bad
/-- not kept -/
def pk (G : Env) : IE → Sl → T (Cell × Sl)
  | .var i, st => peek st i
  | e, st => ev G e st
def evs (G : Env) : IEs → Sl → T (List D × Sl)
  | .nil, st => .ok ([], st)
  | .cons e es, st => (ev G e st).bind fun p => (T.opt p.1.fz.sh?).bind fun d => (evs G es p.2).bind fun q => .ok (d :: q.1, q.2)
/-- a call's arguments -/
def evc (G : Env) : IEs → Sl → T (List Cell × Sl)
  | .nil, st => .ok ([], st)
  | .cons e es, st => (ev G e st).bind fun p => (evc G es p.2).bind fun q => .ok (p.1.fz :: q.1, q.2)
/-- values that are kept, own lists as they are -/
def evn (G : Env) : IEs → Sl → T (List Cell × Sl)
  | .nil, st => .ok ([], st)
  | .cons e es, st => (ev G e st).bind fun p => (evn G es p.2).bind fun q => .ok (p.1 :: q.1, q.2)
/-- a built-in's arguments -/
def evb (G : Env) : IEs → Sl → T (List Cell × Sl)
  | .nil, st => .ok ([], st)
  | .cons e es, st => (pk G e st).bind fun p => (evb G es p.2).bind fun q => (again e p.1 q.2).bind fun c => .ok (c :: q.1, q.2)
def evo (G : Env) : IO → Sl → T (Option Int × Sl)
  | .none, st => .ok (none, st)
  | .some e, st => (ev G e st).bind fun p => (T.opt p.1.int?).bind fun i => .ok (some i, p.2)
/-- a test, none is True -/
def evq (G : Env) : IO → Sl → T (Cell × Sl)
  | .none, st => .ok (.sh (.bool true), st)
  | .some e, st => ev G e st
def evi (G : Env) : II → Sl → T (List D × Sl)
  | .seq a, st => (ev G a st).bind fun p => (T.opt (items? p.1)).bind fun ds => .ok (ds, p.2)
  | .enum a, st => (ev G a st).bind fun p => (T.opt (items? p.1)).bind fun ds => .ok (enumD 0 ds, p.2)
  | .zip as, st => (evc G as st).bind fun p => (T.opt (allItems p.1)).bind fun ls => .ok (zipD ls, p.2)
  | .revd a, st => (ev G a st).bind fun p => (T.opt (items? p.1)).bind fun ds => .ok (ds.reverse, p.2)
  | .range as, st => (evc G as st).bind fun p => (T.opt (opRange p.1)).bind fun ds => .ok (ds, p.2)
  | .revrange as, st => (evc G as st).bind fun p => (T.opt (opRange p.1)).bind fun ds => .ok (ds.reverse, p.2)
  | .comb a k, st => (ev G a st).bind fun p => (T.opt (items? p.1)).bind fun ds => .ok ((combos k ds).map .tuple, p.2)
end

/-! ### statements -/
/-- what a turn's end means to the loop -/
def turnEnd (o : Out) (st : Sl) (go : T (Out × Sl)) : T (Out × Sl) := match o with
  | .nx => go
  | .brk => .ok (.nx, st)
  | .ret c => .ok (.ret c, st)
def forL (tg : List Nat) (body : Sl → T (Out × Sl)) : List D → Sl → T (Out × Sl)
  | [], st => .ok (.nx, st)
  | d :: ds, st => (T.opt (bindT tg d st)).bind fun st1 => (body st1).bind fun p => turnEnd p.1 p.2 (forL tg body ds p.2)
def whileL (test : Sl → T (Cell × Sl)) (body : Sl → T (Out × Sl)) : Nat → Sl → T (Out × Sl)
  | 0, _ => .bad
  | n + 1, st => (test st).bind fun p => (T.opt p.1.bool?).bind fun b => cond b ((body p.2).bind fun q => turnEnd q.1 q.2 (whileL test body n q.2)) (.ok (.nx, p.2))
def storeI (ds : List D) (c : Cell) (d : D) : Option (List D) := c.int?.bind fun i => (ixOf ds.length i).bind fun j => some (ds.set j d)

/-- class 0 stands above all of the package's errors -/
def subC (x y : Nat) : Bool := x == y || y == 0
def hp (x : Nat) (as : List D) : HP → Option D
  | .con d => some d
  | .fld n => as[n]?
  | .isi c => some (.bool (subC x c))
def hps (x : Nat) (as : List D) : List HP → Option (List D)
  | [] => some []
  | p :: ps => (hp x as p).bind fun d => (hps x as ps).bind fun ds => some (d :: ds)
def he (x : Nat) (as : List D) (st : Sl) : HE → Option D
  | .one p => hp x as p
  | .tup ps => (hps x as ps).map .tuple
  | .var i => (slot? st i).bind Cell.sh?
def gone (st : Sl) : Option Nat → Sl
  | some n => st.set n none
  | none => st
def hsu (x : Nat) (as : List D) (st : Sl) (i : Option Nat) : HSu → T (Out × Sl)
  | .asg j e => (T.opt (he x as st e)).bind fun d => .ok (.nx, gone (st.set j (some (.sh d))) i)
  | .ret e => (T.opt (he x as st e)).bind fun d => .ok (.ret (.sh d), st)
def okIx : Option Nat → Sl → Bool
  | none, _ => true
  | some i, st => decide (i < st.length)
/-- the clauses, one after another -/
def exh : IHs → Nat → List D → Sl → T (Out × Sl)
  | .nil, x, as, st => .ex x as st
  | .cons y i suite hs, x, as, st => cond (subC x y) (cond (okIx i st) (hsu x as (gone st i) i suite) .bad) (exh hs x as st)
def tryT (h : Nat → List D → Sl → T (Out × Sl)) : T (Out × Sl) → T (Out × Sl)
  | .ok p => .ok p
  | .ex x as st => h x as st
  | .bad => .bad
  | .draw l k => .draw l fun n => tryT h (k n)

mutual
def ex (G : Env) : IS → Sl → T (Out × Sl)
  | .set i e, st => (ev G e st).bind fun p => .ok (.nx, p.2.set i (some p.1))
  | .setT is e, st => (ev G e st).bind fun p => (T.opt (items? p.1)).bind fun xs => (T.opt (sets is xs p.2)).bind fun st' => .ok (.nx, st')
  | .par is es, st => (evn G es st).bind fun p => (T.opt (setCs is p.1 p.2)).bind fun st' => .ok (.nx, st')
  | .sub i ix e, st => (ev G e st).bind fun p => (T.opt p.1.fz.sh?).bind fun d => (T.opt (slot? p.2 i)).bind fun _ => (ev G ix p.2).bind fun q => (T.opt ((slot? q.2 i).bind Cell.ow?)).bind fun ds =>
      (T.opt (storeI ds q.1 d)).bind fun ds' => .ok (.nx, q.2.set i (some (.ow ds')))
  | .app i e, st => (T.opt ((slot? st i).bind Cell.ow?)).bind fun _ => (ev G e st).bind fun p => (T.opt p.1.fz.sh?).bind fun d => (T.opt ((slot? p.2 i).bind Cell.ow?)).bind fun ds =>
      if ds.length < LINE then .ok (.nx, p.2.set i (some (.ow (ds ++ [d])))) else .bad
  | .ext i e, st => (T.opt ((slot? st i).bind Cell.ow?)).bind fun _ => (ev G e st).bind fun p => (T.opt (list? p.1)).bind fun xs => (T.opt ((slot? p.2 i).bind Cell.ow?)).bind fun ds =>
      if ds.length + xs.length ≤ LINE then .ok (.nx, p.2.set i (some (.ow (ds ++ xs)))) else .bad
  | .expr e, st => (ev G e st).bind fun p => .ok (.nx, p.2)
  | .ret e, st => (pk G e st).bind fun p => .ok (.ret p.1, p.2)
  | .retN, st => .ok (.ret (.sh .none), st)
  | .ifs c a b, st => (ev G c st).bind fun p => (T.opt p.1.bool?).bind fun k => cond k (exs G a p.2) (exs G b p.2)
  | .for_ tg it body, st => (evi G it st).bind fun p => forL tg (exs G body) p.1 p.2
  | .while_ c body, st => whileL (ev G c) (exs G body) G.fuel st
  | .raise_ x as, st => (evs G as st).bind fun p => .ex x p.1 p.2
  | .try_ body hs, st => tryT (exh hs) (exs G body st)
  | .pass, st => .ok (.nx, st)
  | .brk, st => .ok (.brk, st)
  | .hole, _ => .bad
def exs (G : Env) : ISs → Sl → T (Out × Sl)
  | .nil, st => .ok (.nx, st)
  | .cons s ss, st => (ex G s st).bind fun p => match p.1 with
    | .nx => exs G ss p.2
    | o => .ok (o, p.2)
end

/-! ### programs -/
/-- cost: so many draws at most -/
inductive FD where
  | code (slots params cost : Nat) (body : ISs)
  | draw
structure Pr where
  fs : List FD
  gl : List D
def Out.cell : Out × Sl → T (Cell × Nat)
  | (.ret c, st) => .ok (c, st.n)
  | (.nx, st) => .ok (.sh .none, st.n)
  | (.brk, _) => .bad
/-- a def's slots at its entry -/
def entry (n : Nat) (as : List Cell) (b : Nat) : Sl := ⟨as.map some ++ List.replicate (n - as.length) none, b⟩
def drawn : List Cell → Nat → T (Cell × Nat)
  | [.st, .sh (.int l)], b + 1 => if 0 < l ∧ l.natAbs.log2 < 9000 then .draw l.toNat fun n => .ok (.sh (.int n), b) else .bad
  | _, _ => .bad
/-- what was left aside comes back -/
def T.give {α : Type} (k : Nat) : T (α × Nat) → T (α × Nat)
  | .ok p => .ok (p.1, k + p.2)
  | .ex x as st => .ex x as (st.spent (k + st.n))
  | .bad => .bad
  | .draw l f => .draw l fun n => T.give k (f n)
def runB (P : Pr) (fuel : Nat) (cl : Nat → List Cell → Nat → T (Cell × Nat)) (cm : Nat → T Cell → T Cell) (am : T Cell) (f : Nat) (as : List Cell) (b : Nat) : T (Cell × Nat) := match P.fs[f]? with
  | some (.code n m c body) => if as.length = m then cond (Nat.ble c b) (T.give (b - c) ((exs ⟨cl, cm, am, P.gl, fuel⟩ body (entry n as c)).bind Out.cell)) .bad else .bad
  | some .draw => drawn as b
  | none => .bad
/-- the def f at a depth; with a lambda -/
def run (P : Pr) (fuel : Nat) : Nat → (Nat → List Cell → Nat → T (Cell × Nat)) × (Nat → T Cell → T Cell)
  | 0 => (fun _ _ _ => .bad, fun _ _ => .bad)
  | k + 1 =>
    let r := run P fuel k
    (fun f as b => runB P fuel r.1 r.2 .bad f as b, fun f am => (runB P fuel r.1 r.2 am f [.amb] 0).bind fun p => .ok p.1)
end Rf
set_option Elab.async false
set_option linter.all false
set_option maxRecDepth 100000
set_option maxHeartbeats 1000000
/-! Rf2: how data stand in the heap; what a step leaves. -/
namespace Rf
open PySem PySem.Spec PyProof.Rows
open L2 hiding St

abbrev Sg := L2.St

/-- what never changes -/
def Im : HO → Prop
  | .tup _ => True
  | .frz _ _ => True
  | .ext _ => True
  | _ => False
def Imm (H H' : Hp) : Prop := ∀ a o, H a = some o → Im o → H' a = some o
theorem Imm.refl (H : Hp) : Imm H H := fun _ _ h _ => h
theorem Imm.trans {H H1 H2 : Hp} (a : Imm H H1) (b : Imm H1 H2) : Imm H H2 := fun c o h i => b c o (a c o h i) i
theorem Imm.upd {H : Hp} {a : Addr} {o : HO} (h : H a = none) : Imm H (upd H a o) := fun b u e _ => by
  rw [upd_ne (ne_of_none e h)]; exact e

/-- a list that is never changed any more -/
def SqF (H : Hp) (a : Addr) (xs : List V) : Prop := ∃ o, H a = some (.frz o (.lst xs))
theorem SqF.sq {K : PySem.W.Frag} {H : Hp} {a : Addr} {xs : List V} (h : SqF H a xs) : SqL K H a xs := .inl (.inr h)
theorem SqF.imm {H H' : Hp} {a : Addr} {xs : List V} (h : SqF H a xs) (i : Imm H H') : SqF H' a xs := by
  obtain ⟨o, h⟩ := h
  exact ⟨o, i _ _ h trivial⟩
theorem sqT_imm {K : PySem.W.Frag} {H H' : Hp} {a : Addr} {xs : List V} (h : SqT K H a xs) (i : Imm H H') : SqT K H' a xs := by
  rcases h with (h | ⟨o, h⟩) | h
  · exact .inl (.inl (i _ _ h trivial))
  · exact .inl (.inr ⟨o, i _ _ h trivial⟩)
  · exact .inr h

mutual
/-- data that stand for good -/
inductive DF (K : PySem.W.Frag) (H : Hp) : V → D → Prop
  | non : DF K H .non .none
  | bl (b : Bool) : DF K H (.bl b) (.bool b)
  | int (i : Int) : DF K H (.int i) (.int i)
  | str (x : Str) : DF K H (.str x) (.str x)
  | lst {a : Addr} {xs : List V} {ds : List D} : SqF H a xs → DFs K H xs ds → DF K H (.ref a) (.list ds)
  | tup {a : Addr} {xs : List V} {ds : List D} : SqT K H a xs → DFs K H xs ds → DF K H (.ref a) (.tuple ds)
inductive DFs (K : PySem.W.Frag) (H : Hp) : List V → List D → Prop
  | nil : DFs K H [] []
  | cons {v : V} {vs : List V} {d : D} {ds : List D} : DF K H v d → DFs K H vs ds → DFs K H (v :: vs) (d :: ds)
end

section
variable {K : PySem.W.Frag} {H H' : Hp}
mutual
theorem DF.imm (i : Imm H H') : ∀ (d : D) (v : V), DF K H v d → DF K H' v d
  | .none, _, h => by cases h; exact .non
  | .bool _, _, h => by cases h; exact .bl _
  | .int _, _, h => by cases h; exact .int _
  | .str _, _, h => by cases h; exact .str _
  | .list ds, _, h => by
    cases h with
    | lst h1 h2 => exact .lst (h1.imm i) (DFs.imm i ds _ h2)
  | .tuple ds, _, h => by
    cases h with
    | tup h1 h2 => exact .tup (sqT_imm h1 i) (DFs.imm i ds _ h2)
  | .dict _, _, h => by cases h
theorem DFs.imm (i : Imm H H') : ∀ (ds : List D) (vs : List V), DFs K H vs ds → DFs K H' vs ds
  | [], _, h => by cases h; exact .nil
  | d :: ds, _, h => by
    cases h with
    | cons h1 h2 => exact .cons (DF.imm i d _ h1) (DFs.imm i ds _ h2)
end
mutual
theorem DF.dp : ∀ (d : D) (v : V), DF K H v d → Dp K H v d
  | .none, _, h => by cases h; exact .non
  | .bool _, _, h => by cases h; exact .bl _
  | .int _, _, h => by cases h; exact .int _
  | .str _, _, h => by cases h; exact .str _
  | .list ds, _, h => by
    cases h with
    | lst h1 h2 => exact .lst h1.sq (DFs.dp ds _ h2)
  | .tuple ds, _, h => by
    cases h with
    | tup h1 h2 => exact .tup h1 (DFs.dp ds _ h2)
  | .dict _, _, h => by cases h
theorem DFs.dp : ∀ (ds : List D) (vs : List V), DFs K H vs ds → DpAll K H vs ds
  | [], _, h => by cases h; exact .nil
  | d :: ds, _, h => by
    cases h with
    | cons h1 h2 => exact .cons (DF.dp d _ h1) (DFs.dp ds _ h2)
end
theorem DFs.length : ∀ {ds : List D} {vs : List V}, DFs K H vs ds → vs.length = ds.length
  | [], _, h => by cases h; rfl
  | _ :: ds, _, h => by
    cases h with
    | cons h1 h2 => rw [List.length_cons, List.length_cons, DFs.length h2]
theorem DFs.get : ∀ {ds : List D} {vs : List V} {i : Nat} {d : D}, DFs K H vs ds → ds[i]? = some d → ∃ v, vs[i]? = some v ∧ DF K H v d
  | [], _, i, d, _, e => by simp at e
  | _ :: ds, _, 0, d, h, e => by
    cases h with
    | cons h1 h2 =>
      simp at e; subst e
      exact ⟨_, rfl, h1⟩
  | _ :: ds, _, i + 1, d, h, e => by
    cases h with
    | cons h1 h2 =>
      obtain ⟨v, q, r⟩ := DFs.get (i := i) h2 (by simpa using e)
      exact ⟨v, by simpa using q, r⟩
theorem DFs.getV : ∀ {ds : List D} {vs : List V} {i : Nat} {v : V}, DFs K H vs ds → vs[i]? = some v → ∃ d, ds[i]? = some d ∧ DF K H v d
  | [], _, i, d, h, e => by cases h; simp at e
  | _ :: ds, _, 0, d, h, e => by
    cases h with
    | cons h1 h2 =>
      simp at e; subst e
      exact ⟨_, rfl, h1⟩
  | _ :: ds, _, i + 1, d, h, e => by
    cases h with
    | cons h1 h2 =>
      obtain ⟨v, q, r⟩ := DFs.getV (i := i) h2 (by simpa using e)
      exact ⟨v, by simpa using q, r⟩
theorem DFs.append : ∀ {ds es : List D} {vs us : List V}, DFs K H vs ds → DFs K H us es → DFs K H (vs ++ us) (ds ++ es)
  | [], _, _, _, h, g => by cases h; exact g
  | _ :: ds, _, _, _, h, g => by
    cases h with
    | cons h1 h2 => exact .cons h1 (DFs.append h2 g)
theorem DFs.drop : ∀ {ds : List D} {vs : List V} (n : Nat), DFs K H vs ds → DFs K H (vs.drop n) (ds.drop n)
  | _, _, 0, h => by simpa using h
  | [], _, n + 1, h => by cases h; exact .nil
  | _ :: ds, _, n + 1, h => by
    cases h with
    | cons h1 h2 => simpa using DFs.drop n h2
theorem DFs.take : ∀ {ds : List D} {vs : List V} (n : Nat), DFs K H vs ds → DFs K H (vs.take n) (ds.take n)
  | _, _, 0, h => by simpa using DFs.nil
  | [], _, n + 1, h => by cases h; exact .nil
  | _ :: ds, _, n + 1, h => by
    cases h with
    | cons h1 h2 => simpa using DFs.cons h1 (DFs.take n h2)
theorem DFs.reverse : ∀ {ds : List D} {vs : List V}, DFs K H vs ds → DFs K H vs.reverse ds.reverse
  | [], _, h => by cases h; exact .nil
  | _ :: ds, _, h => by
    cases h with
    | cons h1 h2 =>
      rw [List.reverse_cons, List.reverse_cons]
      exact (DFs.reverse h2).append (.cons h1 .nil)
theorem DFs.set : ∀ {ds : List D} {vs : List V} (i : Nat) {v : V} {d : D}, DF K H v d → DFs K H vs ds → DFs K H (vs.set i v) (ds.set i d)
  | [], _, i, v, d, r, h => by cases h; exact .nil
  | _ :: ds, _, 0, v, d, r, h => by
    cases h with
    | cons h1 h2 => exact .cons r h2
  | _ :: ds, _, i + 1, v, d, r, h => by
    cases h with
    | cons h1 h2 => exact .cons h1 (DFs.set i r h2)
theorem DFs.ints : ∀ {ds : List D} {vs : List V} {is : List Int}, DFs K H vs ds → ints? ds = some is → vs = is.map V.int
  | [], _, is, h, e => by
    cases h
    simp [ints?] at e; subst e
    rfl
  | d :: ds, _, is, h, e => by
    cases h with
    | cons h1 h2 =>
      cases d with
      | int i =>
        unfold ints? at e
        cases q : ints? ds with
        | none => rw [q] at e; cases e
        | some js =>
          rw [q] at e
          cases e
          cases h1
          rw [DFs.ints h2 q, List.map_cons]
      | _ => simp [ints?] at e
end

/-- the frame's law: the state's address, the addresses that its calls change, what is true of it -/
structure Lw where
  S : Addr
  A : Addr → Prop
  ok : Nat → Hp → Prop
  keep : ∀ n H H', ok n H → (∀ a, A a → H' a = H a) → Imm H H' → ok n H'
  mono : ∀ n m H, ok n H → m ≤ n → ok m H
  there : ∀ n H a, ok n H → A a → ∃ o, H a = some o ∧ ¬ Im o
  /-- the ambient lambda -/
  am : Addr
  /-- the tables of the lambdas' code objects -/
  T : List (Addr × Str)
  tA : ∀ p ∈ T, A p.1
  tabs : ∀ n H, ok n H → LamX.Tabs T H
  tabk : ∀ n H H1 (p : Addr × Str), ok n H → p ∈ T → (∀ b o, b ≠ p.1 → H b = some o → H1 b = some o) → LamX.Tabs T H1 → ok n H1

/-- all that was tracked is as it was, the law's own apart -/
def Ext (L : Lw) (H H' : Hp) : Prop := ∀ a o, H a = some o → ¬ L.A a → H' a = some o
theorem Ext.refl (L : Lw) (H : Hp) : Ext L H H := fun _ _ h _ => h
theorem Ext.trans {L : Lw} {H H1 H2 : Hp} (a : Ext L H H1) (b : Ext L H1 H2) : Ext L H H2 := fun c o h i => b c o (a c o h i) i
/-- with m draws more left aside -/
def Lw.shift (L : Lw) (m : Nat) : Lw := ⟨L.S, L.A, fun n H => L.ok (m + n) H, fun n H H' => L.keep (m + n) H H', fun n k H h l => L.mono (m + n) (m + k) H h (Nat.add_le_add_left l m), fun n H => L.there (m + n) H, L.am, L.T, L.tA, fun n H => L.tabs (m + n) H, fun n H H1 p => L.tabk (m + n) H H1 p⟩
theorem Ext.imm {L : Lw} {n : Nat} {H H' : Hp} (e : Ext L H H') (k : L.ok n H) : Imm H H' := fun a o h i => e a o h fun z => by
  obtain ⟨u, q, n⟩ := L.there _ H a k z
  rw [h] at q; cases q; exact n i

/-- a value that a cell tells -/
def RepV (K : PySem.W.Frag) (L : Lw) (H : Hp) (v : V) : Cell → Prop
  | .sh d => DF K H v d
  | .ow ds => ∃ a xs, v = .ref a ∧ H a = some (.lst xs) ∧ DFs K H xs ds
  | .st => v = .ref L.S
  | .amb => v = .ref L.am

theorem Lw.shift_shift (L : Lw) (m k : Nat) : (L.shift m).shift k = L.shift (m + k) := by
  simp only [Lw.shift, Nat.add_assoc]
theorem Lw.shift_zero (L : Lw) : L.shift 0 = L := by
  simp only [Lw.shift, Nat.zero_add]
theorem Sl.length_set {st : Sl} {i : Nat} {c : Option Cell} : (st.set i c).length = st.length := List.length_set
/-- an address that a slot owns -/
def Owns (σ : Sg) (st : Sl) (a : Addr) : Prop := ∃ (i : Nat) (ds : List D), st.cs[i]? = some (some (Cell.ow ds)) ∧ σ[i]? = some (some (V.ref a))

/-- the slots and what is told of them; B: the heap at the frame's entry -/
structure RelS (K : PySem.W.Frag) (L : Lw) (B H : Hp) (σ : Sg) (st : Sl) : Prop where
  ext : Ext L B H
  law : L.ok st.n H
  len : st.length = σ.length
  slot : ∀ (i : Nat) (c : Cell), st.cs[i]? = some (some c) → ∃ v, σ[i]? = some (some v) ∧ RepV K L H v c
  own : ∀ a, Owns σ st a → B a = none ∧ ¬ L.A a
  dist : ∀ (i j : Nat) (ds es : List D) (a : Addr), st.cs[i]? = some (some (Cell.ow ds)) → st.cs[j]? = some (some (Cell.ow es)) → σ[i]? = some (some (V.ref a)) → σ[j]? = some (some (V.ref a)) → i = j

/-- a step of an expression -/
structure Stp (L : Lw) (σ : Sg) (st st' : Sl) (H H' : Hp) : Prop where
  fr : ∀ a o, H a = some o → ¬ L.A a → ¬ Owns σ st a → H' a = some o
  imm : Imm H H'
  sub : ∀ a, Owns σ st' a → Owns σ st a
  up : ∀ a o, H a = some o → ∃ u, H' a = some u
theorem Stp.refl {L : Lw} {σ : Sg} {st : Sl} {H : Hp} : Stp L σ st st H H := ⟨fun _ _ h _ _ => h, Imm.refl _, fun _ h => h, fun _ o h => ⟨o, h⟩⟩
theorem Stp.trans {L : Lw} {σ : Sg} {st st1 st2 : Sl} {H H1 H2 : Hp} (a : Stp L σ st st1 H H1) (b : Stp L σ st1 st2 H1 H2) : Stp L σ st st2 H H2 :=
  ⟨fun c o h n m => b.fr c o (a.fr c o h n m) n fun z => m (a.sub c z), a.imm.trans b.imm, fun c z => a.sub c (b.sub c z), fun c o h => let ⟨u, e⟩ := a.up c o h; b.up c u e⟩
theorem Stp.none {L : Lw} {σ : Sg} {st st' : Sl} {H H' : Hp} (s : Stp L σ st st' H H') {a : Addr} (h : H' a = none) : H a = none := by
  cases q : H a with
  | none => rfl
  | some o =>
    obtain ⟨u, e⟩ := s.up a o q
    rw [h] at e; cases e

/-- what a kept value's own list leans on: it is nobody else's -/
def Fresh (L : Lw) (B H : Hp) (σ : Sg) (st : Sl) (v : V) : Cell → Prop
  | .ow _ => ∀ a, v = .ref a → H a = none ∧ B a = none ∧ ¬ L.A a ∧ ¬ Owns σ st a
  | _ => True

section
variable {K : PySem.W.Frag} {L : Lw} {B H0 H H' : Hp} {σ : Sg} {st st' : Sl} {v : V} {c : Cell}
/-- a kept value stands -/
theorem RepV.stp (r : RepV K L H v c) (f : Fresh L B H0 σ st v c) (s : Stp L σ st st' H H') : RepV K L H' v c ∧ Fresh L B H0 σ st' v c := by
  cases c with
  | sh d => exact ⟨DF.imm s.imm d v r, trivial⟩
  | ow ds =>
    obtain ⟨a, xs, rfl, h, q⟩ := r
    obtain ⟨f0, f1, f2, f3⟩ := f a rfl
    refine ⟨⟨a, xs, rfl, s.fr a _ h f2 f3, DFs.imm s.imm ds xs q⟩, fun b e => ?_⟩
    cases e
    exact ⟨f0, f1, f2, fun z => f3 (s.sub a z)⟩
  | st => exact ⟨r, trivial⟩
  | amb => exact ⟨r, trivial⟩
/-- a cell's data, as == reads them -/
theorem RepV.dp {d : D} (r : RepV K L H v c) (e : c.d? = some d) : Dp K H v d := by
  cases c with
  | sh x =>
    cases e
    exact DF.dp _ v r
  | ow ds =>
    cases e
    obtain ⟨a, xs, rfl, h, q⟩ := r
    exact .lst (SqL.of h) (DFs.dp ds xs q)
  | st => cases e
  | amb => cases e
/-- a list's place -/
theorem RepV.lst {ds : List D} (r : RepV K L H v c) (e : c = .ow ds ∨ c = .sh (.list ds)) : ∃ a xs, v = .ref a ∧ Rd H a (.lst xs) ∧ DFs K H xs ds := by
  rcases e with rfl | rfl
  · obtain ⟨a, xs, rfl, h, q⟩ := r
    exact ⟨a, xs, rfl, .inl h, q⟩
  · cases r with
    | lst h1 h2 => exact ⟨_, _, rfl, .inr h1, h2⟩
/-- a list, a tuple, read -/
theorem RepV.items {ds : List D} (r : RepV K L H v c) (e : items? c = some ds) : ∃ a xs, v = .ref a ∧ (SqL K H a xs ∨ SqT K H a xs) ∧ DFs K H xs ds := by
  cases c with
  | sh x =>
    cases x with
    | list es =>
      cases e
      cases r with
      | lst h1 h2 => exact ⟨_, _, rfl, .inl h1.sq, h2⟩
    | tuple es =>
      cases e
      cases r with
      | tup h1 h2 => exact ⟨_, _, rfl, .inr h1, h2⟩
    | _ => cases e
  | ow es =>
    cases e
    obtain ⟨a, xs, rfl, h, q⟩ := r
    exact ⟨a, xs, rfl, .inl (SqL.of h), q⟩
  | st => cases e
  | amb => cases e
end

section
variable {X : Cx} {pins : List (Addr × Obj)} {σ : Sg} {H : Hp} {s : Shared} {a : Addr} {xs : List V}
/-- a list of ours is changed by nobody from now on -/
theorem freeze (I : Inv X pins σ H s) (ha : H a = some (.lst xs)) : ∃ o, Inv X pins σ (upd H a (.frz o (.lst xs))) s := by
  obtain ⟨z, its, n, r, e⟩ := I.hok a _ ha
  refine ⟨{ cls := .type "list", data := .seq its.toArray n }, I.step (H' := upd H a (.frz { cls := .type "list", data := .seq its.toArray n } (.lst xs))) (g' := s.gens) (d' := s.drawn) (t' := s.toks) (h' := s.heap) (ch := []) (fun b hb => absurd hb (by simp)) (fun b o _ _ _ q _ => q) (fun b o _ _ _ q _ => ⟨o.slots, q⟩) (fun b o _ q n => ?_) (fun b o _ q => ⟨o, q⟩)
    (fun b ys q => ?_) (fun b o u q => ?_) (fun b ps q => ⟨#[], ?_⟩) (fun m hm => hm) ?_ I.bare⟩
  · rw [upd_ne (fun z => by rw [z, ha] at n; cases n)]; exact n
  · rw [upd_ne (ne_of q ha (by intro z; cases z))]; exact q
  · rw [upd_ne (ne_of q ha (by intro z; cases z))]; exact q
  · rw [upd_ne (ne_of q ha (by intro z; cases z)), q]; simp
  · intro b u q
    by_cases hb : b = a
    · subst hb
      rw [upd_same] at q
      cases q
      exact ⟨e, z, its, n, r, e⟩
    · rw [upd_ne hb] at q
      refine (I.hok b u q).stay (fun c w _ q => q) (fun c q => ?_) fun c ys q => ?_
      · rw [upd_ne (ne_of q ha (by intro z; cases z))]; exact q
      · rw [upd_ne (ne_of q ha (by intro z; cases z))]; exact q
end
end Rf
set_option Elab.async false
set_option linter.all false
set_option maxRecDepth 100000
set_option maxHeartbeats 1000000
/-! Rf3: the operators, by values. -/
namespace Rf
open PySem PySem.Spec PyProof.Rows
open L2 hiding St

/-- the heap is as it was, or has one new object -/
inductive NewS (H : Hp) : Hp → Prop
  | same : NewS H H
  | new (p : Addr) (o : HO) (h : H p = none) : NewS H (upd H p o)
/-- an own list is a new one -/
def OwnN (H : Hp) (v : V) : Cell → Prop
  | .ow _ => ∀ a, v = .ref a → H a = none
  | _ => True
/-- two operands, by what is told of them -/
def rOp (K : PySem.W.Frag) (L : Lw) (f : Cell → Cell → Option Cell) : R2 := fun x y H Q =>
  ∃ c d r, f c d = some r ∧ RepV K L H x c ∧ RepV K L H y d ∧ ∀ v H', NewS H H' → RepV K L H' v r → OwnN H v r → Q v H'
def opOf : IOp → Operator
  | .add => .Add
  | .sub => .Sub
  | .mul => .Mult
  | .fdiv => .FloorDiv
  | .mod => .Mod
  | .pow => .Pow

section
variable {X : Cx} {L : Lw} {pins : List (Addr × Obj)} {s : Shared} {σ : Sg} {H : Hp}
theorem rd_lst {a : Addr} {xs : List V} (I : Inv X pins σ H s) (r : Rd H a (.lst xs)) : xs.length ≤ sizeLine ∧ ∃ (its : List Value) (n : Nat), Vals xs its ∧ s.heap.get? a = some { cls := .type "list", data := .seq its.toArray n } := r.ok I.hok
theorem line_eq : LINE = sizeLine := by rw [sizeLine_eq]; rfl
theorem cat_list {a b : Addr} {xs ys : List V} {Q : VK} (I : Inv X pins σ H s) (ha : Rd H a (.lst xs)) (hb : Rd H b (.lst ys)) (hz : xs.length + ys.length ≤ sizeLine) (q : ∀ p, H p = none → Q (.ref p) (upd H p (.lst (xs ++ ys)))) :
    wpAny (model X.prog X.w) X.A (binaryOp .Add (.ref a) (.ref b)) (EP X pins σ Q) X.xe s := by
  obtain ⟨z, its, n, r, e⟩ := rd_lst I ha
  obtain ⟨z2, its2, n2, r2, e2⟩ := rd_lst I hb
  have h1 := r.length
  have h2 := r2.length
  refine PySem.P.add_list e e2 ?_ (by rw [List.size_toArray, List.size_toArray]; omega)
  have ea : its.toArray ++ its2.toArray = (its ++ its2).toArray := by simp
  rw [ea]
  exact ⟨.ref _, _, I.lnew (t' := s.toks) (r.append r2) (by rw [List.length_append]; omega), rfl, q _ I.fresh⟩
end

theorem flat_rep {K : PySem.W.Frag} {H : Hp} {xs : List V} {ds : List D} (h : DFs K H xs ds) : ∀ n : Nat, DFs K H (List.replicate n xs).flatten (List.replicate n ds).flatten
  | 0 => .nil
  | n + 1 => by
    rw [List.replicate_succ, List.replicate_succ, List.flatten_cons, List.flatten_cons]
    exact h.append (flat_rep h n)
theorem sh_int {K : PySem.W.Frag} {L : Lw} {H : Hp} {v : V} {i : Int} (r : RepV K L H v (.sh (.int i))) : v = .int i := by cases r; rfl
theorem sh_str {K : PySem.W.Frag} {L : Lw} {H : Hp} {v : V} {x : Str} (r : RepV K L H v (.sh (.str x))) : v = .str x := by cases r; rfl
theorem sh_bl {K : PySem.W.Frag} {L : Lw} {H : Hp} {v : V} {b : Bool} (r : RepV K L H v (.sh (.bool b))) : v = .bl b := by cases r; rfl
theorem sh_tup {K : PySem.W.Frag} {L : Lw} {H : Hp} {v : V} {ds : List D} (r : RepV K L H v (.sh (.tuple ds))) : ∃ a xs, v = .ref a ∧ SqT K H a xs ∧ DFs K H xs ds := by
  cases r with
  | tup h1 h2 => exact ⟨_, _, rfl, h1, h2⟩

section
variable {X : Cx} {L : Lw}
theorem op_addA : OpR X (binaryOp .Add) (rOp X.K L (opBin .add)) := by
  intro pins s σ H x y v u Q I rx ry ⟨c, d, r, e, rc, rd, q⟩
  have lst : ∀ {xs ys : List D}, (c = .ow xs ∨ c = .sh (.list xs)) → (d = .ow ys ∨ d = .sh (.list ys)) → (if xs.length + ys.length ≤ LINE then some (Cell.ow (xs ++ ys)) else none) = some r →
      wpAny (model X.prog X.w) X.A (binaryOp .Add v u) (EP X pins σ Q) X.xe s := fun {xs ys} hc hd e => by
    obtain ⟨a, vs, rfl, h1, g1⟩ := rc.lst hc
    obtain ⟨b, us, rfl, h2, g2⟩ := rd.lst hd
    cases rx
    cases ry
    split at e
    · rename_i hz
      cases e
      refine cat_list I h1 h2 (by rw [g1.length, g2.length, ← line_eq]; exact hz) fun p hp => q _ _ (.new p _ hp) ⟨p, _, rfl, upd_same, (DFs.imm (Imm.upd hp) _ _ g1).append (DFs.imm (Imm.upd hp) _ _ g2)⟩ fun a e => by cases e; exact hp
    · cases e
  cases c with
  | ow xs =>
    cases d with
    | ow ys => exact lst (.inl rfl) (.inl rfl) e
    | sh y =>
      cases y with
      | list ys => exact lst (.inl rfl) (.inr rfl) e
      | _ => simp [opBin] at e
    | _ => simp [opBin] at e
  | sh x' =>
    cases x' with
    | list xs =>
      cases d with
      | ow ys => exact lst (.inr rfl) (.inl rfl) e
      | sh y =>
        cases y with
        | list ys => exact lst (.inr rfl) (.inr rfl) e
        | _ => simp [opBin] at e
      | _ => simp [opBin] at e
    | int i =>
      cases d with
      | sh y =>
        cases y with
        | int j =>
          cases sh_int rc
          cases sh_int rd
          simp [opBin] at e
          subst e
          exact op_add pins s σ H _ _ v u Q I rx ry ⟨i, j, rfl, rfl, q _ _ .same (.int _) trivial⟩
        | _ => simp [opBin] at e
      | _ => simp [opBin] at e
    | str i =>
      cases d with
      | sh y =>
        cases y with
        | str j =>
          cases sh_str rc
          cases sh_str rd
          simp only [opBin] at e
          split at e
          · rename_i hz
            cases e
            exact op_add_str pins s σ H _ _ v u Q I rx ry ⟨i, j, rfl, rfl, by rw [← line_eq]; exact hz, q _ _ .same (.str _) trivial⟩
          · cases e
        | _ => simp [opBin] at e
      | _ => simp [opBin] at e
    | tuple xs =>
      cases d with
      | sh y =>
        cases y with
        | tuple ys =>
          obtain ⟨a, vs, rfl, h1, g1⟩ := sh_tup rc
          obtain ⟨b, us, rfl, h2, g2⟩ := sh_tup rd
          simp only [opBin] at e
          split at e
          · rename_i hz
            cases e
            refine op_catA pins s σ H _ _ v u Q I rx ry ⟨a, b, vs, us, rfl, rfl, h1, h2, by rw [g1.length, g2.length, ← line_eq]; exact hz, fun z => ?_, fun _ z => ?_, fun _ _ p hp => ?_⟩
            · subst z
              have : xs = [] := by
                have := g1.length
                exact List.eq_nil_of_length_eq_zero this.symm
              subst this
              exact q _ _ .same (.tup h2 g2) trivial
            · subst z
              have : ys = [] := by
                have := g2.length
                exact List.eq_nil_of_length_eq_zero this.symm
              subst this
              rw [List.append_nil] at q
              exact q _ _ .same (.tup h1 g1) trivial
            · exact q _ _ (.new p _ hp) (.tup (SqT.of upd_same) ((DFs.imm (Imm.upd hp) _ _ g1).append (DFs.imm (Imm.upd hp) _ _ g2))) trivial
          · cases e
        | _ => simp [opBin] at e
      | _ => simp [opBin] at e
    | _ => cases d with
      | sh y => cases y <;> simp [opBin] at e
      | _ => simp [opBin] at e
  | _ => simp [opBin] at e
theorem op_subA : OpR X (binaryOp .Sub) (rOp X.K L (opBin .sub)) := by
  intro pins s σ H x y v u Q I rx ry ⟨c, d, r, e, rc, rd, q⟩
  cases c with
  | sh x' =>
    cases d with
    | sh y' =>
      cases x' with
      | int i => cases y' with
        | int j =>
          cases sh_int rc
          cases sh_int rd
          simp [opBin] at e
          subst e
          exact op_sub pins s σ H _ _ v u Q I rx ry ⟨i, j, rfl, rfl, q _ _ .same (.int _) trivial⟩
        | _ => simp [opBin] at e
      | bool i => cases y' with
        | bool j =>
          cases sh_bl rc
          cases sh_bl rd
          simp only [opBin] at e
          cases e
          cases rx
          cases ry
          exact sub_bool ⟨.int (b2i i - b2i j), H, I.tok _, ⟨_, rfl⟩, q _ _ .same (.int _) trivial⟩
        | _ => simp [opBin] at e
      | _ => cases y' <;> simp [opBin] at e
    | _ => cases x' <;> simp [opBin] at e
  | _ => simp [opBin] at e
theorem op_mulA : OpR X (binaryOp .Mult) (rOp X.K L (opBin .mul)) := by
  intro pins s σ H x y v u Q I rx ry ⟨c, d, r, e, rc, rd, q⟩
  cases c with
  | sh x' =>
    cases d with
    | sh y' =>
      cases x' with
      | int i => cases y' with
        | int j =>
          cases sh_int rc
          cases sh_int rd
          simp only [opBin] at e
          split at e
          · rename_i hz
            cases e
            exact op_mulW pins s σ H _ _ v u Q I rx ry ⟨i, j, rfl, rfl, (of_decide_eq_true hz : i.natAbs.log2 + j.natAbs.log2 < 1000000), q _ _ .same (.int _) trivial⟩
          · cases e
        | _ => simp [opBin] at e
      | tuple ds => cases y' with
        | int k =>
          obtain ⟨a, vs, rfl, h, g⟩ := sh_tup rc
          cases sh_int rd
          simp only [opBin] at e
          split at e
          · rename_i hz
            cases e
            obtain ⟨z1, z2, z3, z4⟩ := hz
            refine op_repT pins s σ H _ _ v u Q I rx ry ⟨a, k, vs, rfl, rfl, h, fun z => ?_, z2, z3, by rw [g.length]; exact z4, fun p hp => q _ _ (.new p _ hp) (.tup (SqT.of upd_same) (flat_rep (DFs.imm (Imm.upd hp) _ _ g) _)) trivial⟩
            have := g.length
            rw [z] at this
            exact z1 (List.eq_nil_of_length_eq_zero this.symm)
          · cases e
        | _ => simp [opBin] at e
      | _ => cases y' <;> simp [opBin] at e
    | _ => cases x' <;> simp [opBin] at e
  | ow xs =>
    cases d with
    | sh y' => cases y' with
      | int k =>
        obtain ⟨a, vs, rfl, h, g⟩ := rc
        cases sh_int rd
        simp only [opBin] at e
        split at e
        · rename_i hz
          cases e
          refine op_rep pins s σ H _ _ v u Q I rx ry ⟨a, k, vs, rfl, rfl, h, by omega, by omega, by rw [g.length, ← line_eq]; exact hz.1, fun p hp => q _ _ (.new p _ hp) ⟨p, _, rfl, upd_same, flat_rep (DFs.imm (Imm.upd hp) _ _ g) _⟩ fun a e => by cases e; exact hp⟩
        · cases e
      | _ => simp [opBin] at e
    | _ => simp [opBin] at e
  | _ => simp [opBin] at e
theorem op_fdivA : OpR X (binaryOp .FloorDiv) (rOp X.K L (opBin .fdiv)) := by
  intro pins s σ H x y v u Q I rx ry ⟨c, d, r, e, rc, rd, q⟩
  cases c with
  | sh x' =>
    cases d with
    | sh y' =>
      cases x' with
      | int i => cases y' with
        | int j =>
          cases sh_int rc
          cases sh_int rd
          simp only [opBin] at e
          split at e
          · rename_i hz
            cases e
            obtain ⟨t, rfl⟩ := rx
            obtain ⟨t', rfl⟩ := ry
            exact floordiv_int hz.1 ⟨.int _, H, I.tok _, ⟨_, rfl⟩, q _ _ .same (.int _) trivial⟩ (.inl (PyProof.noPylong_of_log2 hz.2))
          · cases e
        | _ => simp [opBin] at e
      | _ => cases y' <;> simp [opBin] at e
    | _ => cases x' <;> simp [opBin] at e
  | _ => simp [opBin] at e
theorem op_modA : OpR X (binaryOp .Mod) (rOp X.K L (opBin .mod)) := by
  intro pins s σ H x y v u Q I rx ry ⟨c, d, r, e, rc, rd, q⟩
  cases c with
  | sh x' =>
    cases d with
    | sh y' =>
      cases x' with
      | int i => cases y' with
        | int j =>
          cases sh_int rc
          cases sh_int rd
          simp only [opBin] at e
          split at e
          · cases e
          · rename_i hz
            cases e
            exact op_modN pins s σ H _ _ v u Q I rx ry ⟨i, j, rfl, rfl, hz, q _ _ .same (.int _) trivial⟩
        | _ => simp [opBin] at e
      | _ => cases y' <;> simp [opBin] at e
    | _ => cases x' <;> simp [opBin] at e
  | _ => simp [opBin] at e
theorem op_powA : OpR X (binaryOp .Pow) (rOp X.K L (opBin .pow)) := by
  intro pins s σ H x y v u Q I rx ry ⟨c, d, r, e, rc, rd, q⟩
  cases c with
  | sh x' =>
    cases d with
    | sh y' =>
      cases x' with
      | int i => cases y' with
        | int j =>
          cases sh_int rc
          cases sh_int rd
          simp only [opBin] at e
          split at e
          · rename_i hz
            cases e
            exact op_pow pins s σ H _ _ v u Q I rx ry ⟨i, j, rfl, rfl, ⟨hz.1, hz.2.1, by have := hz.2.2; omega⟩, q _ _ .same (.int _) trivial⟩
          · cases e
        | _ => simp [opBin] at e
      | _ => cases y' <;> simp [opBin] at e
    | _ => cases x' <;> simp [opBin] at e
  | _ => simp [opBin] at e
theorem op_binA (op : IOp) : OpR X (binaryOp (opOf op)) (rOp X.K L (opBin op)) := by
  cases op with
  | add => exact op_addA
  | sub => exact op_subA
  | mul => exact op_mulA
  | fdiv => exact op_fdivA
  | mod => exact op_modA
  | pow => exact op_powA
end
end Rf
set_option Elab.async false
set_option linter.all false
set_option maxRecDepth 100000
set_option maxHeartbeats 1000000
/-! Rf4: comparisons, indices, slices, built-ins, by values. -/
namespace Rf
open PySem PySem.Spec PyProof.Rows
open L2 hiding St

def rCmp (K : PySem.W.Frag) (L : Lw) (f : Cell → Cell → Option Bool) : R2 := fun x y H Q => ∃ c d b, f c d = some b ∧ RepV K L H x c ∧ RepV K L H y d ∧ Q (.bl b) H
def cmpOf : ICmp → CmpOp
  | .lt => .Lt
  | .le => .LtE
  | .gt => .Gt
  | .ge => .GtE
  | .eq => .Eq
  | .ne => .NotEq
  | .inn => .In
  | .notin => .NotIn
theorem two_int {f : Cell → Cell → Option Bool} {p : Int → Int → Bool} (hf : ∀ c d b, f c d = some b → ∃ i j, c = .sh (.int i) ∧ d = .sh (.int j) ∧ b = p i j) {K : PySem.W.Frag} {L : Lw} {H : Hp} {x y : V} {Q : VK} (h : rCmp K L f x y H Q) :
    ∃ i j, x = .int i ∧ y = .int j ∧ Q (.bl (p i j)) H := by
  obtain ⟨c, d, b, e, rc, rd, q⟩ := h
  obtain ⟨i, j, rfl, rfl, rfl⟩ := hf c d b e
  exact ⟨i, j, sh_int rc, sh_int rd, q⟩
theorem plain_sh {d : D} (h : plain d = true) : SeqAt.shaped d = true := h

theorem flat_dp {K : PySem.W.Frag} {H : Hp} {v : V} {d : D} (r : DF K H v d) (f : flat d = true) : flatV v = true := by
  cases d with
  | none => cases r; rfl
  | bool b => cases r; rfl
  | int i => cases r; rfl
  | str x => cases r; rfl
  | _ => cases f
theorem flat_eqv {K : PySem.W.Frag} {H : Hp} {v u : V} {d e : D} (r : DF K H v d) (q : DF K H u e) (f : flat d = true) (g : flat e = true) : eqV v u = PyData.eqv d e := by
  cases d with
  | none => cases r; cases e <;> first | (cases g; done) | (cases q; simp [eqV, PyData.eqv])
  | bool b => cases r; cases e <;> first | (cases g; done) | (cases q; simp [eqV, PyData.eqv])
  | int i => cases r; cases e <;> first | (cases g; done) | (cases q; simp [eqV, PyData.eqv])
  | str x => cases r; cases e <;> first | (cases g; done) | (cases q; simp [eqV, PyData.eqv])
  | _ => cases f
theorem flat_all {K : PySem.W.Frag} {H : Hp} {v : V} {d : D} (r : DF K H v d) (f : flat d = true) : ∀ {es : List D} {us : List V}, DFs K H us es → es.all flat = true → us.all flatV = true ∧ (us.any fun y => eqV y v) = es.any fun y => PyData.eqv y d
  | [], _, h, _ => by cases h; exact ⟨rfl, rfl⟩
  | e :: es, _, h, g => by
    cases h with
    | cons h1 h2 =>
      rw [List.all_cons, Bool.and_eq_true] at g
      obtain ⟨q1, q2⟩ := flat_all r f h2 g.2
      rw [List.all_cons, List.any_cons, List.any_cons, q1, q2, flat_eqv h1 r g.1 f, flat_dp h1 g.1]
      exact ⟨rfl, rfl⟩

section
variable {X : Cx} {L : Lw}
theorem op_eqA (hu : X.A.units + 64 < cLine) : OpR X (compareOp .Eq) (rCmp X.K L (opCmp .eq)) := by
  intro pins s σ H x y v u Q I rx ry ⟨c, d, b, e, rc, rd, q⟩
  have gen : (match c.d?, d.d? with
      | some x, some y => if plain x && plain y then some (PyData.eqv x y) else none
      | _, _ => none) = some b → wpAny (model X.prog X.w) X.A (compareOp .Eq v u) (EP X pins σ Q) X.xe s := fun e => by
    cases hc : c.d? with
    | none => rw [hc] at e; cases e
    | some a =>
      cases hd : d.d? with
      | none => rw [hc, hd] at e; cases e
      | some a' =>
        rw [hc, hd] at e
        dsimp only at e
        split at e
        · rename_i hp
          rw [Bool.and_eq_true] at hp
          cases e
          exact op_eqD hu pins s σ H x y v u Q I rx ry ⟨a, a', rc.dp hc, rd.dp hd, hp.1, hp.2, q⟩
        · cases e
  cases c with
  | sh x' =>
    cases x' with
    | int i =>
      cases d with
      | sh y' =>
        cases y' with
        | int j =>
          simp only [opCmp] at e
          cases e
          exact op_eqD hu pins s σ H x y v u Q I rx ry ⟨.int i, .int j, rc.dp rfl, rd.dp rfl, rfl, rfl, by simpa [PyData.eqv, Bool.beq_eq_decide_eq] using q⟩
        | _ => exact gen e
      | _ => exact gen e
    | _ => exact gen e
  | _ => exact gen e
theorem op_neA (hu : X.A.units + 64 < cLine) : OpR X (compareOp .NotEq) (rCmp X.K L (opCmp .ne)) := by
  intro pins s σ H x y v u Q I rx ry ⟨c, d, b, e, rc, rd, q⟩
  have gen : (match c.d?, d.d? with
      | some x, some y => if plain x && plain y then some (!PyData.eqv x y) else none
      | _, _ => none) = some b → wpAny (model X.prog X.w) X.A (compareOp .NotEq v u) (EP X pins σ Q) X.xe s := fun e => by
    cases hc : c.d? with
    | none => rw [hc] at e; cases e
    | some a =>
      cases hd : d.d? with
      | none => rw [hc, hd] at e; cases e
      | some a' =>
        rw [hc, hd] at e
        dsimp only at e
        split at e
        · rename_i hp
          rw [Bool.and_eq_true] at hp
          cases e
          exact op_neD hu pins s σ H x y v u Q I rx ry ⟨a, a', rc.dp hc, rd.dp hd, hp.1, hp.2, q⟩
        · cases e
  cases c with
  | sh x' =>
    cases x' with
    | int i =>
      cases d with
      | sh y' =>
        cases y' with
        | int j =>
          simp only [opCmp] at e
          cases e
          exact op_neD hu pins s σ H x y v u Q I rx ry ⟨.int i, .int j, rc.dp rfl, rd.dp rfl, rfl, rfl, by simpa [PyData.eqv, Bool.beq_eq_decide_eq] using q⟩
        | _ => exact gen e
      | _ => exact gen e
    | _ => exact gen e
  | _ => exact gen e
theorem cmp_ints {op : ICmp} (h : op = .lt ∨ op = .le ∨ op = .gt ∨ op = .ge) {c d : Cell} {b : Bool} (e : opCmp op c d = some b) : ∃ i j, c = .sh (.int i) ∧ d = .sh (.int j) := by
  cases c with
  | sh x =>
    cases x with
    | int i =>
      cases d with
      | sh y =>
        cases y with
        | int j => exact ⟨i, j, rfl, rfl⟩
        | _ => rcases h with rfl | rfl | rfl | rfl <;> simp [opCmp] at e
      | _ => rcases h with rfl | rfl | rfl | rfl <;> simp [opCmp] at e
    | _ => rcases h with rfl | rfl | rfl | rfl <;> simp [opCmp] at e
  | _ => rcases h with rfl | rfl | rfl | rfl <;> simp [opCmp] at e
theorem two_cmp {op : ICmp} {p : Int → Int → Bool} (h : op = .lt ∨ op = .le ∨ op = .gt ∨ op = .ge) (hp : ∀ i j, opCmp op (.sh (.int i)) (.sh (.int j)) = some (p i j)) {K : PySem.W.Frag} {H : Hp} {x y : V} {Q : VK} (q : rCmp K L (opCmp op) x y H Q) :
    ∃ i j, x = .int i ∧ y = .int j ∧ Q (.bl (p i j)) H := by
  obtain ⟨c, d, b, e, rc, rd, q⟩ := q
  obtain ⟨i, j, rfl, rfl⟩ := cmp_ints h e
  rw [hp] at e
  cases e
  exact ⟨i, j, sh_int rc, sh_int rd, q⟩
theorem op_ltA : OpR X (compareOp .Lt) (rCmp X.K L (opCmp .lt)) := fun pins s σ H x y v u Q I rx ry h => op_lt pins s σ H x y v u Q I rx ry (two_cmp (.inl rfl) (fun _ _ => rfl) h)
theorem op_leA : OpR X (compareOp .LtE) (rCmp X.K L (opCmp .le)) := fun pins s σ H x y v u Q I rx ry h => op_le pins s σ H x y v u Q I rx ry (two_cmp (.inr (.inl rfl)) (fun _ _ => rfl) h)
theorem op_gtA : OpR X (compareOp .Gt) (rCmp X.K L (opCmp .gt)) := fun pins s σ H x y v u Q I rx ry h => op_gt pins s σ H x y v u Q I rx ry (two_cmp (.inr (.inr (.inl rfl))) (fun _ _ => rfl) h)
theorem op_geA : OpR X (compareOp .GtE) (rCmp X.K L (opCmp .ge)) := fun pins s σ H x y v u Q I rx ry h => op_ge pins s σ H x y v u Q I rx ry (two_cmp (.inr (.inr (.inr rfl))) (fun _ _ => rfl) h)
theorem op_inA (hu : X.A.units + 65 < cLine) : OpR X (compareOp .In) (rCmp X.K L (opCmp .inn)) := by
  intro pins s σ H x y v u Q I rx ry ⟨c, d, b, e, rc, rd, q⟩
  have gen : (d = .ow [] ∨ (∃ ys, d = .ow ys) ∨ ∃ ys, d = .sh (.list ys)) → (match c.d?, items? d with
      | some x, some ys => if plain x && plain (.list ys) then some (ys.any fun y => PyData.eqv y x) else none
      | _, _ => none) = some b → wpAny (model X.prog X.w) X.A (compareOp .In v u) (EP X pins σ Q) X.xe s := fun hl e => by
    cases hc : c.d? with
    | none => rw [hc] at e; cases e
    | some a =>
      cases hd : items? d with
      | none => rw [hc, hd] at e; cases e
      | some ys =>
        rw [hc, hd] at e
        dsimp only at e
        split at e
        · rename_i hp
          rw [Bool.and_eq_true] at hp
          cases e
          have hd2 : d.d? = some (.list ys) := by
            rcases hl with rfl | ⟨zs, rfl⟩ | ⟨zs, rfl⟩ <;> (cases hd; rfl)
          exact op_inD hu pins s σ H x y v u Q I rx ry ⟨a, ys, rc.dp hc, rd.dp hd2, hp.1, hp.2, q⟩
        · cases e
  cases d with
  | ow ys => exact gen (.inr (.inl ⟨ys, rfl⟩)) e
  | sh y' =>
    cases y' with
    | list ys => exact gen (.inr (.inr ⟨ys, rfl⟩)) e
    | tuple ys =>
      cases c with
      | sh x' =>
        simp only [opCmp] at e
        split at e
        · rename_i hf
          rw [Bool.and_eq_true] at hf
          cases e
          obtain ⟨a, us, rfl, h1, g1⟩ := sh_tup rd
          obtain ⟨k1, k2⟩ := flat_all rc hf.1 g1 hf.2
          refine op_in_seq pins s σ H x _ v u Q I rx ry ⟨a, us, rfl, .inr h1, flat_dp rc hf.1, k1, ?_⟩
          show Q (.bl (us.any fun y => eqV y x)) H
          rw [k2]
          exact q
        · cases e
      | _ => simp [opCmp] at e
    | _ => simp [opCmp, items?] at e <;> (cases hc : c.d? <;> simp [hc] at e)
  | _ => simp [opCmp, items?] at e <;> (cases hc : c.d? <;> simp [hc] at e)
theorem op_notinA (hu : X.A.units + 65 < cLine) : OpR X (compareOp .NotIn) (rCmp X.K L (opCmp .notin)) := by
  intro pins s σ H x y v u Q I rx ry ⟨c, d, b, e, rc, rd, q⟩
  have gen : (d = .ow [] ∨ (∃ ys, d = .ow ys) ∨ ∃ ys, d = .sh (.list ys)) → (match c.d?, items? d with
      | some x, some ys => if plain x && plain (.list ys) then some (!ys.any fun y => PyData.eqv y x) else none
      | _, _ => none) = some b → wpAny (model X.prog X.w) X.A (compareOp .NotIn v u) (EP X pins σ Q) X.xe s := fun hl e => by
    cases hc : c.d? with
    | none => rw [hc] at e; cases e
    | some a =>
      cases hd : items? d with
      | none => rw [hc, hd] at e; cases e
      | some ys =>
        rw [hc, hd] at e
        dsimp only at e
        split at e
        · rename_i hp
          rw [Bool.and_eq_true] at hp
          cases e
          have hd2 : d.d? = some (.list ys) := by
            rcases hl with rfl | ⟨zs, rfl⟩ | ⟨zs, rfl⟩ <;> (cases hd; rfl)
          exact op_notInD hu pins s σ H x y v u Q I rx ry ⟨a, ys, rc.dp hc, rd.dp hd2, hp.1, hp.2, q⟩
        · cases e
  cases d with
  | ow ys => exact gen (.inr (.inl ⟨ys, rfl⟩)) e
  | sh y' =>
    cases y' with
    | list ys => exact gen (.inr (.inr ⟨ys, rfl⟩)) e
    | tuple ys =>
      cases c with
      | sh x' =>
        simp only [opCmp] at e
        split at e
        · rename_i hf
          rw [Bool.and_eq_true] at hf
          cases e
          obtain ⟨a, us, rfl, h1, g1⟩ := sh_tup rd
          obtain ⟨k1, k2⟩ := flat_all rc hf.1 g1 hf.2
          refine op_notIn_seq pins s σ H x _ v u Q I rx ry ⟨a, us, rfl, .inr h1, flat_dp rc hf.1, k1, ?_⟩
          show Q (.bl (!(us.any fun y => eqV y x))) H
          rw [k2]
          exact q
        · cases e
      | _ => simp [opCmp] at e
    | _ => simp [opCmp, items?] at e <;> (cases hc : c.d? <;> simp [hc] at e)
  | _ => simp [opCmp, items?] at e <;> (cases hc : c.d? <;> simp [hc] at e)
theorem op_cmpA (hu : X.A.units + 65 < cLine) (op : ICmp) : OpR X (compareOp (cmpOf op)) (rCmp X.K L (opCmp op)) := by
  cases op with
  | lt => exact op_ltA
  | le => exact op_leA
  | gt => exact op_gtA
  | ge => exact op_geA
  | eq => exact op_eqA (by omega)
  | ne => exact op_neA (by omega)
  | inn => exact op_inA hu
  | notin => exact op_notinA hu

/-! ### an item -/
theorem ixOf_eq (n : Nat) (i : Int) : ixOf n i = ixN n i := rfl
def rIdx (K : PySem.W.Frag) (L : Lw) : R2 := fun x y H Q => ∃ c d r, opIdx c d = some r ∧ RepV K L H x c ∧ RepV K L H y d ∧ ∀ v, DF K H v r → Q v H
theorem ix_A : IxR X (rIdx X.K L) := by
  intro value slice pins s σ H x y v u Q I rx ry ⟨c, d, r, e, rc, rd, q⟩ hs
  have gen : ∀ i : Int, d = .sh (.int i) → (match items? c with
      | some xs => match ixOf xs.length i with
        | some j => xs[j]?
        | none => none
      | none => none) = some r → wpAny (model X.prog X.w) X.A (subscriptTail value slice v u) (EP X pins σ Q) X.xe s := fun i hi e' => by
    subst hi
    cases sh_int rd
    cases hc : items? c with
    | none => rw [hc] at e'; cases e'
    | some ds =>
      rw [hc] at e'
      dsimp only at e'
      obtain ⟨a, xs, rfl, hq, g⟩ := rc.items hc
      cases hj : ixOf ds.length i with
      | none => rw [hj] at e'; cases e'
      | some j =>
        rw [hj] at e'
        obtain ⟨w, hw, rw'⟩ := g.get e'
        have hat : atI xs i = some w := by
          unfold atI
          rw [g.length, ← ixOf_eq, hj]
          exact hw
        rcases hq with hq | hq
        · exact ix_list value slice pins s σ H _ _ v u Q I rx ry ⟨a, xs, i, w, rfl, rfl, hq, hat, q w rw'⟩ hs
        · exact ix_tup value slice pins s σ H _ _ v u Q I rx ry ⟨a, xs, i, w, rfl, rfl, hq, hat, q w rw'⟩ hs
  cases d with
  | sh y' =>
    cases y' with
    | int i =>
      cases c with
      | sh x' =>
        cases x' with
        | str z =>
          simp only [opIdx] at e
          split at e
          · rename_i hz
            cases sh_str rc
            cases sh_int rd
            cases hj : ixOf z.length i with
            | none => rw [hj] at e; cases e
            | some j =>
              rw [hj] at e
              dsimp only at e
              cases hc : z.cps.toList[j]? with
              | none => rw [hc] at e; cases e
              | some w =>
                rw [hc] at e
                cases e
                refine ix_str value slice pins s σ H _ _ v u Q I rx ry ⟨z, i, w, rfl, rfl, by rw [← line_eq]; exact hz, ?_, q _ (.str _)⟩ hs
                unfold atI
                rw [Array.length_toList, show z.cps.size = z.length from rfl, ← ixOf_eq, hj]
                exact hc
          · cases e
        | _ => exact gen i rfl e
      | _ => exact gen i rfl e
    | _ => simp [opIdx] at e
  | _ => simp [opIdx] at e

/-! ### slices -/
theorem cutIx_eq (n d : Nat) (o : Option Int) : cutIx n d o = HT.sIx n d o := by cases o <;> rfl
theorem cut_rep {K : PySem.W.Frag} {H : Hp} {xs : List V} {ds : List D} (g : DFs K H xs ds) (lo hi : Option Int) : DFs K H (cutV xs lo hi) (cutOf ds lo hi) := by
  unfold cutV cutOf
  rw [cutIx_eq, cutIx_eq, g.length]
  exact DFs.take _ (DFs.drop _ g)
theorem cut_whole {ds : List D} {n : Nat} {lo hi : Option Int} (hn : n = ds.length) (h : HT.sIx n 0 lo = 0 ∧ HT.sIx n n hi = n) : cutOf ds lo hi = ds := by
  subst hn
  unfold cutOf
  rw [cutIx_eq, cutIx_eq, h.1, h.2]
  simp
def rSlc (K : PySem.W.Frag) (L : Lw) : V → Option Int → Option Int → Hp → VK → Prop := fun x lo hi H Q => ∃ c r, opSlc c lo hi = some r ∧ RepV K L H x c ∧ ∀ v H', NewS H H' → RepV K L H' v r → OwnN H v r → Q v H'
theorem sl_A : SlR X (rSlc X.K L) := by
  intro pins s σ H x v vl vu lo hi sl Q I rx hs pl pu ⟨c, r, e, rc, q⟩
  have lst : ∀ ds : List D, (c = .ow ds ∨ c = .sh (.list ds)) → r = .ow (cutOf ds lo hi) → ∃ T id, typeLookup (.type T) "__getitem__" = pure (some (.builtin id)) ∧ s.TypeIs v T ∧ wpAny (model X.prog X.w) X.A (getItem v (.ref sl)) (EP X pins σ Q) X.xe s := fun ds hc hr => by
    subst hr
    obtain ⟨a, xs, rfl, h, g⟩ := rc.lst hc
    exact sl_list pins s σ H _ v vl vu lo hi sl Q I rx hs pl pu ⟨a, xs, rfl, .inl h, fun p hp => q _ _ (.new p _ hp) ⟨p, _, rfl, upd_same, cut_rep (DFs.imm (Imm.upd hp) _ _ g) lo hi⟩ fun a e => by cases e; exact hp⟩
  cases c with
  | ow ds => exact lst ds (.inl rfl) (Option.some.inj e).symm
  | sh x' =>
    cases x' with
    | list ds => exact lst ds (.inr rfl) (Option.some.inj e).symm
    | tuple ds =>
      cases Option.some.inj e
      obtain ⟨a, xs, rfl, h, g⟩ := sh_tup rc
      refine sl_tupA pins s σ H _ v vl vu lo hi sl Q I rx hs pl pu ⟨a, xs, rfl, h, fun z => ?_, fun _ p hp => ?_⟩
      · rw [cut_whole g.length z] at q
        exact q _ _ .same (.tup h g) trivial
      · exact q _ _ (.new p _ hp) (.tup (SqT.of upd_same) (cut_rep (DFs.imm (Imm.upd hp) _ _ g) lo hi)) trivial
    | str z =>
      simp only [opSlc] at e
      split at e
      · rename_i hz
        cases e
        cases sh_str rc
        refine sl_str pins s σ H _ v vl vu lo hi sl Q I rx hs pl pu ⟨z, rfl, by rw [← line_eq]; exact hz, ?_⟩
        have := q (.str (cutS z lo hi)) H .same (by
          unfold cutS
          rw [cutIx_eq, cutIx_eq]
          exact .str _) trivial
        exact this
      · cases e
    | _ => cases e
  | _ => cases e
end
end Rf
set_option Elab.async false
set_option linter.all false
set_option maxRecDepth 100000
set_option maxHeartbeats 1000000
/-! Rf5: built-ins; the readings of the evaluator; expressions, one by one. -/
namespace Rf
open PySem PySem.Spec PyProof.Rows
open L2 hiding St

inductive Reps (K : PySem.W.Frag) (L : Lw) (H : Hp) : List V → List Cell → Prop
  | nil : Reps K L H [] []
  | cons {v : V} {vs : List V} {c : Cell} {cs : List Cell} : RepV K L H v c → Reps K L H vs cs → Reps K L H (v :: vs) (c :: cs)
theorem Reps.one {K : PySem.W.Frag} {L : Lw} {H : Hp} {vs : List V} {c : Cell} (h : Reps K L H vs [c]) : ∃ v, vs = [v] ∧ RepV K L H v c := by
  cases h with
  | cons h1 h2 => cases h2; exact ⟨_, rfl, h1⟩
theorem Reps.two {K : PySem.W.Frag} {L : Lw} {H : Hp} {vs : List V} {c d : Cell} (h : Reps K L H vs [c, d]) : ∃ v u, vs = [v, u] ∧ RepV K L H v c ∧ RepV K L H u d := by
  cases h with
  | cons h1 h2 =>
    obtain ⟨u, rfl, h3⟩ := h2.one
    exact ⟨_, _, rfl, h1, h3⟩
/-- a built-in, by what is told of its arguments -/
def rBi (K : PySem.W.Frag) (L : Lw) (f : IB) : List V → Hp → VK → Prop := fun vs H Q => ∃ cs r, opB f cs = some r ∧ Reps K L H vs cs ∧ ∀ v H', NewS H H' → RepV K L H' v r → OwnN H v r → Q v H'

section
variable {K : PySem.W.Frag} {L : Lw} {H : Hp} {v : V} {c : Cell}
theorem RepV.list {ds : List D} (r : RepV K L H v c) (e : list? c = some ds) : ∃ a xs, v = .ref a ∧ SqL K H a xs ∧ DFs K H xs ds := by
  cases c with
  | sh x =>
    cases x with
    | list es =>
      cases e
      cases r with
      | lst h1 h2 => exact ⟨_, _, rfl, h1.sq, h2⟩
    | _ => cases e
  | ow es =>
    cases e
    obtain ⟨a, xs, rfl, h, q⟩ := r
    exact ⟨a, xs, rfl, SqL.of h, q⟩
  | st => cases e
  | amb => cases e
/-- the type's name, as isinstance takes it -/
def tyN : D → String
  | .none => "NoneType"
  | .bool _ => "bool"
  | .int _ => "int"
  | .str _ => "str"
  | .list _ => "list"
  | .tuple _ => "tuple"
  | .dict _ => "dict"
theorem RepV.ty {d : D} (r : RepV K L H v c) (e : c.d? = some d) : TyX K H v (.type (tyN d)) := by
  cases c with
  | sh x =>
    cases e
    cases d with
    | none => cases r; exact .base .non
    | bool b => cases r; exact .base (.bl b)
    | int i => cases r; exact .base (.int i)
    | str x => cases r; exact .base (.str x)
    | list ds =>
      cases r with
      | lst h1 h2 =>
        obtain ⟨o, h1⟩ := h1
        exact .base (.frz h1)
    | tuple ds =>
      cases r with
      | tup h1 h2 =>
        rcases h1 with (h | ⟨o, h⟩) | ⟨o, its, n, hk, hc, _⟩
        · exact .base (.tup h)
        · exact .fTuple h
        · exact .kTuple hk hc
    | dict _ => cases r
  | ow ds =>
    cases e
    obtain ⟨a, xs, rfl, h, q⟩ := r
    exact .base (.lst h)
  | st => cases e
  | amb => cases e
end
theorem maxL_mem : ∀ (xs : List Int) (m : Int), maxL m xs ∈ m :: xs ∧ ∀ y ∈ m :: xs, y ≤ maxL m xs
  | [], m => ⟨by simp [maxL], by simp [maxL]⟩
  | x :: xs, m => by
    obtain ⟨h1, h2⟩ := maxL_mem xs (if m < x then x else m)
    have e : maxL m (x :: xs) = maxL (if m < x then x else m) xs := rfl
    rw [e]
    have hb := h2 _ List.mem_cons_self
    generalize maxL (if m < x then x else m) xs = M at *
    refine ⟨?_, fun y hy => ?_⟩
    · rcases List.mem_cons.mp h1 with h | h
      · rw [h]
        split
        · simp
        · simp
      · simp [h]
    · rcases List.mem_cons.mp hy with rfl | hy
      · split at hb <;> omega
      · rcases List.mem_cons.mp hy with rfl | hy
        · split at hb <;> omega
        · exact h2 y (List.mem_cons_of_mem _ hy)
theorem minL_mem : ∀ (xs : List Int) (m : Int), minL m xs ∈ m :: xs ∧ ∀ y ∈ m :: xs, minL m xs ≤ y
  | [], m => ⟨by simp [minL], by simp [minL]⟩
  | x :: xs, m => by
    obtain ⟨h1, h2⟩ := minL_mem xs (if x < m then x else m)
    have e : minL m (x :: xs) = minL (if x < m then x else m) xs := rfl
    rw [e]
    have hb := h2 _ List.mem_cons_self
    generalize minL (if x < m then x else m) xs = M at *
    refine ⟨?_, fun y hy => ?_⟩
    · rcases List.mem_cons.mp h1 with h | h
      · rw [h]
        split
        · simp
        · simp
      · simp [h]
    · rcases List.mem_cons.mp hy with rfl | hy
      · split at hb <;> omega
      · rcases List.mem_cons.mp hy with rfl | hy
        · split at hb <;> omega
        · exact h2 y (List.mem_cons_of_mem _ hy)

section
variable {X : Cx} {L : Lw}
theorem b_len : CallR X (.builtin "len") (rBi X.K L .len) := by
  intro pins s σ H vs us Q I r ⟨cs, x, e, h, q⟩
  cases cs with
  | nil => cases e
  | cons c t =>
    cases t with
    | cons _ _ => simp [opB] at e
    | nil =>
      obtain ⟨v, rfl, rv⟩ := h.one
      have gen : (match items? c with
          | some xs => some (Cell.sh (.int xs.length))
          | none => none) = some x → wpAny (model X.prog X.w) X.A (call (.builtin "len") us) (EP X pins σ Q) X.xe s := fun e => by
        cases hc : items? c with
        | none => rw [hc] at e; cases e
        | some ds =>
          rw [hc] at e
          cases e
          obtain ⟨a, xs, rfl, hq, g⟩ := rv.items hc
          exact call_len_seq pins s σ H _ us Q I r ⟨a, xs, rfl, hq, q _ _ .same (by rw [g.length]; exact .int _) trivial⟩
      cases c with
      | sh y =>
        cases y with
        | str z =>
          simp only [opB] at e
          split at e
          · rename_i hz
            cases e
            cases sh_str rv
            exact call_len pins s σ H _ us Q I r ⟨_, z.length, rfl, ⟨by rw [← line_eq]; exact hz, rfl⟩, q _ _ .same (.int _) trivial⟩
          · cases e
        | _ => exact gen e
      | _ => exact gen e
theorem b_abs : CallR X (.builtin "abs") (rBi X.K L .abs) := by
  intro pins s σ H vs us Q I r ⟨cs, x, e, h, q⟩
  obtain ⟨i, rfl, rfl⟩ : ∃ i, cs = [.sh (.int i)] ∧ x = .sh (.int (if i < 0 then -i else i)) := by
    unfold opB at e
    split at e <;> first | (cases e; done) | skip
    all_goals first | (cases e; exact ⟨_, rfl, rfl⟩) | simp_all
  obtain ⟨v, rfl, rv⟩ := h.one
  cases sh_int rv
  exact call_abs pins s σ H _ us Q I r ⟨i, rfl, q _ _ .same (.int _) trivial⟩
theorem b_gcd : CallR X (.builtin "math.gcd") (rBi X.K L .gcd) := by
  intro pins s σ H vs us Q I r ⟨cs, x, e, h, q⟩
  obtain ⟨i, j, rfl, rfl⟩ : ∃ i j, cs = [.sh (.int i), .sh (.int j)] ∧ x = .sh (.int ((Nat.gcd i.natAbs j.natAbs : Nat) : Int)) := by
    unfold opB at e
    split at e <;> first | (cases e; done) | skip
    all_goals first | (cases e; exact ⟨_, _, rfl, rfl⟩) | simp_all
  obtain ⟨v, u, rfl, rv, ru⟩ := h.two
  cases sh_int rv
  cases sh_int ru
  exact cr_gcd pins s σ H _ us Q I r ⟨i, j, rfl, q _ _ .same (.int _) trivial⟩
theorem b_int : CallR X (.type "int") (rBi X.K L .int) := by
  intro pins s σ H vs us Q I r ⟨cs, x, e, h, q⟩
  obtain ⟨i, rfl, rfl⟩ : ∃ i, cs = [.sh (.int i)] ∧ x = .sh (.int i) := by
    unfold opB at e
    split at e <;> first | (cases e; done) | skip
    all_goals first | (cases e; exact ⟨_, rfl, rfl⟩) | simp_all
  obtain ⟨v, rfl, rv⟩ := h.one
  cases sh_int rv
  exact call_int1 pins s σ H _ us Q I r (.inl ⟨i, rfl, q _ _ .same (.int _) trivial⟩)
theorem list_of {f : List Int → Option Cell} {c : Cell} {x : Cell} (e : (match list? c with
    | some ds => match ints? ds with
      | some xs => f xs
      | none => none
    | none => none) = some x) {K : PySem.W.Frag} {H : Hp} {v : V} (r : RepV K L H v c) : ∃ a ns, v = .ref a ∧ SqL K H a (ns.map V.int) ∧ f ns = some x := by
  cases hc : list? c with
  | none => rw [hc] at e; cases e
  | some ds =>
    rw [hc] at e
    dsimp only at e
    cases hi : ints? ds with
    | none => rw [hi] at e; cases e
    | some ns =>
      rw [hi] at e
      obtain ⟨a, xs, rfl, hq, g⟩ := r.list hc
      rw [g.ints hi] at hq
      exact ⟨a, ns, rfl, hq, e⟩
theorem b_sum (hc : X.calm = true) : CallR X (.builtin "sum") (rBi X.K L .sum) := by
  intro pins s σ H vs us Q I r ⟨cs, x, e, h, q⟩
  cases cs with
  | nil => cases e
  | cons c t =>
    cases t with
    | cons _ _ => simp [opB] at e
    | nil =>
      obtain ⟨v, rfl, rv⟩ := h.one
      obtain ⟨a, ns, rfl, hq, e2⟩ := list_of (f := fun xs => some (.sh (.int xs.sum))) e rv
      cases e2
      exact cr_sum hc pins s σ H _ us Q I r ⟨a, ns, rfl, hq, q _ _ .same (.int _) trivial⟩
theorem b_max (hc : X.calm = true) : CallR X (.builtin "max") (rBi X.K L .max) := by
  intro pins s σ H vs us Q I r ⟨cs, x, e, h, q⟩
  have two : ∀ i j, cs = [.sh (.int i), .sh (.int j)] → x = .sh (.int (if j > i then j else i)) → wpAny (model X.prog X.w) X.A (call (.builtin "max") us) (EP X pins σ Q) X.xe s := fun i j hc2 hx => by
    subst hc2 hx
    obtain ⟨v, u, rfl, rv, ru⟩ := h.two
    cases sh_int rv
    cases sh_int ru
    exact call_max2 hc pins s σ H _ us Q I r ⟨i, j, rfl, q _ _ .same (.int _) trivial⟩
  cases cs with
  | nil => cases e
  | cons c t =>
    cases t with
    | nil =>
      obtain ⟨v, rfl, rv⟩ := h.one
      obtain ⟨a, ns, rfl, hq, e2⟩ := list_of (f := maxC) e rv
      cases ns with
      | nil => cases e2
      | cons m ns =>
        cases e2
        obtain ⟨m1, m2⟩ := maxL_mem ns m
        refine cr_max hc pins s σ H _ us Q I r ⟨a, m :: ns, rfl, hq, by simp, fun k hk hy => ?_⟩
        have : k = maxL m ns := by
          have h1 := hy _ m1
          have h2 := m2 _ hk
          omega
        subst this
        exact q _ _ .same (.int _) trivial
    | cons d t =>
      cases t with
      | cons _ _ => simp [opB] at e
      | nil =>
        cases c with
        | sh y => cases y with
          | int i => cases d with
            | sh z => cases z with
              | int j => exact two i j rfl (Option.some.inj e).symm
              | _ => simp [opB] at e
            | _ => simp [opB] at e
          | _ => simp [opB] at e
        | _ => simp [opB] at e
theorem b_min (hc : X.calm = true) : CallR X (.builtin "min") (rBi X.K L .min) := by
  intro pins s σ H vs us Q I r ⟨cs, x, e, h, q⟩
  have two : ∀ i j, cs = [.sh (.int i), .sh (.int j)] → x = .sh (.int (if j < i then j else i)) → wpAny (model X.prog X.w) X.A (call (.builtin "min") us) (EP X pins σ Q) X.xe s := fun i j hc2 hx => by
    subst hc2 hx
    obtain ⟨v, u, rfl, rv, ru⟩ := h.two
    cases sh_int rv
    cases sh_int ru
    exact call_min2 hc pins s σ H _ us Q I r ⟨i, j, rfl, q _ _ .same (.int _) trivial⟩
  cases cs with
  | nil => cases e
  | cons c t =>
    cases t with
    | nil =>
      obtain ⟨v, rfl, rv⟩ := h.one
      obtain ⟨a, ns, rfl, hq, e2⟩ := list_of (f := minC) e rv
      cases ns with
      | nil => cases e2
      | cons m ns =>
        cases e2
        obtain ⟨m1, m2⟩ := minL_mem ns m
        refine cr_min hc pins s σ H _ us Q I r ⟨a, m :: ns, rfl, hq, by simp, fun k hk hy => ?_⟩
        have : k = minL m ns := by
          have h1 := hy _ m1
          have h2 := m2 _ hk
          omega
        subst this
        exact q _ _ .same (.int _) trivial
    | cons d t =>
      cases t with
      | cons _ _ => simp [opB] at e
      | nil =>
        cases c with
        | sh y => cases y with
          | int i => cases d with
            | sh z => cases z with
              | int j => exact two i j rfl (Option.some.inj e).symm
              | _ => simp [opB] at e
            | _ => simp [opB] at e
          | _ => simp [opB] at e
        | _ => simp [opB] at e
theorem b_tuple : CallR X (.type "tuple") (rBi X.K L .tuple) := by
  intro pins s σ H vs us Q I r ⟨cs, x, e, h, q⟩
  cases cs with
  | nil => cases e
  | cons c t =>
    cases t with
    | cons _ _ => simp [opB] at e
    | nil =>
      obtain ⟨v, rfl, rv⟩ := h.one
      have e' : (match items? c with
        | some xs => some (Cell.sh (.tuple xs))
        | none => none) = some x := e
      cases hc : items? c with
      | none => rw [hc] at e'; cases e'
      | some ds =>
        rw [hc] at e'
        cases e'
        obtain ⟨a, xs, rfl, hq, g⟩ := rv.items hc
        refine call_tuple_of pins s σ H _ us Q I r ⟨a, xs, rfl, ?_⟩
        rcases hq with hq | hq
        · exact .inl ⟨hq, fun p hp => q _ _ (.new p _ hp) (.tup (SqT.of upd_same) (DFs.imm (Imm.upd hp) _ _ g)) trivial⟩
        · exact .inr ⟨hq, q _ _ .same (.tup hq g) trivial⟩
theorem b_list : CallR X (.type "list") (rBi X.K L .list) := by
  intro pins s σ H vs us Q I r ⟨cs, x, e, h, q⟩
  cases cs with
  | nil => cases e
  | cons c t =>
    cases t with
    | cons _ _ => simp [opB] at e
    | nil =>
      obtain ⟨v, rfl, rv⟩ := h.one
      have e' : (match items? c with
        | some xs => some (Cell.ow xs)
        | none => none) = some x := e
      cases hc : items? c with
      | none => rw [hc] at e'; cases e'
      | some ds =>
        rw [hc] at e'
        cases e'
        obtain ⟨a, xs, rfl, hq, g⟩ := rv.items hc
        exact call_list_of pins s σ H _ us Q I r ⟨a, xs, rfl, hq, fun p hp => q _ _ (.new p _ hp) ⟨p, _, rfl, upd_same, DFs.imm (Imm.upd hp) _ _ g⟩ fun a e => by cases e; exact hp⟩
theorem ins_perm (x : Int) : ∀ ys : List Int, (insI x ys).Perm (x :: ys)
  | [] => .refl _
  | y :: ys => by
    unfold insI
    split
    · exact .refl _
    · exact ((ins_perm x ys).cons y).trans (.swap x y ys)
theorem srt_perm : ∀ xs : List Int, (srtI xs).Perm xs
  | [] => .refl _
  | x :: xs => (ins_perm x _).trans ((srt_perm xs).cons x)
theorem ins_sorted (x : Int) : ∀ ys : List Int, ys.Pairwise (· ≤ ·) → (insI x ys).Pairwise (· ≤ ·)
  | [], _ => by simp [insI]
  | y :: ys, h => by
    unfold insI
    obtain ⟨h1, h2⟩ := List.pairwise_cons.mp h
    split
    · rename_i hx
      refine List.pairwise_cons.mpr ⟨fun z hz => ?_, h⟩
      rcases List.mem_cons.mp hz with rfl | hz
      · exact hx
      · exact Int.le_trans hx (h1 z hz)
    · rename_i hx
      refine List.pairwise_cons.mpr ⟨fun z hz => ?_, ins_sorted x ys h2⟩
      rcases List.mem_cons.mp ((ins_perm x ys).mem_iff.mp hz) with rfl | hz
      · omega
      · exact h1 z hz
theorem srt_sorted : ∀ xs : List Int, (srtI xs).Pairwise (· ≤ ·)
  | [] => .nil
  | x :: xs => ins_sorted x _ (srt_sorted xs)
theorem srt_uniq : ∀ l l' : List Int, l.Pairwise (· ≤ ·) → l'.Pairwise (· ≤ ·) → l.Perm l' → l = l'
  | [], l', _, _, p => (List.nil_perm.mp p).symm
  | a :: t, [], _, _, p => by cases List.perm_nil.mp p
  | a :: t, b :: t', h, h', p => by
    obtain ⟨h1, h2⟩ := List.pairwise_cons.mp h
    obtain ⟨h3, h4⟩ := List.pairwise_cons.mp h'
    have e : a = b := by
      rcases List.mem_cons.mp (p.mem_iff.mp (List.mem_cons_self ..)) with e | e
      · exact e
      · rcases List.mem_cons.mp (p.mem_iff.mpr (List.mem_cons_self (a := b) (l := t'))) with e' | e'
        · exact e'.symm
        · have := h3 a e
          have := h1 b e'
          omega
    subst e
    rw [srt_uniq t t' h2 h4 (List.perm_cons a |>.mp p)]
theorem dfs_ints {K : PySem.W.Frag} {H : Hp} : ∀ ns : List Int, DFs K H (ns.map V.int) (ns.map .int)
  | [] => .nil
  | n :: ns => .cons (.int n) (dfs_ints ns)
theorem b_sorted : CallR X (.builtin "sorted") (rBi X.K L .sorted) := by
  intro pins s σ H vs us Q I r ⟨cs, x, e, h, q⟩
  cases cs with
  | nil => cases e
  | cons c t =>
    cases t with
    | cons _ _ => simp [opB] at e
    | nil =>
      obtain ⟨v, rfl, rv⟩ := h.one
      obtain ⟨a, ns, rfl, hq, e2⟩ := list_of (f := fun xs => some (.ow ((srtI xs).map .int))) e rv
      cases e2
      refine cr_sortedI pins s σ H _ us Q I r ⟨a, ns, rfl, hq, fun ns' p hp hs hn => ?_⟩
      obtain rfl : ns' = srtI ns := srt_uniq _ _ hs (srt_sorted ns) (hp.trans (srt_perm ns).symm)
      exact q _ _ (.new p _ hn) ⟨p, _, rfl, upd_same, dfs_ints _⟩ fun a e => by cases e; exact hn
/-- isinstance(x, a built-in type) -/
def isiT : IB → Option String
  | .isInt => some "int"
  | .isBool => some "bool"
  | .isTup => some "tuple"
  | .isStr => some "str"
  | _ => none
def rIs (K : PySem.W.Frag) (L : Lw) (f : IB) (t : String) : List V → Hp → VK → Prop := fun vs H Q => ∃ v c r, vs = [v, .ty t] ∧ opB f [c] = some r ∧ RepV K L H v c ∧ ∀ u H', NewS H H' → RepV K L H' u r → OwnN H u r → Q u H'
theorem isi_kit (f : IB) (t : String) (ht : isiT f = some t) (c : Cell) (r : Cell) (e : opB f [c] = some r) : ∃ d b, c.d? = some d ∧ r = .sh (.bool b) ∧ kitB (tyN d) t = some b := by
  have hd : ∃ d, c.d? = some d := by
    cases c with
    | sh d => exact ⟨d, rfl⟩
    | ow ds => exact ⟨_, rfl⟩
    | st => cases f <;> first | (cases ht; done) | (simp [opB, Cell.d?] at e)
    | amb => cases f <;> first | (cases ht; done) | (simp [opB, Cell.d?] at e)
  obtain ⟨d, hd⟩ := hd
  refine ⟨d, ?_⟩
  cases c with
  | sh d' =>
    cases hd
    cases f <;> first | (cases ht; done) | skip
    all_goals cases ht
    all_goals cases d <;> (simp [opB, Cell.d?] at e; subst e; refine ⟨_, rfl, rfl, ?_⟩; simp only [tyN]; decide +kernel)
  | ow ds =>
    cases hd
    cases f <;> first | (cases ht; done) | skip
    all_goals cases ht
    all_goals (simp [opB, Cell.d?] at e; subst e; refine ⟨_, rfl, rfl, ?_⟩; simp only [tyN]; decide +kernel)
  | st => cases hd
  | amb => cases hd
theorem b_isi (f : IB) (t : String) (ht : isiT f = some t) : CallR X (.builtin "isinstance") (rIs X.K L f t) := by
  intro pins s σ H vs us Q I r ⟨v, c, x, hv, e, rv, q⟩
  subst hv
  obtain ⟨d, b, hd, rfl, hk⟩ := isi_kit f t ht c x e
  exact call_isi pins s σ H _ us Q I r ⟨v, .ty t, _, _, b, rfl, .ty t, rv.ty hd, kit_ty hk, q _ _ .same (.bl b) trivial⟩
end
end Rf
set_option Elab.async false
set_option linter.all false
set_option maxRecDepth 100000
set_option maxHeartbeats 1000000
/-! Rf6: the readings of the evaluator; expressions, one by one. -/
namespace Rf
theorem T.all_none {α β : Type} {P : α → Prop} {E : Nat → List D → Sl → Prop} {o : Option β} {f : β → T α} (h : ((T.opt o).bind f).All P E) : ∃ r, o = some r ∧ (f r).All P E := by
  cases o with
  | none => exact h.elim
  | some r => exact ⟨r, rfl, h⟩
theorem slot_some {st : Sl} {i : Nat} {c : Cell} (h : slot? st i = some c) : st.cs[i]? = some (some c) := by
  unfold slot? at h
  cases q : st.cs[i]? with
  | none => rw [q] at h; cases h
  | some o => rw [q] at h; exact congrArg some h
open PySem PySem.Spec PyProof.Rows
open L2 hiding St

/-- the package's errors: their classes, their fields -/
structure XI where
  num : Nat
  cls : Nat → Addr
  fld : Nat → List Str
def ExcR (K : PySem.W.Frag) (xi : XI) (H : Hp) (cls : Value) (d : Option Addr) (x : Nat) (as : List D) : Prop :=
  x < xi.num ∧ cls = .ref (xi.cls x) ∧ ((xi.fld x = [] ∧ d = none ∧ as = []) ∨ ∃ dd vs, d = some dd ∧ H dd = some (.xd ((xi.fld x).zip vs)) ∧ vs.length = (xi.fld x).length ∧ DFs K H vs as)
/-- what a reading leans on -/
structure Rc where
  L : Lw
  B : Hp
  xi : XI
  W : WX

section
variable {K : PySem.W.Frag} {R : Rc} {σ : Sg} {st st1 : Sl} {H H1 H' : Hp}
def EW (K : PySem.W.Frag) (R : Rc) (σ : Sg) (st : Sl) (H : Hp) (x : Nat) (as : List D) (st' : Sl) : Prop :=
  ∀ cls d H', Stp R.L σ st st' H H' → RelS K R.L R.B H' σ st' → ExcR K R.xi H' cls d x as → R.W cls d σ H'
theorem EW.move {x : Nat} {as : List D} {st' : Sl} (s : Stp R.L σ st st1 H H1) (e : EW K R σ st H x as st') : EW K R σ st1 H1 x as st' := fun cls d H' s2 r ex => e cls d H' (s.trans s2) r ex
theorem all_move {α : Type} {P : α → Prop} {t : T α} (s : Stp R.L σ st st1 H H1) (h : t.All P (EW K R σ st H)) : t.All P (EW K R σ st1 H1) := T.all_mono (fun _ h => h) (fun _ _ _ e => e.move s) t h

/-- a value that is kept -/
def Rd (K : PySem.W.Frag) (R : Rc) (t : Sl → T (Cell × Sl)) : TE := fun σ H Q => ∃ st, RelS K R.L R.B H σ st ∧
  (t st).All (fun p => ∀ v H', Stp R.L σ st p.2 H H' → RelS K R.L R.B H' σ p.2 → RepV K R.L H' v p.1 → Fresh R.L R.B H σ p.2 v p.1 → Q v H') (EW K R σ st H)
/-- what is known of a value that is not kept -/
def Kept (K : PySem.W.Frag) (R : Rc) (H0 H : Hp) (σ : Sg) (st : Sl) (a : IE) (v : V) (c : Cell) : Prop := match a with
  | .var i => σ[i]? = some (some v) ∧ st.cs[i]? = some (some c)
  | _ => RepV K R.L H v c ∧ Fresh R.L R.B H0 σ st v c
def RdP (K : PySem.W.Frag) (R : Rc) (G : Env) (a : IE) : TE := fun σ H Q => ∃ st, RelS K R.L R.B H σ st ∧
  (pk G a st).All (fun p => ∀ v H', Stp R.L σ st p.2 H H' → RelS K R.L R.B H' σ p.2 → Kept K R H H' σ p.2 a v p.1 → Q v H') (EW K R σ st H)

theorem rd_bind {α : Type} {t : Sl → T (Cell × Sl)} {k : Cell × Sl → T α} {P : α → Prop} {Q : VK} (hr : RelS K R.L R.B H σ st) (h : ((t st).bind k).All P (EW K R σ st H))
    (hk : ∀ p v H1, Stp R.L σ st p.2 H H1 → RelS K R.L R.B H1 σ p.2 → RepV K R.L H1 v p.1 → Fresh R.L R.B H σ p.2 v p.1 → (k p).All P (EW K R σ p.2 H1) → Q v H1) : Rd K R t σ H Q :=
  ⟨st, hr, T.all_mono (fun p hp v H1 s1 r1 rv f => hk p v H1 s1 r1 rv f (all_move s1 hp)) (fun _ _ _ h => h) _ (T.all_bind _ h)⟩
theorem rdP_bind {α : Type} {G : Env} {a : IE} {k : Cell × Sl → T α} {P : α → Prop} {Q : VK} (hr : RelS K R.L R.B H σ st) (h : ((pk G a st).bind k).All P (EW K R σ st H))
    (hk : ∀ p v H1, Stp R.L σ st p.2 H H1 → RelS K R.L R.B H1 σ p.2 → Kept K R H H1 σ p.2 a v p.1 → (k p).All P (EW K R σ p.2 H1) → Q v H1) : RdP K R G a σ H Q :=
  ⟨st, hr, T.all_mono (fun p hp v H1 s1 r1 kv => hk p v H1 s1 r1 kv (all_move s1 hp)) (fun _ _ _ h => h) _ (T.all_bind _ h)⟩
theorem kept_rep {a : IE} {v : V} {c : Cell} (k : Kept K R H1 H σ st a v c) (r : RelS K R.L R.B H σ st) : RepV K R.L H v c := by
  cases a with
  | var i =>
    obtain ⟨k1, k2⟩ := k
    obtain ⟨v', e, q⟩ := r.slot i c k2
    rw [k1] at e
    cases e
    exact q
  | _ => exact k.1
theorem again_ok {α : Type} {a : IE} {v : V} {c : Cell} {f : Cell → T α} {P : α → Prop} {E : Nat → List D → Sl → Prop} (k : Kept K R H' H σ st a v c) (s : Stp R.L σ st st1 H H1) (r : RelS K R.L R.B H1 σ st1) (h : ((again a c st1).bind f).All P E) :
    ∃ c', RepV K R.L H1 v c' ∧ (f c').All P E := by
  cases a with
  | var i =>
    obtain ⟨k1, k2⟩ := k
    obtain ⟨c', q, h2⟩ := T.all_none h
    obtain ⟨v', e, rv⟩ := r.slot i c' (slot_some q)
    rw [k1] at e
    cases e
    exact ⟨c', rv, h2⟩
  | _ =>
    obtain ⟨k1, k2⟩ := k
    exact ⟨c, (k1.stp k2 s).1, h⟩

theorem NewS.stp {L : Lw} (n : NewS H H') : Stp L σ st st H H' := by
  cases n with
  | same => exact Stp.refl
  | new p o h => exact ⟨fun b u e _ _ => by rw [upd_ne (ne_of_none e h)]; exact e, Imm.upd h, fun _ z => z, fun b u e => ⟨u, by rw [upd_ne (ne_of_none e h)]; exact e⟩⟩
theorem RelS.stp0 {L : Lw} {B : Hp} (r : RelS K L B H σ st) (s : ∀ a o, H a = some o → H' a = some o) : RelS K L B H' σ st where
  ext := fun a o e n => s a o (r.ext a o e n)
  law := L.keep _ H H' r.law (fun a ha => by
    obtain ⟨o, e, _⟩ := L.there _ H a r.law ha
    rw [e, s a o e]) fun a o e _ => s a o e
  len := r.len
  slot := fun i c e => by
    obtain ⟨v, e1, q⟩ := r.slot i c e
    refine ⟨v, e1, ?_⟩
    cases c with
    | sh d => exact DF.imm (fun a o e _ => s a o e) d v q
    | ow ds =>
      obtain ⟨a, xs, rfl, h, g⟩ := q
      exact ⟨a, xs, rfl, s _ _ h, DFs.imm (fun a o e _ => s a o e) _ _ g⟩
    | st => exact q
    | amb => exact q
  own := r.own
  dist := r.dist
theorem NewS.rel {L : Lw} {B : Hp} (n : NewS H H') (r : RelS K L B H σ st) : RelS K L B H' σ st := r.stp0 fun a o e => by
  cases n with
  | same => exact e
  | new p u h => rw [upd_ne (ne_of_none e h)]; exact e
theorem RelS.freeA {L : Lw} {B : Hp} {a : Addr} (r : RelS K L B H σ st) (h : H a = none) : B a = none ∧ ¬ L.A a ∧ ¬ Owns σ st a := by
  have nA : ¬ L.A a := fun z => by
    obtain ⟨o, e, _⟩ := L.there _ H a r.law z
    rw [h] at e; cases e
  refine ⟨?_, nA, fun ⟨i, ds, e1, e2⟩ => ?_⟩
  · cases q : B a with
    | none => rfl
    | some o =>
      have := r.ext a o q nA
      rw [h] at this; cases this
  · obtain ⟨v, e3, q⟩ := r.slot i _ e1
    rw [e2] at e3
    cases e3
    obtain ⟨b, xs, e4, e5, _⟩ := q
    cases e4
    rw [h] at e5; cases e5
theorem OwnN.fresh {v : V} {c : Cell} (o : OwnN H v c) (r : RelS K R.L R.B H σ st) (s : Stp R.L σ st1 st H' H) : Fresh R.L R.B H' σ st v c := by
  cases c with
  | ow ds => exact fun a e => ⟨s.none (o a e), r.freeA (o a e)⟩
  | _ => trivial
end

theorem PE.imp {X : Cx} {e : Expr} {t t' : TE} (h : PE X e t) (i : ∀ σ H Q, t' σ H Q → t σ H Q) : PE X e t' := ⟨fun pins s σ H Q I q => h.run pins s σ H Q I (i σ H Q q)⟩
theorem PT.imp {X : Cx} {e : Expr} {t t' : TT} (h : PT X e t) (i : ∀ σ H Q, t' σ H Q → t σ H Q) : PT X e t' := ⟨fun pins s σ H Q I q => h.run pins s σ H Q I (i σ H Q q)⟩

section
variable {X : Cx} {R : Rc} {G : Env} {x y z : Expr} {a b c : IE} {pos : Pos}
theorem pe_conR {d : D} {v : V} (h : PE X x (tC v)) (hv : ∀ H, DF X.K H v d) : PE X x (Rd X.K R (ev G (.con d))) := PE.imp h fun σ H Q ⟨st, hr, q⟩ => by
  unfold ev at q
  exact q v H Stp.refl hr (hv H) trivial
theorem pe_binR {op : IOp} (ha : PE X x (RdP X.K R G a)) (hb : PE X y (RdP X.K R G b)) : PE X (.BinOp x (opOf op) y pos) (Rd X.K R (ev G (.bin op a b))) := PE.imp (pe_op (op_binA (L := R.L) op) ha hb) fun σ H Q ⟨st, hr, h⟩ => by
  refine rdP_bind hr (by unfold ev at h; exact h) fun p v H1 s1 r1 k1 h1 => ?_
  refine rdP_bind r1 h1 fun q u H2 s2 r2 k2 h2 => ?_
  obtain ⟨c', rc, h3⟩ := again_ok k1 s2 r2 h2
  obtain ⟨r, e, h4⟩ := T.all_none h3
  exact ⟨c', q.1, r, e, rc, kept_rep k2 r2, fun w H' n rw' ow => h4 w H' ((s1.trans s2).trans n.stp) (n.rel r2) rw' (ow.fresh r2 (s1.trans s2))⟩
theorem pe_cmpR' {op : ICmp} (hu : X.A.units + 65 < cLine) (ha : PE X x (RdP X.K R G a)) (hb : PE X y (RdP X.K R G b)) (hm : behindInMarks (cmpOf op) y = false) : PE X (.Compare x [cmpOf op] [y] pos) (Rd X.K R (ev G (.cmp op a b))) :=
  PE.imp (pe_cmpR (op_cmpA (L := R.L) hu op) ha hb hm) fun σ H Q ⟨st, hr, h⟩ => by
  refine rdP_bind hr (by unfold ev at h; exact h) fun p v H1 s1 r1 k1 h1 => ?_
  refine rdP_bind r1 h1 fun q u H2 s2 r2 k2 h2 => ?_
  obtain ⟨c', rc, h3⟩ := again_ok k1 s2 r2 h2
  obtain ⟨r, e, h4⟩ := T.all_none h3
  exact ⟨c', q.1, r, e, rc, kept_rep k2 r2, h4 _ _ (s1.trans s2) r2 (.bl r) trivial⟩
theorem pe_idxR (ha : PE X x (RdP X.K R G a)) (hb : PE X y (RdP X.K R G b)) (hs : PlainIx y) : PE X (.Subscript x y pos) (Rd X.K R (ev G (.idx a b))) :=
  PE.imp (pe_ix (ix_A (L := R.L)) ha hb hs) fun σ H Q ⟨st, hr, h⟩ => by
  refine rdP_bind hr (by unfold ev at h; exact h) fun p v H1 s1 r1 k1 h1 => ?_
  refine rdP_bind r1 h1 fun q u H2 s2 r2 k2 h2 => ?_
  obtain ⟨c', rc, h3⟩ := again_ok k1 s2 r2 h2
  obtain ⟨r, e, h4⟩ := T.all_none h3
  exact ⟨c', q.1, r, e, rc, kept_rep k2 r2, fun w rw' => h4 _ _ (s1.trans s2) r2 rw' trivial⟩
end
end Rf
set_option Elab.async false
set_option linter.all false
set_option maxRecDepth 100000
set_option maxHeartbeats 1000000
/-! Rf7: expressions, one by one, further. -/
namespace Rf
open PySem PySem.Spec PyProof.Rows
open L2 hiding St

section
variable {K : PySem.W.Frag} {L : Lw} {B H H' : Hp} {σ : Sg} {st st1 : Sl}
theorem get_set_eq {α : Type} {l : List α} {i : Nat} {a b : α} (h : l[i]? = some b) : (l.set i a)[i]? = some a := by
  have : i < l.length := (List.getElem?_eq_some_iff.mp h).1
  rw [List.getElem?_set_self this]
theorem up_upd {H : Hp} {a b : Addr} {o u : HO} (q : H b = some u) : ∃ w, upd H a o b = some w := by
  by_cases hb : b = a
  · exact ⟨o, by rw [hb, upd_same]⟩
  · exact ⟨u, by rw [upd_ne hb]; exact q⟩
/-- a slot's own list becomes shared -/
theorem freeze_rel {i : Nat} {ds : List D} {a : Addr} {xs : List V} {o : Obj} (r : RelS K L B H σ st) (e : st.cs[i]? = some (some (.ow ds))) (hs : σ[i]? = some (some (.ref a))) (ha : H a = some (.lst xs)) (g : DFs K H xs ds) :
    Stp L σ st (st.set i (some (.sh (.list ds)))) H (upd H a (.frz o (.lst xs))) ∧ RelS K L B (upd H a (.frz o (.lst xs))) σ (st.set i (some (.sh (.list ds)))) ∧ DF K (upd H a (.frz o (.lst xs))) (.ref a) (.list ds) := by
  have own : Owns σ st a := ⟨i, ds, e, hs⟩
  have sub : ∀ b, Owns σ (st.set i (some (.sh (.list ds)))) b → Owns σ st b ∧ b ≠ a := fun b ⟨j, es, e1, e2⟩ => by
    by_cases hj : j = i
    · subst hj
      rw [get_set_eq e] at e1
      cases e1
    · rw [List.getElem?_set_ne (Ne.symm hj)] at e1
      refine ⟨⟨j, es, e1, e2⟩, fun z => ?_⟩
      subst z
      exact hj (r.dist j i es ds b e1 e e2 hs)
  have imm : Imm H (upd H a (.frz o (.lst xs))) := fun b u q i => by
    by_cases hb : b = a
    · subst hb
      rw [ha] at q; cases q; exact i.elim
    · rw [upd_ne hb]; exact q
  have df : DF K (upd H a (.frz o (.lst xs))) (.ref a) (.list ds) := .lst ⟨o, upd_same⟩ (DFs.imm imm _ _ g)
  obtain ⟨o1, o2⟩ := r.own a own
  have neL : ∀ b, L.A b → b ≠ a := fun b hb z => by subst z; exact o2 hb
  refine ⟨⟨fun b u q n m => ?_, imm, fun b z => (sub b z).1, fun b u q => up_upd q⟩, ⟨fun b u q n => ?_, L.keep _ _ _ r.law (fun b hb => upd_ne (neL b hb)) imm, by rw [Sl.length_set]; exact r.len, fun j c q => ?_, fun b z => r.own b (sub b z).1, fun j k es fs b e1 e2 e3 e4 => ?_⟩, df⟩
  · rw [upd_ne (fun z => by subst z; exact m own)]; exact q
  · rw [upd_ne (fun z => by subst z; rw [o1] at q; cases q)]; exact r.ext b u q n
  · by_cases hj : j = i
    · subst hj
      rw [get_set_eq e] at q
      cases q
      exact ⟨_, hs, df⟩
    · rw [List.getElem?_set_ne (Ne.symm hj)] at q
      obtain ⟨v, e1, rv⟩ := r.slot j c q
      refine ⟨v, e1, ?_⟩
      cases c with
      | sh d => exact DF.imm imm d v rv
      | ow es =>
        obtain ⟨b, ys, rfl, hb, gb⟩ := rv
        have nb : b ≠ a := fun z => by
          subst z
          exact hj (r.dist j i es ds b q e e1 hs)
        exact ⟨b, ys, rfl, by rw [upd_ne nb]; exact hb, DFs.imm imm _ _ gb⟩
      | st => exact rv
      | amb => exact rv
  · have key : ∀ {m : Nat} {es : List D}, (st.set i (some (Cell.sh (.list ds)))).cs[m]? = some (some (.ow es)) → st.cs[m]? = some (some (.ow es)) := fun {m es} q => by
      by_cases hm : m = i
      · subst hm
        rw [get_set_eq e] at q
        cases q
      · rw [List.getElem?_set_ne (Ne.symm hm)] at q
        exact q
    exact r.dist j k es fs b (key e1) (key e2) e3 e4
/-- a new list of nobody's becomes shared -/
theorem freeze_new {ds : List D} {a : Addr} {xs : List V} {o : Obj} (r : RelS K L B H σ st) (hn : ¬ Owns σ st a) (hl : ¬ L.A a) (hb0 : B a = none) (ha : H a = some (.lst xs)) (g : DFs K H xs ds) :
    (∀ b u, b ≠ a → H b = some u → upd H a (.frz o (.lst xs)) b = some u) ∧ Imm H (upd H a (.frz o (.lst xs))) ∧ RelS K L B (upd H a (.frz o (.lst xs))) σ st ∧ DF K (upd H a (.frz o (.lst xs))) (.ref a) (.list ds) := by
  have imm : Imm H (upd H a (.frz o (.lst xs))) := fun b u q i => by
    by_cases hb : b = a
    · subst hb
      rw [ha] at q; cases q; exact i.elim
    · rw [upd_ne hb]; exact q
  refine ⟨fun b u hb q => by rw [upd_ne hb]; exact q, imm, ⟨fun b u q n => ?_, L.keep _ _ _ r.law (fun b hb => upd_ne (fun z => by subst z; exact hl hb)) imm, r.len, fun j c q => ?_, r.own, r.dist⟩, .lst ⟨o, upd_same⟩ (DFs.imm imm _ _ g)⟩
  · rw [upd_ne (fun z => by subst z; rw [hb0] at q; cases q)]; exact r.ext b u q n
  · obtain ⟨v, e1, rv⟩ := r.slot j c q
    refine ⟨v, e1, ?_⟩
    cases c with
    | sh d => exact DF.imm imm d v rv
    | ow es =>
      obtain ⟨b, ys, rfl, hb, gb⟩ := rv
      exact ⟨b, ys, rfl, by rw [upd_ne (fun z => by subst z; exact hn ⟨j, es, q, e1⟩)]; exact hb, DFs.imm imm _ _ gb⟩
    | st => exact rv
    | amb => exact rv
end

section
variable {X : Cx} {R : Rc} {G : Env} {x y z : Expr} {a b c : IE} {pos : Pos}
theorem pe_takeR {i : Nat} {n : Str} (hN : X.N[i]? = some n) (hv : Vis X.env.scope n) (hd : (n == ("__debug__" : Str)) = false) (hcd : (n == ("__classdict__" : Str)) = false) : PE X (.Name n pos) (Rd X.K R (ev G (.var i))) := by
  refine ⟨fun pins s σ H Q I ⟨st, hr, h⟩ => ?_⟩
  obtain ⟨c, e, h2⟩ := T.all_none (by unfold ev take at h; exact h)
  obtain ⟨v, hs, rv⟩ := hr.slot i c (slot_some e)
  refine thn ((pe_var hN hv hd hcd).run pins s σ H (fun w H1 => w = v ∧ H1 = H) I ⟨v, hs, rfl, rfl⟩) fun u s1 ⟨w, H1, I1, r1, ew, eH⟩ => ?_
  subst ew eH
  have e' := slot_some e
  cases c with
  | sh d => exact ⟨w, H1, I1, r1, h2 w H1 Stp.refl hr rv trivial⟩
  | ow ds =>
    obtain ⟨a, xs, rfl, ha, g⟩ := rv
    obtain ⟨o, I2⟩ := freeze I1 ha
    obtain ⟨f1, f2, f3⟩ := freeze_rel (o := o) hr e' hs ha g
    exact ⟨.ref a, _, I2, r1, h2 (.ref a) _ f1 f2 f3 trivial⟩
  | st => exact ⟨w, H1, I1, r1, h2 w H1 Stp.refl hr rv trivial⟩
  | amb => exact ⟨w, H1, I1, r1, h2 w H1 Stp.refl hr rv trivial⟩
theorem pe_peekR {i : Nat} {n : Str} (hN : X.N[i]? = some n) (hv : Vis X.env.scope n) (hd : (n == ("__debug__" : Str)) = false) (hcd : (n == ("__classdict__" : Str)) = false) : PE X (.Name n pos) (RdP X.K R G (.var i)) := PE.imp (pe_var hN hv hd hcd) fun σ H Q ⟨st, hr, h⟩ => by
  obtain ⟨c, e, h2⟩ := T.all_none (by unfold pk peek at h; exact h)
  obtain ⟨v, hs, rv⟩ := hr.slot i c (slot_some e)
  exact ⟨v, hs, h2 v H Stp.refl hr ⟨hs, slot_some e⟩⟩
def notVar : IE → Bool
  | .var _ => false
  | _ => true
theorem pk_ev (a : IE) (h : notVar a = true) (st : Sl) : pk G a st = ev G a st := by
  cases a <;> first | (cases h; done) | (unfold pk; rfl)
theorem pe_pkR (h : PE X x (Rd X.K R (ev G a))) (hn : notVar a = true) : PE X x (RdP X.K R G a) := PE.imp h fun σ H Q ⟨st, hr, q⟩ => ⟨st, hr, by
  rw [pk_ev a hn] at q
  refine T.all_mono (fun p hp v H1 s1 r1 rv f => hp v H1 s1 r1 ?_) (fun _ _ _ h => h) _ q
  cases a <;> first | (cases hn; done) | exact ⟨rv, f⟩⟩
/-- kept and shared -/
def RdF (K : PySem.W.Frag) (R : Rc) (t : Sl → T (Cell × Sl)) : TE := fun σ H Q => ∃ st, RelS K R.L R.B H σ st ∧
  (t st).All (fun p => ∀ v H', Stp R.L σ st p.2 H H' → RelS K R.L R.B H' σ p.2 → RepV K R.L H' v p.1.fz → Q v H') (EW K R σ st H)
theorem pe_fz {t : Sl → T (Cell × Sl)} (h : PE X x (Rd X.K R t)) : PE X x (RdF X.K R t) := by
  refine ⟨fun pins s σ H Q I ⟨st, hr, q⟩ => ?_⟩
  refine thn (h.run pins s σ H (fun v H1 => ∃ p, Stp R.L σ st p.2 H H1 ∧ RelS X.K R.L R.B H1 σ p.2 ∧ RepV X.K R.L H1 v p.1 ∧ Fresh R.L R.B H σ p.2 v p.1 ∧ ∀ v H', Stp R.L σ st p.2 H H' → RelS X.K R.L R.B H' σ p.2 → RepV X.K R.L H' v p.1.fz → Q v H') I
    ⟨st, hr, T.all_mono (fun p hp v H1 s1 r1 rv f => ⟨p, s1, r1, rv, f, hp⟩) (fun _ _ _ h => h) _ q⟩) fun u s1 ⟨v, H1, I1, r1, p, s2, r2, rv, f, hq⟩ => ?_
  obtain ⟨c, st'⟩ := p
  cases c with
  | sh d => exact ⟨v, H1, I1, r1, hq v H1 s2 r2 rv⟩
  | st => exact ⟨v, H1, I1, r1, hq v H1 s2 r2 rv⟩
  | amb => exact ⟨v, H1, I1, r1, hq v H1 s2 r2 rv⟩
  | ow ds =>
    obtain ⟨a, xs, rfl, ha, g⟩ := rv
    obtain ⟨f0, f1, f2, f3⟩ := f a rfl
    obtain ⟨o, I2⟩ := freeze I1 ha
    obtain ⟨g1, g2, g3, g4⟩ := freeze_new (o := o) r2 f3 f2 f1 ha g
    refine ⟨.ref a, _, I2, r1, hq (.ref a) _ ⟨fun b u q n m => g1 b u (fun z => by subst z; rw [f0] at q; cases q) (s2.fr b u q n m), s2.imm.trans g2, s2.sub, fun b u q => let ⟨w, e⟩ := s2.up b u q; up_upd e⟩ g3 g4⟩
end
end Rf
set_option Elab.async false
set_option linter.all false
set_option maxRecDepth 100000
set_option maxHeartbeats 1000000
/-! Rf8: expressions, one by one, further: tests, displays, slices, calls. -/
namespace Rf
open PySem PySem.Spec PyProof.Rows
open L2 hiding St

theorem T.bind_assoc {α β γ : Type} {f : α → T β} {g : β → T γ} : ∀ t : T α, (t.bind f).bind g = t.bind fun a => (f a).bind g
  | .ok _ => rfl
  | .ex _ _ _ => rfl
  | .bad => rfl
  | .draw l k => congrArg (T.draw l) (funext fun n => T.bind_assoc (k n))
theorem T.bind_ok {α β : Type} {a : α} {f : α → T β} : (T.ok a).bind f = f a := rfl
theorem T.opt_some {α : Type} {a : α} : T.opt (some a) = T.ok a := rfl
theorem bool_sh {b : Bool} : Cell.bool? (.sh (.bool b)) = some b := rfl
theorem cond_bind {α β : Type} {b : Bool} {t u : T α} {f : α → T β} : (cond b t u).bind f = cond b (t.bind f) (u.bind f) := by cases b <;> rfl
theorem int_some {c : Cell} {i : Int} (h : c.int? = some i) : c = .sh (.int i) := by
  cases c with
  | sh d => cases d <;> first | (cases h; rfl) | cases h
  | _ => cases h
theorem bool_some {c : Cell} {b : Bool} (h : c.bool? = some b) : c = .sh (.bool b) := by
  cases c with
  | sh d => cases d <;> first | (cases h; rfl) | cases h
  | _ => cases h
theorem sh_some {c : Cell} {d : D} (h : c.sh? = some d) : c = .sh d := by
  cases c with
  | sh d => cases h; rfl
  | _ => cases h

section
variable {X : Cx} {R : Rc} {G : Env} {x y z : Expr} {a b c : IE} {pos : Pos}
def RdT (K : PySem.W.Frag) (R : Rc) (t : Sl → T (Cell × Sl)) : TT := fun σ H Q => ∃ st, RelS K R.L R.B H σ st ∧
  ((t st).bind fun p => (T.opt p.1.bool?).bind fun b => T.ok (b, p.2)).All (fun q => ∀ H', Stp R.L σ st q.2 H H' → RelS K R.L R.B H' σ q.2 → Q q.1 H') (EW K R σ st H)
theorem rdT_bind {K : PySem.W.Frag} {α : Type} {σ : Sg} {st : Sl} {H : Hp} {t : Sl → T (Cell × Sl)} {k : Bool → Sl → T α} {P : α → Prop} {Q : Bool → Hp → Prop} (hr : RelS K R.L R.B H σ st)
    (h : ((t st).bind fun p => (T.opt p.1.bool?).bind fun b => k b p.2).All P (EW K R σ st H))
    (hk : ∀ b st1 H1, Stp R.L σ st st1 H H1 → RelS K R.L R.B H1 σ st1 → (k b st1).All P (EW K R σ st1 H1) → Q b H1) : RdT K R t σ H Q := by
  refine ⟨st, hr, T.all_bind' _ (T.all_mono (fun p hp => ?_) (fun _ _ _ h => h) _ (T.all_bind _ h))⟩
  obtain ⟨b, e, h2⟩ := T.all_none hp
  rw [e]
  exact fun H1 s1 r1 => hk b p.2 H1 s1 r1 (all_move s1 h2)
theorem pt_plain {t : Sl → T (Cell × Sl)} (h : PE X x (Rd X.K R t)) (he : ∀ whole, isTrue x X.env whole = (do let v ← whole; standAt x.pos; holding [v] (truthy v))) : PT X x (RdT X.K R t) :=
  PT.imp (pt_val h he) fun σ H Q ⟨st, hr, q⟩ => ⟨st, hr, T.all_mono (fun p hp v H1 s1 r1 rv f => by
    obtain ⟨b, e, h2⟩ := T.all_none hp
    have e' := bool_some e
    rw [e'] at rv
    exact ⟨b, sh_bl rv, h2 H1 s1 r1⟩) (fun _ _ _ h => h) _ (T.all_bind _ q)⟩
theorem pt_invR (ha : PT X x (RdT X.K R (ev G a))) : PT X (.UnaryOp .Not x pos) (RdT X.K R (ev G (.inv a))) := PT.imp (pt_not ha) fun σ H Q ⟨st, hr, q⟩ => by
  unfold ev at q
  simp only [T.bind_assoc, T.bind_ok, bool_sh, T.opt_some] at q
  exact rdT_bind (k := fun b st => T.ok (!b, st)) hr q fun b st1 H1 s1 r1 h1 => h1 H1 s1 r1
theorem and_tail {K : PySem.W.Frag} {σ : Sg} {st st1 : Sl} {H H1 : Hp} {Q : Bool → Hp → Prop} {t : Sl → T (Cell × Sl)} (s1 : Stp R.L σ st st1 H H1) (r1 : RelS K R.L R.B H1 σ st1)
    (h : ((t st1).bind fun p => (T.opt p.1.bool?).bind fun b => T.ok (b, p.2)).All (fun q => ∀ H', Stp R.L σ st q.2 H H' → RelS K R.L R.B H' σ q.2 → Q q.1 H') (EW K R σ st1 H1)) : RdT K R t σ H1 Q :=
  ⟨st1, r1, T.all_mono (fun p hp H' s2 r2 => hp H' (s1.trans s2) r2) (fun _ _ _ h => h) _ h⟩
theorem pt_andR {rest : List Expr} (ha : PT X x (RdT X.K R (ev G a))) (hb : PW X (.BoolOp .And (y :: rest) pos) (RdT X.K R (ev G b))) : PW X (.BoolOp .And (x :: y :: rest) pos) (RdT X.K R (ev G (.and_ a b))) := by
  have h0 := pw_and ha hb
  refine ⟨fun wh pins s σ H Q I q => h0.run wh pins s σ H Q I ?_⟩
  obtain ⟨st, hr, q⟩ := q
  unfold ev at q
  simp only [T.bind_assoc, T.bind_ok, bool_sh, T.opt_some, cond_bind] at q
  refine rdT_bind (k := fun b' st1 => cond b' ((ev G b st1).bind fun p => (T.opt p.1.bool?).bind fun b => T.ok (b, p.2)) (T.ok (false, st1))) hr q fun c st1 H1 s1 r1 h1 => ?_
  cases c with
  | true =>
    rw [if_pos rfl]
    exact and_tail s1 r1 h1
  | false =>
    rw [if_neg Bool.false_ne_true]
    exact h1 H1 s1 r1
theorem pt_orR {rest : List Expr} (ha : PT X x (RdT X.K R (ev G a))) (hb : PW X (.BoolOp .Or (y :: rest) pos) (RdT X.K R (ev G b))) : PW X (.BoolOp .Or (x :: y :: rest) pos) (RdT X.K R (ev G (.or_ a b))) := by
  have h0 := pw_or ha hb
  refine ⟨fun wh pins s σ H Q I q => h0.run wh pins s σ H Q I ?_⟩
  obtain ⟨st, hr, q⟩ := q
  unfold ev at q
  simp only [T.bind_assoc, T.bind_ok, bool_sh, T.opt_some, cond_bind] at q
  refine rdT_bind (k := fun b' st1 => cond b' (T.ok (true, st1)) ((ev G b st1).bind fun p => (T.opt p.1.bool?).bind fun b => T.ok (b, p.2))) hr q fun c st1 H1 s1 r1 h1 => ?_
  cases c with
  | true =>
    rw [if_pos rfl]
    exact h1 H1 s1 r1
  | false =>
    rw [if_neg Bool.false_ne_true]
    exact and_tail s1 r1 h1
theorem pt_cmpA {op : ICmp} (hu : X.A.units + 65 < cLine) (ha : PE X x (RdP X.K R G a)) (hb : PE X y (RdP X.K R G b)) (hm : behindInMarks (cmpOf op) y = false) : PT X (.Compare x [cmpOf op] [y] pos) (RdT X.K R (ev G (.cmp op a b))) :=
  PT.imp (pt_cmpR (op_cmpA (L := R.L) hu op) ha hb hm) fun σ H Q ⟨st, hr, h⟩ => by
  unfold ev at h
  simp only [T.bind_assoc, T.bind_ok, bool_sh, T.opt_some] at h
  refine rdP_bind hr h fun p v H1 s1 r1 k1 h1 => ?_
  refine rdP_bind r1 h1 fun q u H2 s2 r2 k2 h2 => ?_
  obtain ⟨c', rc, h3⟩ := again_ok k1 s2 r2 h2
  obtain ⟨r, e, h4⟩ := T.all_none h3
  exact ⟨c', q.1, r, e, rc, kept_rep k2 r2, r, rfl, h4 _ (s1.trans s2) r2⟩
theorem chain_rd {K : PySem.W.Frag} {β : Type} {op op' : ICmp} {σ : Sg} {st : Sl} {H : Hp} {Q : VK} {P : β → Prop} {f : Bool → Sl → T β} (hr : RelS K R.L R.B H σ st)
    (h : ((ev G a st).bind fun p => (ev G b p.2).bind fun q => (T.opt (opCmp op p.1 q.1)).bind fun k =>
      cond k ((ev G c q.2).bind fun r => (T.opt (opCmp op' q.1 r.1)).bind fun x => f x r.2) (f false q.2)).All P (EW K R σ st H))
    (hk : ∀ k st' H', Stp R.L σ st st' H H' → RelS K R.L R.B H' σ st' → (f k st').All P (EW K R σ st' H') → Q (.bl k) H') :
    tChain (rCmp K R.L (opCmp op)) (rCmp K R.L (opCmp op')) (Rd K R (ev G a)) (Rd K R (ev G b)) (Rd K R (ev G c)) σ H Q := by
  refine rd_bind hr h fun p v H1 s1 r1 rv1 f1 h1 => ?_
  refine rd_bind r1 h1 fun q u H2 s2 r2 rv2 f2 h2 => ?_
  obtain ⟨k, e, h3⟩ := T.all_none h2
  refine ⟨p.1, q.1, k, e, (rv1.stp f1 s2).1, rv2, k, rfl, ?_⟩
  cases k with
  | false =>
    rw [if_neg Bool.false_ne_true]
    exact hk false q.2 H2 (s1.trans s2) r2 h3
  | true =>
    rw [if_pos rfl]
    refine rd_bind r2 h3 fun r w H3 s3 r3 rv3 f3 h4 => ?_
    obtain ⟨x, e2, h5⟩ := T.all_none h4
    exact ⟨q.1, r.1, x, e2, (rv2.stp f2 s3).1, rv3, hk x r.2 H3 ((s1.trans s2).trans s3) r3 h5⟩
theorem pe_chainR {op op' : ICmp} (hu : X.A.units + 65 < cLine) (ha : PE X x (Rd X.K R (ev G a))) (hb : PE X y (Rd X.K R (ev G b))) (hc : PE X z (Rd X.K R (ev G c))) (hm : lastMarks [cmpOf op, cmpOf op'] [y, z] = false) :
    PE X (.Compare x [cmpOf op, cmpOf op'] [y, z] pos) (Rd X.K R (ev G (.chain op op' a b c))) :=
  PE.imp (pe_chain (op_cmpA (L := R.L) hu op) (op_cmpA (L := R.L) hu op') ha hb hc hm) fun σ H Q ⟨st, hr, h⟩ => by
  unfold ev at h
  exact chain_rd (f := fun x st => T.ok (Cell.sh (.bool x), st)) hr h fun k st' H' s1 r1 h1 => h1 _ _ s1 r1 (.bl k) trivial
theorem pt_chainR {op op' : ICmp} (hu : X.A.units + 65 < cLine) (ha : PE X x (Rd X.K R (ev G a))) (hb : PE X y (Rd X.K R (ev G b))) (hc : PE X z (Rd X.K R (ev G c))) (hm : lastMarks [cmpOf op, cmpOf op'] [y, z] = false) :
    PT X (.Compare x [cmpOf op, cmpOf op'] [y, z] pos) (RdT X.K R (ev G (.chain op op' a b c))) :=
  PT.imp (pt_chain (op_cmpA (L := R.L) hu op) (op_cmpA (L := R.L) hu op') ha hb hc hm) fun σ H Q ⟨st, hr, h⟩ => by
  unfold ev at h
  simp only [T.bind_assoc, T.bind_ok, bool_sh, T.opt_some, cond_bind] at h
  exact chain_rd (f := fun x st => T.ok (x, st)) hr h fun k st' H' s1 r1 h1 => ⟨k, rfl, h1 _ s1 r1⟩

/-! ### as values -/
theorem pe_negR (ha : PE X x (Rd X.K R (ev G a))) : PE X (.UnaryOp .USub x pos) (Rd X.K R (ev G (.neg a))) := PE.imp (pe_un un_neg ha) fun σ H Q ⟨st, hr, h⟩ => by
  unfold ev at h
  refine rd_bind hr h fun p v H1 s1 r1 rv f h1 => ?_
  obtain ⟨i, e, h2⟩ := T.all_none h1
  rw [int_some e] at rv
  exact ⟨i, sh_int rv, h2 _ _ s1 r1 (.int _) trivial⟩
theorem pe_invR (ha : PE X x (Rd X.K R (ev G a))) : PE X (.UnaryOp .Not x pos) (Rd X.K R (ev G (.inv a))) := PE.imp (pe_not ha) fun σ H Q ⟨st, hr, h⟩ => by
  unfold ev at h
  refine rd_bind hr h fun p v H1 s1 r1 rv f h1 => ?_
  obtain ⟨b, e, h2⟩ := T.all_none h1
  rw [bool_some e] at rv
  exact ⟨b, sh_bl rv, h2 _ _ s1 r1 (.bl _) trivial⟩
theorem rd_tail {K : PySem.W.Frag} {σ : Sg} {st st1 : Sl} {H H1 : Hp} {Q : VK} {t : Sl → T (Cell × Sl)} (s1 : Stp R.L σ st st1 H H1) (r1 : RelS K R.L R.B H1 σ st1)
    (h : (t st1).All (fun p => ∀ v H', Stp R.L σ st p.2 H H' → RelS K R.L R.B H' σ p.2 → RepV K R.L H' v p.1 → Fresh R.L R.B H σ p.2 v p.1 → Q v H') (EW K R σ st1 H1)) : Rd K R t σ H1 Q :=
  ⟨st1, r1, T.all_mono (fun p hp v H' s2 r2 rv f => hp v H' (s1.trans s2) r2 rv (by
    obtain ⟨c, st'⟩ := p
    cases c with
    | ow ds => exact fun a e => ⟨s1.none (f a e).1, (f a e).2⟩
    | _ => trivial)) (fun _ _ _ h => h) _ h⟩
theorem pe_andR {rest : List Expr} (ha : PE X x (Rd X.K R (ev G a))) (hb : PE X (.BoolOp .And (y :: rest) pos) (Rd X.K R (ev G b))) : PE X (.BoolOp .And (x :: y :: rest) pos) (Rd X.K R (ev G (.and_ a b))) :=
  PE.imp (pe_and ha hb) fun σ H Q ⟨st, hr, h⟩ => by
  unfold ev at h
  refine rd_bind hr h fun p v H1 s1 r1 rv f h1 => ?_
  obtain ⟨c, e, h2⟩ := T.all_none h1
  rw [bool_some e] at rv
  refine ⟨c, sh_bl rv, ?_⟩
  cases c with
  | true =>
    rw [if_pos rfl]
    exact rd_tail s1 r1 h2
  | false =>
    rw [if_neg Bool.false_ne_true]
    exact h2 _ _ s1 r1 (.bl _) trivial
theorem pe_orR {rest : List Expr} (ha : PE X x (Rd X.K R (ev G a))) (hb : PE X (.BoolOp .Or (y :: rest) pos) (Rd X.K R (ev G b))) : PE X (.BoolOp .Or (x :: y :: rest) pos) (Rd X.K R (ev G (.or_ a b))) :=
  PE.imp (pe_or ha hb) fun σ H Q ⟨st, hr, h⟩ => by
  unfold ev at h
  refine rd_bind hr h fun p v H1 s1 r1 rv f h1 => ?_
  obtain ⟨c, e, h2⟩ := T.all_none h1
  rw [bool_some e] at rv
  refine ⟨c, sh_bl rv, ?_⟩
  cases c with
  | true =>
    rw [if_pos rfl]
    exact h2 _ _ s1 r1 (.bl _) trivial
  | false =>
    rw [if_neg Bool.false_ne_true]
    exact rd_tail s1 r1 h2
theorem pe_iteR (hc : PT X z (RdT X.K R (ev G c))) (ha : PE X x (Rd X.K R (ev G a))) (hb : PE X y (Rd X.K R (ev G b))) : PE X (.IfExp z x y pos) (Rd X.K R (ev G (.ite c a b))) :=
  PE.imp (pe_ifExp hc ha hb) fun σ H Q ⟨st, hr, h⟩ => by
  unfold ev at h
  refine rdT_bind (k := fun k st => cond k (ev G a st) (ev G b st)) hr h fun k st1 H1 s1 r1 h1 => ?_
  cases k with
  | true =>
    rw [if_pos rfl]
    exact rd_tail s1 r1 h1
  | false =>
    rw [if_neg Bool.false_ne_true]
    exact rd_tail s1 r1 h1
theorem none_iff {K : PySem.W.Frag} {L : Lw} {H : Hp} {v : V} {c : Cell} {d : D} (r : RepV K L H v c) (e : c.d? = some d) : decide (v = V.non) = isNone d := by
  cases c with
  | sh d' =>
    cases e
    cases d with
    | dict _ => cases r
    | _ => cases r <;> simp [isNone]
  | ow ds =>
    cases e
    obtain ⟨a, xs, rfl, _⟩ := r
    simp [isNone]
  | st => cases e
  | amb => cases e
theorem pe_isNR {j : Nat} {pos' : Pos} (ha : PE X x (RdP X.K R G a)) : PE X (.Compare x [.Is] [.Constant .none j pos'] pos) (Rd X.K R (ev G (.isN a))) := PE.imp (pe_cmp (pc_isN ha)) fun σ H Q ⟨st, hr, h⟩ => by
  unfold ev at h
  refine rdP_bind hr h fun p v H1 s1 r1 k1 h1 => ?_
  obtain ⟨d, e, h2⟩ := T.all_none h1
  rw [none_iff (kept_rep k1 r1) e]
  exact h2 _ _ s1 r1 (.bl _) trivial
theorem pe_notNR {j : Nat} {pos' : Pos} (ha : PE X x (RdP X.K R G a)) : PE X (.Compare x [.IsNot] [.Constant .none j pos'] pos) (Rd X.K R (ev G (.notN a))) := PE.imp (pe_cmp (pc_notN ha)) fun σ H Q ⟨st, hr, h⟩ => by
  unfold ev at h
  refine rdP_bind hr h fun p v H1 s1 r1 k1 h1 => ?_
  obtain ⟨d, e, h2⟩ := T.all_none h1
  rw [none_iff (kept_rep k1 r1) e]
  exact h2 _ _ s1 r1 (.bl _) trivial
theorem pt_isNR {j : Nat} {pos' : Pos} (ha : PE X x (RdP X.K R G a)) : PT X (.Compare x [.Is] [.Constant .none j pos'] pos) (RdT X.K R (ev G (.isN a))) := PT.imp (pt_cmp (pc_isN ha)) fun σ H Q ⟨st, hr, h⟩ => by
  unfold ev at h
  simp only [T.bind_assoc, T.bind_ok, bool_sh, T.opt_some] at h
  refine rdP_bind hr h fun p v H1 s1 r1 k1 h1 => ?_
  obtain ⟨d, e, h2⟩ := T.all_none h1
  rw [none_iff (kept_rep k1 r1) e]
  exact ⟨_, rfl, h2 _ s1 r1⟩
theorem pt_notNR {j : Nat} {pos' : Pos} (ha : PE X x (RdP X.K R G a)) : PT X (.Compare x [.IsNot] [.Constant .none j pos'] pos) (RdT X.K R (ev G (.notN a))) := PT.imp (pt_cmp (pc_notN ha)) fun σ H Q ⟨st, hr, h⟩ => by
  unfold ev at h
  simp only [T.bind_assoc, T.bind_ok, bool_sh, T.opt_some] at h
  refine rdP_bind hr h fun p v H1 s1 r1 k1 h1 => ?_
  obtain ⟨d, e, h2⟩ := T.all_none h1
  rw [none_iff (kept_rep k1 r1) e]
  exact ⟨_, rfl, h2 _ s1 r1⟩
end
end Rf
set_option Elab.async false
set_option linter.all false
set_option maxRecDepth 100000
set_option maxHeartbeats 1000000
/-! Rf9: displays, slices, built-ins, calls. -/
namespace Rf
open PySem PySem.Spec PyProof.Rows
open L2 hiding St

section
variable {X : Cx} {R : Rc} {G : Env} {x y z : Expr} {xs : List Expr} {a b c : IE} {as : IEs} {pos : Pos}
theorem PA.imp {es : List Expr} {t t' : TA} (h : PA X es t) (i : ∀ σ H Q, t' σ H Q → t σ H Q) : PA X es t' := ⟨fun pos pins s σ H Q I q => h.run pos pins s σ H Q I (i σ H Q q)⟩
/-- items -/
def RdL (K : PySem.W.Frag) (R : Rc) (t : Sl → T (List D × Sl)) : TA := fun σ H Q => ∃ st, RelS K R.L R.B H σ st ∧
  (t st).All (fun p => ∀ vs H', Stp R.L σ st p.2 H H' → RelS K R.L R.B H' σ p.2 → DFs K H' vs p.1 → Q vs H') (EW K R σ st H)
theorem rdF_bind {K : PySem.W.Frag} {α : Type} {t : Sl → T (Cell × Sl)} {k : Cell → Sl → T α} {P : α → Prop} {σ : Sg} {st : Sl} {H : Hp} {Q : VK} (hr : RelS K R.L R.B H σ st) (h : ((t st).bind fun p => k p.1.fz p.2).All P (EW K R σ st H))
    (hk : ∀ c st1 v H1, Stp R.L σ st st1 H H1 → RelS K R.L R.B H1 σ st1 → RepV K R.L H1 v c → (∀ ds, c ≠ .ow ds) → (k c st1).All P (EW K R σ st1 H1) → Q v H1) : RdF K R t σ H Q :=
  ⟨st, hr, T.all_mono (fun p hp v H1 s1 r1 rv => hk p.1.fz p.2 v H1 s1 r1 rv (by intro ds; cases p.1 <;> (intro z; cases z)) (all_move s1 hp)) (fun _ _ _ h => h) _ (T.all_bind _ h)⟩
theorem pa_nilR : PA X [] (RdL X.K R (evs G .nil)) := PA.imp pa_nil fun σ H Q ⟨st, hr, q⟩ => by
  unfold evs at q
  exact q [] H Stp.refl hr .nil
theorem pa_consR (ha : PE X x (Rd X.K R (ev G a))) (hs : PA X xs (RdL X.K R (evs G as))) (he : starEach (x :: xs) X.env = (false, eval x X.env) :: starEach xs X.env) : PA X (x :: xs) (RdL X.K R (evs G (.cons a as))) :=
  PA.imp (pa_cons (pe_fz ha) hs he) fun σ H Q ⟨st, hr, q⟩ => by
  unfold evs at q
  refine rdF_bind (k := fun c st1 => (T.opt c.sh?).bind fun d => (evs G as st1).bind fun q => T.ok (d :: q.1, q.2)) hr q fun c st1 v H1 s1 r1 rv nc h1 => ?_
  obtain ⟨d, e, h2⟩ := T.all_none h1
  rw [sh_some e] at rv
  refine ⟨st1, r1, T.all_mono (fun p hp vs H' s2 r2 g => hp (v :: vs) H' (s1.trans s2) r2 (.cons (DF.imm s2.imm _ _ rv) g)) (fun _ _ _ h => h) _ (T.all_bind _ h2)⟩
theorem pe_tupR {k : Nat} (h : PA X xs (RdL X.K R (evs G as))) : PE X (.Tuple xs k pos) (Rd X.K R (ev G (.tup as))) := PE.imp (pe_tup h) fun σ H Q ⟨st, hr, q⟩ => by
  unfold ev at q
  refine ⟨st, hr, T.all_mono (fun p hp vs H1 s1 r1 g => ?_) (fun _ _ _ h => h) _ (T.all_bind _ q)⟩
  split at hp
  · rename_i hz
    refine ⟨by rw [g.length, ← line_eq]; exact hz, fun a ha => ?_⟩
    have n : NewS H1 (upd H1 a (.tup vs)) := .new a _ ha
    exact hp (.ref a) _ (s1.trans n.stp) (n.rel r1) (.tup (SqT.of upd_same) (DFs.imm (Imm.upd ha) _ _ g)) trivial
  · exact hp.elim
theorem pe_lstR (h : PA X xs (RdL X.K R (evs G as))) : PE X (.List xs pos) (Rd X.K R (ev G (.lst as))) := PE.imp (pe_lst h) fun σ H Q ⟨st, hr, q⟩ => by
  unfold ev at q
  refine ⟨st, hr, T.all_mono (fun p hp vs H1 s1 r1 g => ?_) (fun _ _ _ h => h) _ (T.all_bind _ q)⟩
  split at hp
  · rename_i hz
    refine ⟨by rw [g.length, ← line_eq]; exact hz, fun a ha => ?_⟩
    have n : NewS H1 (upd H1 a (.lst vs)) := .new a _ ha
    have s2 := s1.trans (n.stp (L := R.L) (σ := σ) (st := p.2))
    exact hp (.ref a) _ s2 (n.rel r1) ⟨a, vs, rfl, upd_same, DFs.imm (Imm.upd ha) _ _ g⟩ (fun b e => by cases e; exact ⟨s1.none ha, r1.freeA ha⟩)
  · exact hp.elim

/-! ### slices -/
theorem pe_slcR {lo hi : Option Expr} {l h : IO} {p2 : Pos} (ha : PE X x (RdP X.K R G a))
    (hl : PO X lo (fun σ H Q => ∃ st, RelS X.K R.L R.B H σ st ∧ (evo G l st).All (fun p => ∀ H', Stp R.L σ st p.2 H H' → RelS X.K R.L R.B H' σ p.2 → Q p.1 H') (EW X.K R σ st H)))
    (hh : PO X hi (fun σ H Q => ∃ st, RelS X.K R.L R.B H σ st ∧ (evo G h st).All (fun p => ∀ H', Stp R.L σ st p.2 H H' → RelS X.K R.L R.B H' σ p.2 → Q p.1 H') (EW X.K R σ st H))) :
    PE X (.Subscript x (.Slice lo hi none p2) pos) (Rd X.K R (ev G (.slc a l h))) := PE.imp (pe_slice (sl_A (L := R.L)) ha hl hh) fun σ H Q ⟨st, hr, q⟩ => by
  unfold ev at q
  refine rdP_bind hr q fun p v H1 s1 r1 k1 h1 => ?_
  refine ⟨p.2, r1, T.all_mono (fun q hq H2 s2 r2 => ?_) (fun _ _ _ h => h) _ (T.all_bind _ h1)⟩
  refine ⟨q.2, r2, T.all_mono (fun r hr3 H3 s3 r3 => ?_) (fun _ _ _ h => h) _ (all_move s2 (T.all_bind _ hq))⟩
  obtain ⟨c', rc, h4⟩ := again_ok k1 (s2.trans s3) r3 hr3
  obtain ⟨w, e, h5⟩ := T.all_none h4
  exact ⟨c', w, e, rc, fun u H' n rw' ow => h5 u H' (((s1.trans s2).trans s3).trans n.stp) (n.rel r3) rw' (ow.fresh r3 ((s1.trans s2).trans s3))⟩
theorem po_noneR : PO X none (fun σ H Q => ∃ st, RelS X.K R.L R.B H σ st ∧ (evo G .none st).All (fun p => ∀ H', Stp R.L σ st p.2 H H' → RelS X.K R.L R.B H' σ p.2 → Q p.1 H') (EW X.K R σ st H)) :=
  ⟨fun pins s σ H Q I ⟨st, hr, q⟩ => po_none.run pins s σ H Q I (by unfold evo at q; exact q H Stp.refl hr)⟩
theorem po_someR (h : PE X x (Rd X.K R (ev G a))) : PO X (some x) (fun σ H Q => ∃ st, RelS X.K R.L R.B H σ st ∧ (evo G (.some a) st).All (fun p => ∀ H', Stp R.L σ st p.2 H H' → RelS X.K R.L R.B H' σ p.2 → Q p.1 H') (EW X.K R σ st H)) :=
  ⟨fun pins s σ H Q I ⟨st, hr, q⟩ => (po_some h).run pins s σ H Q I (by
    unfold evo at q
    refine rd_bind hr q fun p v H1 s1 r1 rv f h1 => ?_
    obtain ⟨i, e, h2⟩ := T.all_none h1
    rw [int_some e] at rv
    exact ⟨i, sh_int rv, h2 H1 s1 r1⟩)⟩
theorem pe_revR {k : Nat} {p1 p2 p3 : Pos} (ha : PE X x (RdP X.K R G a)) : PE X (.Subscript x (.Slice none none (some (.UnaryOp .USub (.Constant (.int 1) k p1) p2)) p3) pos) (Rd X.K R (ev G (.rev a))) := PE.imp (pe_revL ha) fun σ H Q ⟨st, hr, h⟩ => by
  unfold ev at h
  refine rdP_bind hr h fun p v H1 s1 r1 k1 h1 => ?_
  obtain ⟨w, e, h2⟩ := T.all_none h1
  have rv := kept_rep k1 r1
  obtain ⟨ds, hc, rfl⟩ : ∃ ds, (p.1 = .ow ds ∨ p.1 = .sh (.list ds)) ∧ w = .ow ds.reverse := by
    cases hp : p.1 with
    | sh d => rw [hp] at e; cases d <;> first | (cases e; exact ⟨_, .inr rfl, rfl⟩) | cases e
    | ow ds => rw [hp] at e; cases e; exact ⟨_, .inl rfl, rfl⟩
    | st => rw [hp] at e; cases e
    | amb => rw [hp] at e; cases e
  obtain ⟨a', vs, rfl, hq, g⟩ := rv.lst hc
  refine ⟨a', vs, rfl, .inl hq, fun q hq2 => ?_⟩
  have n : NewS H1 (upd H1 q (.lst vs.reverse)) := .new q _ hq2
  exact h2 (.ref q) _ (s1.trans n.stp) (n.rel r1) ⟨q, _, rfl, upd_same, DFs.imm (Imm.upd hq2) _ _ g.reverse⟩ (fun b e => by cases e; exact ⟨s1.none hq2, r1.freeA hq2⟩)

/-! ### built-ins -/
def RdB (K : PySem.W.Frag) (R : Rc) (t : Sl → T (List Cell × Sl)) : TA := fun σ H Q => ∃ st, RelS K R.L R.B H σ st ∧
  (t st).All (fun p => ∀ vs H', Stp R.L σ st p.2 H H' → RelS K R.L R.B H' σ p.2 → Reps K R.L H' vs p.1 → Q vs H') (EW K R σ st H)
theorem pab_nilR : PA X [] (RdB X.K R (evb G .nil)) := PA.imp pa_nil fun σ H Q ⟨st, hr, q⟩ => by
  unfold evb at q
  exact q [] H Stp.refl hr .nil
theorem pab_consR (ha : PE X x (RdP X.K R G a)) (hs : PA X xs (RdB X.K R (evb G as))) (he : starEach (x :: xs) X.env = (false, eval x X.env) :: starEach xs X.env) : PA X (x :: xs) (RdB X.K R (evb G (.cons a as))) :=
  PA.imp (pa_cons ha hs he) fun σ H Q ⟨st, hr, q⟩ => by
  unfold evb at q
  refine rdP_bind hr q fun p v H1 s1 r1 k1 h1 => ?_
  refine ⟨p.2, r1, T.all_mono (fun q hq vs H' s2 r2 g => ?_) (fun _ _ _ h => h) _ (T.all_bind _ h1)⟩
  obtain ⟨c', rc, h3⟩ := again_ok k1 s2 r2 (all_move s2 hq)
  exact h3 (v :: vs) H' (s1.trans s2) r2 (.cons rc g)
theorem bi_tail {K : PySem.W.Frag} {f : IB} {σ : Sg} {st : Sl} {H : Hp} {Q : VK} (hr : RelS K R.L R.B H σ st) (h : (ev G (.bi f as) st).All (fun p => ∀ v H', Stp R.L σ st p.2 H H' → RelS K R.L R.B H' σ p.2 → RepV K R.L H' v p.1 → Fresh R.L R.B H σ p.2 v p.1 → Q v H') (EW K R σ st H)) :
    RdB K R (evb G as) σ H fun vs H1 => rBi K R.L f vs H1 Q := by
  unfold ev at h
  refine ⟨st, hr, T.all_mono (fun p hp vs H1 s1 r1 g => ?_) (fun _ _ _ h => h) _ (T.all_bind _ h)⟩
  obtain ⟨r, e, h2⟩ := T.all_none hp
  exact ⟨p.1, r, e, g, fun u H' n rw' ow => h2 u H' (s1.trans n.stp) (n.rel r1) rw' (ow.fresh r1 s1)⟩
theorem pe_biB {n : Str} {p1 : Pos} {id : String} {f : IB} (hc : CallR X (.builtin id) (rBi X.K R.L f)) (hg : Gl X n) (hm : X.mg n = none) (hv : bootBuiltins n = some (.builtin id)) (ha : PA X (x :: xs) (RdB X.K R (evb G as)))
    (hn : n ≠ "__name__") (hdb : (n == ("__debug__" : Str)) = false) (he : starEach (x :: xs) X.env = (false, eval x X.env) :: starEach xs X.env) (hpl : (backTo pos (starEach xs X.env)).any (·.1) = false) :
    PE X (.Call (.Name n p1) (x :: xs) [] pos) (Rd X.K R (ev G (.bi f as))) := PE.imp (pe_callB hc hg hm hv ha hn hdb he hpl) fun σ H Q ⟨st, hr, h⟩ => bi_tail hr h
theorem pe_biT {n : Str} {p1 : Pos} {id : String} {f : IB} (hc : CallR X (.type id) (rBi X.K R.L f)) (hg : Gl X n) (hm : X.mg n = none) (hv : bootBuiltins n = some (.type id)) (ha : PA X (x :: xs) (RdB X.K R (evb G as)))
    (hn : n ≠ "__name__") (hdb : (n == ("__debug__" : Str)) = false) (he : starEach (x :: xs) X.env = (false, eval x X.env) :: starEach xs X.env) (hpl : (backTo pos (starEach xs X.env)).any (·.1) = false) :
    PE X (.Call (.Name n p1) (x :: xs) [] pos) (Rd X.K R (ev G (.bi f as))) := PE.imp (pe_callTy hc hg hm hv ha hn hdb he hpl) fun σ H Q ⟨st, hr, h⟩ => bi_tail hr h
theorem pe_biG {n : Str} {p1 : Pos} {id : String} {f : IB} (hc : CallR X (.builtin id) (rBi X.K R.L f)) (hg : Gl X n) (hm : X.mg n = some (.builtin id)) (ha : PA X (x :: xs) (RdB X.K R (evb G as)))
    (hdb : (n == ("__debug__" : Str)) = false) (he : starEach (x :: xs) X.env = (false, eval x X.env) :: starEach xs X.env) (hpl : (backTo pos (starEach xs X.env)).any (·.1) = false) :
    PE X (.Call (.Name n p1) (x :: xs) [] pos) (Rd X.K R (ev G (.bi f as))) := PE.imp (pe_callBfun hc hg hm ha hdb he hpl) fun σ H Q ⟨st, hr, h⟩ => bi_tail hr h
theorem pe_isiR {n : Str} {p1 p2 : Pos} {f : IB} {t : String} (ht : isiT f = some t) (hg : Gl X "isinstance") (hm : X.mg "isinstance" = none) (hg2 : Gl X n) (hm2 : X.mg n = none) (hv2 : bootBuiltins n = some (.type t)) (hn2 : n ≠ "__name__") (hdb2 : (n == ("__debug__" : Str)) = false)
    (ha : PE X x (RdP X.K R G a)) (he : starEach [x, .Name n p2] X.env = (false, eval x X.env) :: starEach [.Name n p2] X.env) : PE X (.Call (.Name "isinstance" p1) [x, .Name n p2] [] pos) (Rd X.K R (ev G (.bi f (.cons a .nil)))) := by
  have h1 : PA X [x, .Name n p2] _ := pa_cons ha (pa_cons (pe_bltn (pos := p2) hg2 hm2 hv2 (v := .ty t) rfl hn2 hdb2) pa_nil) he
  refine PE.imp (pe_callB (b_isi (L := R.L) f t ht) hg hm (by decide +kernel) h1 (by decide) (by decide) he rfl) fun σ H Q ⟨st, hr, h⟩ => ?_
  unfold ev evb at h
  simp only [T.bind_assoc, T.bind_ok] at h
  refine rdP_bind hr h fun p v H1 s1 r1 k1 h1 => ?_
  unfold evb at h1
  simp only [T.bind_assoc, T.bind_ok] at h1
  obtain ⟨c', rc, h3⟩ := again_ok k1 Stp.refl r1 h1
  obtain ⟨r, e, h4⟩ := T.all_none h3
  exact ⟨v, c', r, rfl, e, rc, fun u H' n rw' ow => h4 u H' (s1.trans n.stp) (n.rel r1) rw' (ow.fresh r1 s1)⟩

/-! ### constants of the module -/
theorem pe_glR {n : Str} {g : Nat} {d : D} {u : Value} {v : V} (hg : Gl X n) (hm : X.mg n = some u) (r : RelV v u) (hd : (n == ("__debug__" : Str)) = false) (hG : G.gl[g]? = some d) (hv : ∀ H, DF X.K H v d) : PE X (.Name n pos) (Rd X.K R (ev G (.gl g))) :=
  PE.imp (pe_glob hg hm r hd) fun σ H Q ⟨st, hr, q⟩ => by
  unfold ev at q
  rw [hG] at q
  exact q v H Stp.refl hr (hv H) trivial

/-! ### calls of the package's defs -/
/-- FnOk, where no repr is under way -/
structure FnG (P : Program) (w : World) (K : PySem.W.Frag) (mg : Str → Option Value) (base : Heap) (k : Nat) (f : Addr) (fd : FuncData) (ps : List Str) (sp : Sp) : Prop where
  len : ∀ vs H Q E, sp vs H Q E → vs.length = ps.length
  run : ∀ (A : Around) (outer : List PySem.Env) (s : Shared) (H : Hp) (args : Args) (us : List Value) (vs : List V) (Q : VK) (E : XK), A.guards = some [] → Room k A → Env0 P w K mg base A outer s H → BindsTo s fd args (ps.zip us) → Vals vs us → sp vs H Q E →
    codeAny (model P w) A (.call (.ref f) args) (CR (CX P w) outer P w H s Q E) s
theorem FnG.of {P : Program} {w : World} {K : PySem.W.Frag} {mg : Str → Option Value} {base : Heap} {k : Nat} {f : Addr} {fd : FuncData} {ps : List Str} {sp : Sp} (F : FnOk P w K mg base (CX P w) k f fd ps sp) : FnG P w K mg base k f fd ps sp := ⟨F.len, fun A outer s H args us vs Q E _ => F.run A outer s H args us vs Q E⟩
theorem FnG.mono {P : Program} {w : World} {K : PySem.W.Frag} {mg : Str → Option Value} {base : Heap} {j k : Nat} {f : Addr} {fd : FuncData} {ps : List Str} {sp : Sp} (F : FnG P w K mg base j f fd ps sp) (h : j ≤ k) : FnG P w K mg base k f fd ps sp := ⟨F.len, fun A outer s H args us vs Q E gu hr => F.run A outer s H args us vs Q E gu (hr.mono h)⟩
theorem FnG.imp {P : Program} {w : World} {K : PySem.W.Frag} {mg : Str → Option Value} {base : Heap} {k : Nat} {f : Addr} {fd : FuncData} {ps : List Str} {sp sp' : Sp} (F : FnG P w K mg base k f fd ps sp) (h : ∀ vs H Q E, sp' vs H Q E → sp vs H Q E) : FnG P w K mg base k f fd ps sp' :=
  ⟨fun vs H Q E q => F.len vs H Q E (h _ _ _ _ q), fun A outer s H args us vs Q E gu hr he hb hv hs => F.run A outer s H args us vs Q E gu hr he hb hv (h _ _ _ _ hs)⟩
/-- such a def run -/
theorem run_fnG {W : WX} {pins : List (Addr × Obj)} {σ : Sg} {H : Hp} {s : Shared} {Q : VK} {us : List Value} {vs : List V} {k : Nat} {fa : Addr} {fd : FuncData} {ps : List Str} {sp : Sp} (F : FnG X.prog X.w X.K X.mg X.base k fa fd ps sp) (gu : X.A.guards = some []) (hr : Room k X.A) (hb : Binds X.K fd ps [])
    (tk : Takes X W) (I : Inv X pins σ H s) (r : Vals vs us) (h : sp vs H Q (WE W σ)) : wpAny (model X.prog X.w) X.A (call (.ref fa) us) (EP X pins σ Q) X.xe s := by
  have hl : us.length = ps.length := by rw [← r.length]; exact F.len _ _ _ _ h
  have b := hb s us I.kIn (by rw [List.append_nil]; exact hl)
  rw [List.append_nil] at b
  refine wpAny_call (codeAny_mono (F.run X.A X.stack s H ⟨us, []⟩ us vs Q (WE W σ) gu hr I.env0 b r h) fun r s' hq => ?_)
  cases r with
  | error e => exact passAt tk σ pins H s e s' I hq
  | ok fl =>
    cases fl with
    | ret u => exact I.after hq
    | next => exact hq.elim
    | brk => exact hq.elim
    | cont => exact hq.elim
/-- a promise: what the evaluator tells -/
def Fp (K : PySem.W.Frag) (L : Lw) (xi : XI) (t : List Cell → Nat → T (Cell × Nat)) : Sp := fun vs H Q E => ∃ cs n, L.ok n H ∧ Reps K L H vs cs ∧ (∀ c ∈ cs, ∀ ds, c ≠ .ow ds) ∧
  (t cs n).All (fun c => ∀ v H', Ext L H H' → L.ok c.2 H' → RepV K L H' v c.1 → OwnN H v c.1 → Q v H') (fun x as st => ∀ cls d H', Ext L H H' → L.ok st.n H' → ExcR K xi H' cls d x as → E cls d H')
theorem Reps.length {K : PySem.W.Frag} {L : Lw} {H : Hp} : ∀ {cs : List Cell} {vs : List V}, Reps K L H vs cs → vs.length = cs.length
  | [], _, h => by cases h; rfl
  | _ :: _, _, h => by
    cases h with
    | cons h1 h2 => rw [List.length_cons, List.length_cons, Reps.length h2]
theorem ext_stp {L : Lw} {σ : Sg} {st : Sl} {n m : Nat} {H H' : Hp} (e : Ext L H H') (k : L.ok n H) (k' : L.ok m H') : Stp L σ st (st.spent m) H H' :=
  ⟨fun a o h n _ => e a o h n, e.imm k, fun _ z => z, fun a o h => Classical.byCases (p := L.A a) (fun z => let ⟨u, q, _⟩ := L.there _ H' a k' z; ⟨u, q⟩) fun z => ⟨o, e a o h z⟩⟩
theorem ext_rel {K : PySem.W.Frag} {L : Lw} {B : Hp} {σ : Sg} {st : Sl} {m : Nat} {H H' : Hp} (r : RelS K L B H σ st) (e : Ext L H H') (k' : L.ok m H') : RelS K L B H' σ (st.spent m) where
  ext := r.ext.trans e
  law := k'
  len := r.len
  slot := fun i c q => by
    have imm := e.imm r.law
    obtain ⟨v, e1, rv⟩ := r.slot i c q
    refine ⟨v, e1, ?_⟩
    cases c with
    | sh d => exact DF.imm imm d v rv
    | ow ds =>
      obtain ⟨a, ys, rfl, h, g⟩ := rv
      exact ⟨a, ys, rfl, e a _ h (r.own a ⟨i, ds, q, e1⟩).2, DFs.imm imm _ _ g⟩
    | st => exact rv
    | amb => exact rv
  own := r.own
  dist := r.dist
/-- arguments, kept and shared -/
def NoOw (cs : List Cell) : Prop := ∀ c ∈ cs, ∀ ds, c ≠ Cell.ow ds
def RdC (K : PySem.W.Frag) (R : Rc) (t : Sl → T (List Cell × Sl)) : TA := fun σ H Q => ∃ st, RelS K R.L R.B H σ st ∧
  (t st).All (fun p => ∀ vs H', Stp R.L σ st p.2 H H' → RelS K R.L R.B H' σ p.2 → Reps K R.L H' vs p.1 → NoOw p.1 → Q vs H') (EW K R σ st H)
theorem pac_nilR : PA X [] (RdC X.K R (evc G .nil)) := PA.imp pa_nil fun σ H Q ⟨st, hr, q⟩ => by
  unfold evc at q
  exact q [] H Stp.refl hr .nil (fun c hc => by cases hc)
theorem pac_consR (ha : PE X x (Rd X.K R (ev G a))) (hs : PA X xs (RdC X.K R (evc G as))) (he : starEach (x :: xs) X.env = (false, eval x X.env) :: starEach xs X.env) : PA X (x :: xs) (RdC X.K R (evc G (.cons a as))) :=
  PA.imp (pa_cons (pe_fz ha) hs he) fun σ H Q ⟨st, hr, q⟩ => by
  unfold evc at q
  refine rdF_bind (k := fun c st1 => (evc G as st1).bind fun q => T.ok (c :: q.1, q.2)) hr q fun c st1 v H1 s1 r1 rv nc h1 => ?_
  refine ⟨st1, r1, T.all_mono (fun p hp vs H' s2 r2 g no => hp (v :: vs) H' (s1.trans s2) r2 (.cons ?_ g) ?_) (fun _ _ _ h => h) _ (T.all_bind _ h1)⟩
  · exact (rv.stp (H0 := H1) (B := R.B) (by cases c <;> first | trivial | exact absurd rfl (nc _)) s2).1
  · intro b hb
    rcases List.mem_cons.mp hb with rfl | hb
    · exact nc
    · exact no b hb
/-- behind the arguments: the call -/
theorem call_tail {K : PySem.W.Frag} {f : Nat} {σ : Sg} {st : Sl} {H : Hp} {Q : VK} (hr : RelS K R.L R.B H σ st) (h : (ev G (.call f as) st).All (fun p => ∀ v H', Stp R.L σ st p.2 H H' → RelS K R.L R.B H' σ p.2 → RepV K R.L H' v p.1 → Fresh R.L R.B H σ p.2 v p.1 → Q v H') (EW K R σ st H)) :
    RdC K R (evc G as) σ H fun vs H1 => Fp K R.L R.xi (G.cl f) vs H1 Q (WE R.W σ) := by
  unfold ev at h
  refine ⟨st, hr, T.all_mono (fun p hp vs H1 s1 r1 g no => ?_) (fun _ _ _ h => h) _ (T.all_bind _ h)⟩
  refine ⟨p.1, p.2.n, r1.law, g, no, T.all_mono (fun c hc v H' e k rv ow => ?_) (fun x as _ he cls d H' e k ex => ?_) _ (T.all_at _ (T.all_bind _ hp))⟩
  · have s2 := ext_stp (σ := σ) (st := p.2) e r1.law k
    have r2 := ext_rel r1 e k
    refine hc v H' (s1.trans s2) r2 rv ?_
    obtain ⟨c, m⟩ := c
    cases c with
    | ow ds =>
      intro a e2
      exact ⟨s1.none (ow a e2), r1.freeA (ow a e2)⟩
    | _ => trivial
  · exact he cls d H' (s1.trans (ext_stp e r1.law k)) (ext_rel r1 e k) ex
theorem pe_callR {k f : Nat} {fa : Addr} {fd : FuncData} {ps : List Str} {n : Str} {p1 : Pos} (tk : Takes X R.W) (F : FnG X.prog X.w X.K X.mg X.base k fa fd ps (Fp X.K R.L R.xi (G.cl f))) (gu : X.A.guards = some []) (hr : Room k X.A) (hg : Gl X n) (hm : X.mg n = some (.ref fa)) (hk : PySem.W.keepIn X.K (.ref fa) = true) (hb : Binds X.K fd ps [])
    (ha : PA X (x :: xs) (RdC X.K R (evc G as))) (hdb : (n == ("__debug__" : Str)) = false) (he : starEach (x :: xs) X.env = (false, eval x X.env) :: starEach xs X.env) (hpl : (backTo pos (starEach xs X.env)).any (·.1) = false) :
    PE X (.Call (.Name n p1) (x :: xs) [] pos) (Rd X.K R (ev G (.call f as))) := by
  refine ⟨fun pins s σ H Q I ⟨st, hr', h⟩ => ?_⟩
  refine wpAny_Call_Name_kw (ld_glob I hg hm ?_ hdb)
  refine PySem.W.callWith_K (h₀ := X.base) I.ok.mod.kin hk (thn (ha.run pos pins s σ H _ I (call_tail hr' h)) fun us s1 ⟨vs, H1, I1, r, q⟩ => ⟨I1.kIn, ?_⟩) he hpl
  exact run_fnG F gu hr hb tk I1 r q
theorem pe_callR0 {k f : Nat} {fa : Addr} {fd : FuncData} {ps : List Str} {n : Str} {p1 : Pos} (tk : Takes X R.W) (F : FnG X.prog X.w X.K X.mg X.base k fa fd ps (Fp X.K R.L R.xi (G.cl f))) (gu : X.A.guards = some []) (hr : Room k X.A) (hg : Gl X n) (hm : X.mg n = some (.ref fa)) (hk : PySem.W.keepIn X.K (.ref fa) = true) (hb : Binds X.K fd ps [])
    (hdb : (n == ("__debug__" : Str)) = false) : PE X (.Call (.Name n p1) [] [] pos) (Rd X.K R (ev G (.call f .nil))) := by
  refine ⟨fun pins s σ H Q I ⟨st, hr', h⟩ => ?_⟩
  refine wpAny_Call_Name_kw (ld_glob I hg hm ?_ hdb)
  obtain ⟨st', hr2, q⟩ := call_tail hr' h
  unfold evc at q
  exact PySem.W.callWith_K0 I.kIn hk (run_fnG (us := []) F gu hr hb tk I .nil (q [] H Stp.refl hr2 .nil (fun c hc => by cases hc)))
end
end Rf
set_option Elab.async false
set_option linter.all false
set_option maxRecDepth 100000
set_option maxHeartbeats 1000000
/-! Rf10: statements. -/
namespace Rf
open PySem PySem.Spec PyProof.Rows
open L2 hiding St

section
variable {K : PySem.W.Frag} {L : Lw} {B H H' : Hp} {σ : Sg} {st : Sl} {v : V} {c : Cell}
/-- a value is stored -/
theorem set_rel {i : Nat} (r : RelS K L B H σ st) (rv : RepV K L H v c) (fo : ∀ ds, c = .ow ds → ∀ a, v = .ref a → B a = none ∧ ¬ L.A a ∧ ¬ Owns σ st a) :
    RelS K L B H (σ.set i (some v)) (st.set i (some c)) := by
  have back : ∀ {j : Nat} {x : Option Cell}, j ≠ i → (st.set i (some c)).cs[j]? = some x → st.cs[j]? = some x := fun {j x} hj e => by rwa [List.getElem?_set_ne (Ne.symm hj)] at e
  have backσ : ∀ {j : Nat} {x : Option V}, j ≠ i → (σ.set i (some v))[j]? = some x → σ[j]? = some x := fun {j x} hj e => by rwa [List.getElem?_set_ne (Ne.symm hj)] at e
  have at_ : ∀ {x : Option Cell}, (st.set i (some c)).cs[i]? = some x → x = some c ∧ i < st.length := fun {x} e => by
    have hl : i < st.length := by
      have := (List.getElem?_eq_some_iff.mp e).1
      rwa [List.length_set] at this
    rw [List.getElem?_set_self hl] at e
    exact ⟨(Option.some.inj e).symm, hl⟩
  have atσ : i < st.length → (σ.set i (some v))[i]? = some (some v) := fun hl => List.getElem?_set_self (by rw [← r.len]; exact hl)
  refine ⟨r.ext, r.law, by rw [Sl.length_set, List.length_set]; exact r.len, fun j x e => ?_, fun a ⟨j, ds, e1, e2⟩ => ?_, fun j k ds es a e1 e2 e3 e4 => ?_⟩
  · by_cases hj : j = i
    · subst hj
      obtain ⟨e', hl⟩ := at_ e
      cases e'
      exact ⟨v, atσ hl, rv⟩
    · obtain ⟨u, e1, q⟩ := r.slot j x (back hj e)
      exact ⟨u, by rwa [List.getElem?_set_ne (Ne.symm hj)], q⟩
  · by_cases hj : j = i
    · subst hj
      obtain ⟨e', hl⟩ := at_ e1
      rw [atσ hl] at e2
      have h := fo ds (Option.some.inj e').symm a (Option.some.inj (Option.some.inj e2))
      exact ⟨h.1, h.2.1⟩
    · exact r.own a ⟨j, ds, back hj e1, backσ hj e2⟩
  · by_cases hj : j = i
    · by_cases hk : k = i
      · rw [hj, hk]
      · subst hj
        obtain ⟨e', hl⟩ := at_ e1
        rw [atσ hl] at e3
        exact absurd ⟨k, es, back hk e2, backσ hk e4⟩ (fo ds (Option.some.inj e').symm a (Option.some.inj (Option.some.inj e3))).2.2
    · by_cases hk : k = i
      · subst hk
        obtain ⟨e', hl⟩ := at_ e2
        rw [atσ hl] at e4
        exact absurd ⟨j, ds, back hj e1, backσ hj e3⟩ (fo es (Option.some.inj e').symm a (Option.some.inj (Option.some.inj e4))).2.2
      · exact r.dist j k ds es a (back hj e1) (back hk e2) (backσ hj e3) (backσ hk e4)
/-- an own list is rewritten -/
theorem upd_rel {i : Nat} {ds es : List D} {a : Addr} {xs ys : List V} (r : RelS K L B H σ st) (e : st.cs[i]? = some (some (.ow ds))) (hs : σ[i]? = some (some (.ref a))) (ha : H a = some (.lst xs)) (g : DFs K H ys es) :
    Imm H (upd H a (.lst ys)) ∧ RelS K L B (upd H a (.lst ys)) σ (st.set i (some (.ow es))) := by
  have own : Owns σ st a := ⟨i, ds, e, hs⟩
  have imm : Imm H (upd H a (.lst ys)) := fun b u q im => by
    by_cases hb : b = a
    · subst hb
      rw [ha] at q; cases q; exact im.elim
    · rw [upd_ne hb]; exact q
  obtain ⟨o1, o2⟩ := r.own a own
  have back : ∀ {j : Nat} {x : Option Cell}, j ≠ i → (st.set i (some (Cell.ow es))).cs[j]? = some x → st.cs[j]? = some x := fun {j x} hj e => by rwa [List.getElem?_set_ne (Ne.symm hj)] at e
  have key : ∀ {m : Nat} {fs : List D}, (st.set i (some (Cell.ow es))).cs[m]? = some (some (.ow fs)) → ∃ gs, st.cs[m]? = some (some (.ow gs)) := fun {m fs} q => by
    by_cases hm : m = i
    · subst hm
      exact ⟨ds, e⟩
    · exact ⟨fs, back hm q⟩
  refine ⟨imm, fun b u q n => ?_, L.keep _ _ _ r.law (fun b hb => upd_ne (fun z => by subst z; exact o2 hb)) imm, by rw [Sl.length_set]; exact r.len, fun j c q => ?_, fun b ⟨j, fs, e1, e2⟩ => ?_, fun j k fs gs b e1 e2 e3 e4 => ?_⟩
  · rw [upd_ne (fun z => by subst z; rw [o1] at q; cases q)]; exact r.ext b u q n
  · by_cases hj : j = i
    · subst hj
      rw [get_set_eq e] at q
      cases q
      exact ⟨_, hs, a, ys, rfl, upd_same, DFs.imm imm _ _ g⟩
    · obtain ⟨v, e1, rv⟩ := r.slot j c (back hj q)
      refine ⟨v, e1, ?_⟩
      cases c with
      | sh d => exact DF.imm imm d v rv
      | ow fs =>
        obtain ⟨b, zs, rfl, hb, gb⟩ := rv
        have nb : b ≠ a := fun z => by
          subst z
          exact hj (r.dist j i fs ds b (back hj q) e e1 hs)
        exact ⟨b, zs, rfl, by rw [upd_ne nb]; exact hb, DFs.imm imm _ _ gb⟩
      | st => exact rv
      | amb => exact rv
  · obtain ⟨gs, q⟩ := key e1
    exact r.own b ⟨j, gs, q, e2⟩
  · obtain ⟨f1, q1⟩ := key e1
    obtain ⟨f2, q2⟩ := key e2
    exact r.dist j k f1 f2 b q1 q2 e3 e4
end

section
variable {X : Cx} {R : Rc} {G : Env} {x y z : Expr} {xs : List Expr} {a b c : IE} {as : IEs} {pos : Pos} {s : IS} {ss : ISs} {S : Stmt} {SS : List Stmt}
theorem PS.imp {t t' : TS} (h : PS X S t) (i : ∀ D σ H, t' D σ H → t D σ H) : PS X S t' := ⟨fun pins s σ H D I q => h.run pins s σ H D I (i D σ H q)⟩
theorem PSs.imp {t t' : TS} (h : PSs X SS t) (i : ∀ D σ H, t' D σ H → t D σ H) : PSs X SS t' := ⟨fun pins s σ H D I q => h.run pins s σ H D I (i D σ H q)⟩
/-- a returned list is new to the caller -/
def OwnB (B : Hp) (v : V) : Cell → Prop
  | .ow _ => ∀ a, v = .ref a → B a = none
  | _ => True
def Fin (K : PySem.W.Frag) (R : Rc) (D : Ends) (σ : Sg) (H : Hp) : Out → Prop
  | .nx => D.nx σ H
  | .brk => D.bk σ H
  | .ret c => ∀ v, RepV K R.L H v c → OwnB R.B v c → D.rt v H
def ES (K : PySem.W.Frag) (R : Rc) (H : Hp) (x : Nat) (as : List D) (st : Sl) : Prop :=
  ∀ cls d σ H', Imm H H' → RelS K R.L R.B H' σ st → ExcR K R.xi H' cls d x as → R.W cls d σ H'
theorem ES.move {K : PySem.W.Frag} {H H1 : Hp} {x : Nat} {as : List D} {st : Sl} (i : Imm H H1) (e : ES K R H x as st) : ES K R H1 x as st := fun cls d σ H' i2 r ex => e cls d σ H' (i.trans i2) r ex
theorem ES.ew {K : PySem.W.Frag} {H : Hp} {σ : Sg} {st : Sl} {x : Nat} {as : List D} {st' : Sl} (e : ES K R H x as st') : EW K R σ st H x as st' := fun cls d H' s r ex => e cls d σ H' s.imm r ex
/-- what is wanted of an end -/
def FE (K : PySem.W.Frag) (R : Rc) (D : Ends) (H : Hp) (p : Out × Sl) : Prop := ∀ σ' H', Imm H H' → RelS K R.L R.B H' σ' p.2 → Fin K R D σ' H' p.1
theorem FE.move {K : PySem.W.Frag} {D : Ends} {H H1 : Hp} {p : Out × Sl} (i : Imm H H1) (e : FE K R D H p) : FE K R D H1 p := fun σ' H' i2 r => e σ' H' (i.trans i2) r
def RdS (K : PySem.W.Frag) (R : Rc) (t : Sl → T (Out × Sl)) : TS := fun D σ H => ∃ st, RelS K R.L R.B H σ st ∧ (t st).All (FE K R D H) (ES K R H)
theorem moveS {α : Type} {K : PySem.W.Frag} {H H1 : Hp} {P : α → Prop} {t : T α} (i : Imm H H1) (h : t.All P (ES K R H)) : t.All P (ES K R H1) := T.all_mono (fun _ h => h) (fun _ _ _ e => e.move i) t h
theorem moveF {K : PySem.W.Frag} {D : Ends} {H H1 : Hp} {t : T (Out × Sl)} (i : Imm H H1) (h : t.All (FE K R D H) (ES K R H)) : t.All (FE K R D H1) (ES K R H1) := T.all_mono (fun _ h => h.move i) (fun _ _ _ e => e.move i) t h
theorem toEW {α : Type} {K : PySem.W.Frag} {H : Hp} {σ : Sg} {st : Sl} {P : α → Prop} {t : T α} (h : t.All P (ES K R H)) : t.All P (EW K R σ st H) := T.all_mono (fun _ h => h) (fun _ _ _ e => e.ew) t h
/-- an expression ahead -/
theorem rdS_exp {K : PySem.W.Frag} {t : Sl → T (Cell × Sl)} {k : Cell × Sl → T (Out × Sl)} {D : Ends} {σ : Sg} {st : Sl} {H : Hp} {Q : VK} (hr : RelS K R.L R.B H σ st) (h : ((t st).bind k).All (FE K R D H) (ES K R H))
    (hk : ∀ p v H1, Stp R.L σ st p.2 H H1 → RelS K R.L R.B H1 σ p.2 → RepV K R.L H1 v p.1 → Fresh R.L R.B H σ p.2 v p.1 → (k p).All (FE K R D H1) (ES K R H1) → Q v H1) : Rd K R t σ H Q :=
  ⟨st, hr, T.all_mono (fun p hp v H1 s1 r1 rv f => hk p v H1 s1 r1 rv f (moveF s1.imm hp)) (fun _ _ _ e => e.ew) _ (T.all_bind _ h)⟩
theorem pss_nilR : PSs X [] (RdS X.K R (exs G .nil)) := PSs.imp pss_nil fun D σ H ⟨st, hr, h⟩ => by
  unfold exs at h
  exact h σ H (Imm.refl H) hr
theorem pss_consR (h1 : PS X S (RdS X.K R (ex G s))) (h2 : PSs X SS (RdS X.K R (exs G ss))) : PSs X (S :: SS) (RdS X.K R (exs G (.cons s ss))) := PSs.imp (pss_cons h1 h2) fun D σ H ⟨st, hr, h⟩ => by
  unfold exs at h
  refine ⟨st, hr, T.all_mono (fun p hp σ' H' i r => ?_) (fun _ _ _ e => e) _ (T.all_bind _ h)⟩
  obtain ⟨o, st'⟩ := p
  cases o with
  | nx => exact ⟨st', r, moveF i hp⟩
  | brk => exact hp σ' H' i r
  | ret c => exact hp σ' H' i r
theorem pss_oneR (h1 : PS X S (RdS X.K R (ex G s))) : PSs X [S] (RdS X.K R (exs G (.cons s .nil))) := pss_consR h1 pss_nilR
theorem ps_passR : PS X (.Pass pos) (RdS X.K R (ex G .pass)) := PS.imp ps_pass fun D σ H ⟨st, hr, h⟩ => by
  unfold ex at h
  exact h σ H (Imm.refl H) hr
theorem ps_brkR : PS X (.Break pos) (RdS X.K R (ex G .brk)) := PS.imp ps_break fun D σ H ⟨st, hr, h⟩ => by
  unfold ex at h
  exact h σ H (Imm.refl H) hr
theorem ps_setR {i : Nat} {n : Str} {p1 : Pos} (hN : X.N.Nodup) (hi : X.N[i]? = some n) (hx : Loc X.env.scope n) (he : PE X x (Rd X.K R (ev G a))) (hs : swapsWith x (some (.Name n p1)) pos.line X.env = pure false) (hf : X.fn n = true ∨ X.env.scope.names.lookup n = some .local) :
    PS X (.Assign [.Name n p1] x pos) (RdS X.K R (ex G (.set i a))) := PS.imp (ps_set hN hi hx he hs hf) fun D σ H ⟨st, hr, h⟩ => by
  unfold ex at h
  refine rdS_exp hr h fun p v H1 s1 r1 rv f h1 => ?_
  refine h1 _ H1 (Imm.refl _) (set_rel r1 rv fun ds e b eb => ?_)
  rw [e] at f
  exact (f b eb).2
theorem ps_exprR (he : PE X x (Rd X.K R (ev G a))) (hs : swapsWith x none pos.line X.env = pure false) : PS X (.Expr x pos) (RdS X.K R (ex G (.expr a))) := PS.imp (ps_expr he hs) fun D σ H ⟨st, hr, h⟩ => by
  unfold ex at h
  exact rdS_exp hr h fun p v H1 s1 r1 rv f h1 => h1 σ H1 (Imm.refl _) r1
theorem ps_docR {j : Nat} {t : Str} {p1 : Pos} : PS X (.Expr (.Constant (.str t) j p1) pos) (RdS X.K R (ex G .pass)) := PS.imp ps_doc fun D σ H ⟨st, hr, h⟩ => by
  unfold ex at h
  exact h σ H (Imm.refl H) hr
theorem kept_own {K : PySem.W.Frag} {H0 H : Hp} {σ : Sg} {st : Sl} {v : V} {c : Cell} (k : Kept K R H0 H σ st a v c) (r : RelS K R.L R.B H σ st) : OwnB R.B v c := by
  cases c with
  | ow ds =>
    intro q e
    subst e
    cases a with
    | var i => exact (r.own q ⟨i, ds, k.2, k.1⟩).1
    | _ => exact (k.2 q rfl).2.1
  | _ => trivial
theorem ps_retR (he : PE X x (RdP X.K R G a)) : PS X (.Return (some x) pos) (RdS X.K R (ex G (.ret a))) := PS.imp (ps_ret he) fun D σ H ⟨st, hr, h⟩ => by
  unfold ex at h
  refine ⟨st, hr, T.all_mono (fun p hp v H1 s1 r1 k => ?_) (fun _ _ _ e => e.ew) _ (T.all_bind _ h)⟩
  exact hp σ H1 s1.imm r1 v (kept_rep k r1) (kept_own k r1)
theorem ps_retNR : PS X (.Return none pos) (RdS X.K R (ex G .retN)) := PS.imp ps_retN fun D σ H ⟨st, hr, h⟩ => by
  unfold ex at h
  exact h σ H (Imm.refl H) hr .non .non trivial
/-- a test ahead -/
theorem rdS_tst {K : PySem.W.Frag} {t : Sl → T (Cell × Sl)} {k : Bool → Sl → T (Out × Sl)} {D : Ends} {σ : Sg} {st : Sl} {H : Hp} {Q : Bool → Hp → Prop} (hr : RelS K R.L R.B H σ st)
    (h : ((t st).bind fun p => (T.opt p.1.bool?).bind fun b => k b p.2).All (FE K R D H) (ES K R H))
    (hk : ∀ b st1 H1, Stp R.L σ st st1 H H1 → RelS K R.L R.B H1 σ st1 → (k b st1).All (FE K R D H1) (ES K R H1) → Q b H1) : RdT K R t σ H Q := by
  refine ⟨st, hr, T.all_bind' _ (T.all_mono (fun p hp => ?_) (fun _ _ _ e => e.ew) _ (T.all_bind _ h))⟩
  obtain ⟨b, e, h2⟩ := T.all_none hp
  rw [e]
  exact fun H1 s1 r1 => hk b p.2 H1 s1 r1 (moveF s1.imm h2)
theorem ps_ifR {A C : List Stmt} {sa sc : ISs} (hc : PT X x (RdT X.K R (ev G c))) (ha : PSs X A (RdS X.K R (exs G sa))) (hb : PSs X C (RdS X.K R (exs G sc))) : PS X (.If x A C pos) (RdS X.K R (ex G (.ifs c sa sc))) := PS.imp (ps_if hc ha hb) fun D σ H ⟨st, hr, h⟩ => by
  unfold ex at h
  refine rdS_tst (k := fun k st1 => cond k (exs G sa st1) (exs G sc st1)) hr h fun k st1 H1 s1 r1 h1 => ?_
  cases k with
  | true => exact ⟨st1, r1, h1⟩
  | false => exact ⟨st1, r1, h1⟩

/-! ### targets -/
/-- the same slots, the targets' apart -/
def Same (σ σ' : Sg) (tg : List Nat) : Prop := σ.length = σ'.length ∧ ∀ i, i ∉ tg → σ[i]? = σ'[i]?
theorem same_set (σ : Sg) (i : Nat) (v : Option V) : Same σ (σ.set i v) [i] := ⟨by rw [List.length_set], fun j hj => by rw [List.getElem?_set_ne (fun e => hj (by simp [e]))]⟩
theorem Same.refl (σ : Sg) (tg : List Nat) : Same σ σ tg := ⟨rfl, fun _ _ => rfl⟩
theorem Same.cons {σ σ' σ'' : Sg} {i : Nat} {tg : List Nat} (a : Same σ σ' [i]) (b : Same σ' σ'' tg) : Same σ σ'' (i :: tg) := ⟨a.1.trans b.1, fun j hj => by
  rw [List.mem_cons, not_or] at hj
  rw [a.2 j (by simp [hj.1]), b.2 j hj.2]⟩
def gRd (K : PySem.W.Frag) (R : Rc) (tg : List Nat) : TG := fun v σ H Q => ∃ st st' d, RelS K R.L R.B H σ st ∧ DF K H v d ∧ bindT tg d st = some st' ∧ ∀ σ', RelS K R.L R.B H σ' st' → Same σ σ' tg → Q σ' H
def gRds (K : PySem.W.Frag) (R : Rc) (tg : List Nat) : TGs := fun vs σ H Q => ∃ st st' ds, RelS K R.L R.B H σ st ∧ DFs K H vs ds ∧ sets tg ds st = some st' ∧ ∀ σ', RelS K R.L R.B H σ' st' → Same σ σ' tg → Q σ' H
theorem PG.imp {t t' : TG} (h : PG X x t) (i : ∀ v σ H Q, t' v σ H Q → t v σ H Q) : PG X x t' := ⟨fun pins s σ H v u Q I r q => h.run pins s σ H v u Q I r (i v σ H Q q)⟩
theorem PGs.imp {t t' : TGs} (h : PGs X xs t) (i : ∀ v σ H Q, t' v σ H Q → t v σ H Q) : PGs X xs t' := ⟨fun pins s σ H v u Q I r q => h.run pins s σ H v u Q I r (i v σ H Q q)⟩
theorem pg_oneR {i : Nat} {n : Str} (hN : X.N.Nodup) (hi : X.N[i]? = some n) (hx : Loc X.env.scope n) (hf : X.fn n = true ∨ X.env.scope.names.lookup n = some .local) : PG X (.Name n pos) (gRd X.K R [i]) := PG.imp (pg_name hN hi hx hf) fun v σ H Q ⟨st, st', d, hr, dv, e, q⟩ => by
  have e' : st.set i (some (.sh d)) = st' := Option.some.inj e
  subst e'
  exact q _ (set_rel hr dv fun ds e => by cases e) (same_set _ _ _)
theorem pgs_nilR : PGs X [] (gRds X.K R []) := PGs.imp pgs_nil fun vs σ H Q ⟨st, st', ds, hr, dv, e, q⟩ => by
  cases dv with
  | nil =>
    have e' : st = st' := Option.some.inj e
    subst e'
    exact ⟨rfl, q σ hr (Same.refl σ _)⟩
  | cons h1 h2 => cases e
theorem pgs_consR {i : Nat} {tg : List Nat} (h1 : PG X x (gRd X.K R [i])) (h2 : PGs X xs (gRds X.K R tg)) (hs : (assignEach (x :: xs) X.env).map (·.2) = assign x X.env :: (assignEach xs X.env).map (·.2)) : PGs X (x :: xs) (gRds X.K R (i :: tg)) :=
  PGs.imp (pgs_cons h1 h2 hs) fun vs σ H Q ⟨st, st', ds, hr, dv, e, q⟩ => by
  cases dv with
  | nil => cases e
  | cons g1 g2 => exact ⟨_, _, rfl, st, _, _, hr, g1, rfl, fun σ' r' z => ⟨_, st', _, r', g2, e, fun σ2 r2 z2 => q σ2 r2 (z.cons z2)⟩⟩
/-- a tuple, a list -/
theorem pg_seqR {tg : List Nat} {k n : Nat} (hc : X.calm = true) (h : PGs X xs (gRds X.K R tg)) (hn : (assignEach xs X.env).length = n) (hst : (assignEach xs X.env).findIdx? (·.1) = none) (hl : tg.length = n) :
    PG X (.Tuple xs k pos) (fun v σ H Q => ∃ st st' c ds, RelS X.K R.L R.B H σ st ∧ RepV X.K R.L H v c ∧ items? c = some ds ∧ sets tg ds st = some st' ∧ ∀ σ', RelS X.K R.L R.B H σ' st' → Same σ σ' tg → Q σ' H) := by
  refine ⟨fun pins s σ H v u Q I r ⟨st, st', c, ds, hr, rv, e, es, q⟩ => ?_⟩
  obtain ⟨a, vs, rfl, h1, g⟩ := rv.items e
  have len : ∀ {tg : List Nat} {ds : List D} {st st' : Sl}, sets tg ds st = some st' → tg.length = ds.length := by
    intro tg
    induction tg with
    | nil =>
      intro ds st st' e
      cases ds with
      | nil => rfl
      | cons d ds => cases e
    | cons i tg ih =>
      intro ds st st' e
      cases ds with
      | nil => cases e
      | cons d ds => rw [List.length_cons, List.length_cons, ih e]
  have hl2 : vs.length = n := by rw [g.length, ← len es, hl]
  rcases h1 with h1 | h1
  · exact (pg_lst hc h hn hst).run pins s σ H _ u Q I r ⟨a, vs, rfl, h1, hl2, st, st', ds, hr, g, es, q⟩
  · exact (pg_tup hc h hn hst).run pins s σ H _ u Q I r ⟨a, vs, rfl, h1, hl2, st, st', ds, hr, g, es, q⟩
theorem pg_manyR {tg : List Nat} {k n : Nat} (hc : X.calm = true) (h : PGs X xs (gRds X.K R tg)) (hn : (assignEach xs X.env).length = n) (hst : (assignEach xs X.env).findIdx? (·.1) = none) (hl : tg.length = n) (h2 : 2 ≤ n) :
    PG X (.Tuple xs k pos) (gRd X.K R tg) := PG.imp (pg_seqR hc h hn hst hl) fun v σ H Q ⟨st, st', d, hr, dv, e, q⟩ => by
  have : ∃ ds, items? (.sh d) = some ds ∧ sets tg ds st = some st' := by
    match tg, hl with
    | [], hl => exact absurd (show 0 = n from hl) (by omega)
    | [_], hl => exact absurd (show 1 = n from hl) (by omega)
    | i :: j :: tg, hl =>
      unfold bindT at e
      cases d with
      | tuple ds => exact ⟨ds, rfl, e⟩
      | _ => cases e
  obtain ⟨ds, e1, e2⟩ := this
  exact ⟨st, st', .sh d, ds, hr, dv, e1, e2, q⟩
theorem ps_setTR {tg : List Nat} {k n : Nat} {p1 : Pos} (hc : X.calm = true) (he : PE X x (Rd X.K R (ev G a))) (h : PGs X xs (gRds X.K R tg)) (hn : (assignEach xs X.env).length = n) (hst : (assignEach xs X.env).findIdx? (·.1) = none) (hl : tg.length = n)
    (hs : swapsWithSole [.Tuple xs k p1] x pos.line X.env = pure false) (hw : swappedStores [.Tuple xs k p1] x X.env = pure none) (h1 : (assignEach [.Tuple xs k p1] X.env).map (·.2) = [assign (.Tuple xs k p1) X.env]) :
    PS X (.Assign [.Tuple xs k p1] x pos) (RdS X.K R (ex G (.setT tg a))) := PS.imp (ps_asg he (pg_seqR hc h hn hst hl) hs hw h1) fun D σ H ⟨st, hr, h⟩ => by
  unfold ex at h
  refine rdS_exp hr h fun p v H1 s1 r1 rv f h1 => ?_
  obtain ⟨ds, e, h2⟩ := T.all_none h1
  obtain ⟨st', e2, h3⟩ := T.all_none h2
  exact ⟨p.2, st', p.1, ds, r1, rv, e, e2, fun σ' r' _ => h3 σ' H1 (Imm.refl _) r'⟩

/-! ### several at once -/
/-- values that are kept, their own lists apart from one another -/
inductive RepsN (K : PySem.W.Frag) (L : Lw) (B H0 H : Hp) (σ : Sg) (st : Sl) : List V → List Cell → Prop
  | nil : RepsN K L B H0 H σ st [] []
  | cons {v : V} {vs : List V} {c : Cell} {cs : List Cell} : RepV K L H v c → Fresh L B H0 σ st v c → (∀ a ds, c = .ow ds → v = .ref a → ∀ (j : Nat) (es : List PyData), cs[j]? = some (.ow es) → vs[j]? ≠ some (.ref a)) → RepsN K L B H0 H σ st vs cs →
      RepsN K L B H0 H σ st (v :: vs) (c :: cs)
def RdN (K : PySem.W.Frag) (R : Rc) (t : Sl → T (List Cell × Sl)) : TA := fun σ H Q => ∃ st, RelS K R.L R.B H σ st ∧
  (t st).All (fun p => ∀ vs H', Stp R.L σ st p.2 H H' → RelS K R.L R.B H' σ p.2 → RepsN K R.L R.B H H' σ p.2 vs p.1 → Q vs H') (EW K R σ st H)
theorem RepsN.back {K : PySem.W.Frag} {L : Lw} {B H0 H1 H : Hp} {σ : Sg} {st : Sl} (n : ∀ a, H1 a = none → H0 a = none) : ∀ {vs : List V} {cs : List Cell}, RepsN K L B H1 H σ st vs cs → RepsN K L B H0 H σ st vs cs
  | _, _, .nil => .nil
  | _, _, .cons (c := c) r f d h => .cons r (by
      cases c with
      | ow ds => exact fun a e => ⟨n a (f a e).1, (f a e).2⟩
      | _ => trivial) d (RepsN.back n h)
theorem RepsN.gone {K : PySem.W.Frag} {L : Lw} {B H0 H : Hp} {σ : Sg} {st : Sl} : ∀ {vs : List V} {cs : List Cell} {j : Nat} {es : List PyData} {a : Addr}, RepsN K L B H0 H σ st vs cs → cs[j]? = some (.ow es) → vs[j]? = some (.ref a) → H0 a = none
  | _, _, j, es, a, .nil, h, _ => by simp at h
  | _, _, 0, es, a, .cons r f d h, h1, h2 => by
    simp at h1 h2; subst h1 h2
    exact (f a rfl).1
  | _, _, j + 1, es, a, .cons r f d h, h1, h2 => RepsN.gone h (by simpa using h1) (by simpa using h2)
theorem pan_nilR : PA X [] (RdN X.K R (evn G .nil)) := PA.imp pa_nil fun σ H Q ⟨st, hr, q⟩ => by
  unfold evn at q
  exact q [] H Stp.refl hr .nil
theorem pan_consR (ha : PE X x (Rd X.K R (ev G a))) (hs : PA X xs (RdN X.K R (evn G as))) (he : starEach (x :: xs) X.env = (false, eval x X.env) :: starEach xs X.env) : PA X (x :: xs) (RdN X.K R (evn G (.cons a as))) :=
  PA.imp (pa_cons ha hs he) fun σ H Q ⟨st, hr, q⟩ => by
  unfold evn at q
  refine rd_bind hr q fun p v H1 s1 r1 rv f h1 => ?_
  refine ⟨p.2, r1, T.all_mono (fun q hq vs H' s2 r2 g => ?_) (fun _ _ _ h => h) _ (T.all_bind _ h1)⟩
  obtain ⟨rv2, f2⟩ := rv.stp f s2
  refine hq (v :: vs) H' (s1.trans s2) r2 (.cons rv2 f2 (fun a' ds ec ev j es hj hv => ?_) (g.back fun a h => s1.none h))
  have := g.gone hj hv
  rw [ec, ev] at rv
  obtain ⟨b, xs', e1, e2, _⟩ := rv
  cases e1
  rw [this] at e2
  cases e2
def setV : List Nat → List V → Sg → Sg
  | i :: is, v :: vs, σ => setV is vs (σ.set i (some v))
  | _, _, σ => σ
theorem setN_rel {K : PySem.W.Frag} {L : Lw} {B H0 H : Hp} : ∀ {is : List Nat} {vs : List V} {cs : List Cell} {σ : Sg} {st st' : Sl}, RelS K L B H σ st → RepsN K L B H0 H σ st vs cs → setCs is cs st = some st' → RelS K L B H (setV is vs σ) st'
  | [], _, _, σ, st, st', r, .nil, e => by
    cases e
    exact r
  | [], _, _, σ, st, st', r, .cons _ _ _ _, e => by cases e
  | _ :: _, _, _, σ, st, st', r, .nil, e => by cases e
  | i :: is, v :: vs, c :: cs, σ, st, st', r, .cons rv f d g, e => by
    have r1 := set_rel (i := i) r rv fun ds ec b eb => by
      subst ec
      exact (f b eb).2
    refine setN_rel (H0 := H0) (is := is) r1 ?_ e
    -- the rest stands
    have own : ∀ b, Owns (σ.set i (some v)) (st.set i (some c)) b → Owns σ st b ∨ ∃ ds, c = .ow ds ∧ v = .ref b := fun b ⟨j, ds, e1, e2⟩ => by
      by_cases hj : j = i
      · subst hj
        have hl : j < st.length := by
          have := (List.getElem?_eq_some_iff.mp e1).1
          rwa [List.length_set] at this
        rw [List.getElem?_set_self hl] at e1
        rw [List.getElem?_set_self (by rw [← r.len]; exact hl)] at e2
        exact .inr ⟨ds, Option.some.inj (Option.some.inj e1), Option.some.inj (Option.some.inj e2)⟩
      · rw [List.getElem?_set_ne (Ne.symm hj)] at e1 e2
        exact .inl ⟨j, ds, e1, e2⟩
    have key : ∀ {us : List V} {es : List Cell}, RepsN K L B H0 H σ st us es → (∀ a ds, c = .ow ds → v = .ref a → ∀ (j : Nat) (fs : List PyData), es[j]? = some (.ow fs) → us[j]? ≠ some (.ref a)) → RepsN K L B H0 H (σ.set i (some v)) (st.set i (some c)) us es := by
      intro us es g
      induction g with
      | nil => exact fun _ => .nil
      | @cons u us e es ru fu du gu ih =>
        intro hd
        refine .cons ru ?_ du (ih fun a ds h1 h2 j fs h3 => by simpa using hd a ds h1 h2 (j + 1) fs (by simpa using h3))
        cases e with
        | ow fs =>
          intro a ea
          obtain ⟨g0, g1, g2, g3⟩ := fu a ea
          refine ⟨g0, g1, g2, fun z => ?_⟩
          rcases own a z with z | ⟨ds, z1, z2⟩
          · exact g3 z
          · exact hd a ds z1 z2 0 fs rfl (by rw [ea]; rfl)
        | _ => trivial
    exact key g d
theorem rdN_set {K : PySem.W.Frag} {D : Ends} {is : List Nat} {σ : Sg} {H : Hp} (h : RdS K R (ex G (.par is as)) D σ H) (Q : List V → Hp → Prop) (hQ : ∀ vs H1, vs.length = is.length → (∀ H', Imm H1 H' → (∀ a o, H1 a = some o → H' a = some o) → D.nx (setV is vs σ) H') → Q vs H1) : RdN K R (evn G as) σ H Q := by
  obtain ⟨st, hr, h⟩ := h
  unfold ex at h
  refine ⟨st, hr, T.all_mono (fun p hp vs H1 s1 r1 g => ?_) (fun _ _ _ e => e.ew) _ (T.all_bind _ h)⟩
  obtain ⟨st', e, h2⟩ := T.all_none hp
  refine hQ vs H1 ?_ fun H' i k => ?_
  · have l1 : ∀ {is : List Nat} {cs : List Cell} {st st' : Sl}, setCs is cs st = some st' → is.length = cs.length := by
      intro is
      induction is with
      | nil => intro cs st st' e; cases cs with
        | nil => rfl
        | cons c cs => cases e
      | cons i is ih => intro cs st st' e; cases cs with
        | nil => cases e
        | cons c cs => rw [List.length_cons, List.length_cons, ih e]
    have l2 : ∀ {vs : List V} {cs : List Cell} {H0 H : Hp} {st : Sl}, RepsN K R.L R.B H0 H σ st vs cs → vs.length = cs.length := by
      intro vs cs H0 H st g
      induction g with
      | nil => rfl
      | cons _ _ _ _ ih => rw [List.length_cons, List.length_cons, ih]
    rw [l2 g, ← l1 e]
  · exact h2 _ H' (s1.imm.trans i) ((setN_rel r1 g e).stp0 k)
theorem ps_par2R {i j : Nat} {n m : Str} {px py pt : Pos} {kt k2 : Nat} {pt2 : Pos} (hc : X.calm = true) (hN : X.N.Nodup) (hi : X.N[i]? = some n) (hj : X.N[j]? = some m) (hij : i ≠ j)
    (hx : X.env.scope.names.lookup n = some .local) (hy : X.env.scope.names.lookup m = some .local) (ha : PA X [x, y] (RdN X.K R (evn G as)))
    (hw : swappedStores [.Tuple [.Name n px, .Name m py] kt pt] (.Tuple [x, y] k2 pt2) X.env = pure (some [n, m]))
    (hs : swapsWithSole [.Tuple [.Name n px, .Name m py] kt pt] (.Tuple [x, y] k2 pt2) pos.line X.env = pure false) :
    PS X (.Assign [.Tuple [.Name n px, .Name m py] kt pt] (.Tuple [x, y] k2 pt2) pos) (RdS X.K R (ex G (.par [i, j] as))) := PS.imp (ps_par hc hN hi hj hij hx hy ha hw hs) fun D σ H h => by
  refine rdN_set h _ fun vs H1 hl q => ?_
  match vs, hl with
  | [v, w], _ => exact ⟨v, w, rfl, q H1 (Imm.refl _) fun _ _ h => h⟩
theorem ps_par3R {i j l : Nat} {n m o : Str} {px py pz pt : Pos} {kt k2 : Nat} {pt2 : Pos} (hc : X.calm = true) (hN : X.N.Nodup) (hi : X.N[i]? = some n) (hj : X.N[j]? = some m) (hl : X.N[l]? = some o) (hij : i ≠ j) (hil : i ≠ l) (hjl : j ≠ l)
    (hx : X.env.scope.names.lookup n = some .local) (hy : X.env.scope.names.lookup m = some .local) (hz : X.env.scope.names.lookup o = some .local) (ha : PA X [x, y, z] (RdN X.K R (evn G as)))
    (hw : swappedStores [.Tuple [.Name n px, .Name m py, .Name o pz] kt pt] (.Tuple [x, y, z] k2 pt2) X.env = pure (some [n, m, o]))
    (hs : swapsWithSole [.Tuple [.Name n px, .Name m py, .Name o pz] kt pt] (.Tuple [x, y, z] k2 pt2) pos.line X.env = pure false) :
    PS X (.Assign [.Tuple [.Name n px, .Name m py, .Name o pz] kt pt] (.Tuple [x, y, z] k2 pt2) pos) (RdS X.K R (ex G (.par [i, j, l] as))) := PS.imp (ps_par3 hc hN hi hj hl hij hil hjl hx hy hz ha hw hs) fun D σ H h => by
  refine rdN_set h _ fun vs H1 hl q => ?_
  match vs, hl with
  | [u, v, w], _ => exact ⟨u, v, w, rfl, q H1 (Imm.refl _) fun _ _ h => h⟩
def gSet (is : List Nat) : TGs := fun vs σ H Q => vs.length = is.length ∧ Q (setV is vs σ) H
theorem pgs_nilS : PGs X [] (gSet []) := PGs.imp pgs_nil fun vs σ H Q ⟨hl, q⟩ => by
  cases vs with
  | nil => exact ⟨rfl, q⟩
  | cons v vs => cases hl
theorem pgs_consS {i : Nat} {n : Str} {is : List Nat} {p1 : Pos} (hN : X.N.Nodup) (hi : X.N[i]? = some n) (hx : Loc X.env.scope n) (hf : X.fn n = true ∨ X.env.scope.names.lookup n = some .local) (h2 : PGs X xs (gSet is))
    (hs : (assignEach (.Name n p1 :: xs) X.env).map (·.2) = assign (.Name n p1) X.env :: (assignEach xs X.env).map (·.2)) : PGs X (.Name n p1 :: xs) (gSet (i :: is)) := PGs.imp (pgs_cons (pg_name hN hi hx hf) h2 hs) fun vs σ H Q ⟨hl, q⟩ => by
  cases vs with
  | nil => cases hl
  | cons v vs => exact ⟨v, vs, rfl, by simpa using hl, q⟩
theorem ps_parTR {is : List Nat} {ts : List Expr} {k n k2 : Nat} {p1 p2 : Pos} (hc : X.calm = true) (ha : PA X xs (RdN X.K R (evn G as))) (h : PGs X ts (gSet is)) (hn : (assignEach ts X.env).length = n) (hst : (assignEach ts X.env).findIdx? (·.1) = none) (hl : is.length = n) (hz : n ≤ sizeLine)
    (hs : swapsWithSole [.Tuple ts k p1] (.Tuple xs k2 p2) pos.line X.env = pure false) (hw : swappedStores [.Tuple ts k p1] (.Tuple xs k2 p2) X.env = pure none) (h1 : (assignEach [.Tuple ts k p1] X.env).map (·.2) = [assign (.Tuple ts k p1) X.env]) :
    PS X (.Assign [.Tuple ts k p1] (.Tuple xs k2 p2) pos) (RdS X.K R (ex G (.par is as))) := PS.imp (ps_asg (pe_tup ha) (pg_tup hc h hn hst) hs hw h1) fun D σ H h => by
  refine rdN_set h _ fun vs H1 hlv q => ⟨by rw [hlv, hl]; exact hz, fun p hp => ?_⟩
  refine ⟨p, vs, rfl, SqT.of upd_same, by rw [hlv, hl], hlv, q _ (Imm.upd hp) fun a o e => ?_⟩
  rw [upd_ne (ne_of_none e hp)]
  exact e
end
end Rf
set_option Elab.async false
set_option linter.all false
set_option maxRecDepth 100000
set_option maxHeartbeats 1000000
/-! Rf11: stores into own lists. -/
namespace Rf
open PySem PySem.Spec PyProof.Rows
open L2 hiding St

section
variable {X : Cx} {R : Rc} {G : Env} {x y z : Expr} {xs : List Expr} {a b c : IE} {as : IEs} {pos : Pos} {s : IS} {ss : ISs} {S : Stmt} {SS : List Stmt}
theorem ow_some {st : Sl} {i : Nat} {ds : List D} (h : (slot? st i).bind Cell.ow? = some ds) : st.cs[i]? = some (some (.ow ds)) := by
  cases q : slot? st i with
  | none => rw [q] at h; cases h
  | some c =>
    rw [q] at h
    cases c with
    | ow es => cases h; exact slot_some q
    | _ => cases h
/-- a slot's own list -/
theorem RelS.list {K : PySem.W.Frag} {L : Lw} {B H : Hp} {σ : Sg} {st : Sl} {i : Nat} {ds : List D} (r : RelS K L B H σ st) (h : st.cs[i]? = some (some (.ow ds))) : ∃ l vs, σ[i]? = some (some (.ref l)) ∧ H l = some (.lst vs) ∧ DFs K H vs ds := by
  obtain ⟨v, e1, l, vs, rfl, e2, g⟩ := r.slot i _ h
  exact ⟨l, vs, e1, e2, g⟩
theorem upd_stp {K : PySem.W.Frag} {L : Lw} {B H : Hp} {σ : Sg} {st : Sl} {i : Nat} {ds es : List D} {a : Addr} {xs ys : List V} (r : RelS K L B H σ st) (e : st.cs[i]? = some (some (.ow ds))) (hs : σ[i]? = some (some (.ref a))) (ha : H a = some (.lst xs)) :
    Stp L σ st (st.set i (some (.ow es))) H (upd H a (.lst ys)) where
  fr := fun b u q n m => by
    rw [upd_ne (fun z => by subst z; exact m ⟨i, ds, e, hs⟩)]; exact q
  imm := fun b u q im => by
    by_cases hb : b = a
    · subst hb
      rw [ha] at q; cases q; exact im.elim
    · rw [upd_ne hb]; exact q
  sub := fun b ⟨j, fs, e1, e2⟩ => by
    by_cases hj : j = i
    · subst hj
      exact ⟨j, ds, e, e2⟩
    · rw [List.getElem?_set_ne (Ne.symm hj)] at e1
      exact ⟨j, fs, e1, e2⟩
  up := fun b u q => up_upd q
theorem rdS_fz {K : PySem.W.Frag} {t : Sl → T (Cell × Sl)} {k : Cell → Sl → T (Out × Sl)} {D : Ends} {σ : Sg} {st : Sl} {H : Hp} {Q : VK} (hr : RelS K R.L R.B H σ st) (h : ((t st).bind fun p => k p.1.fz p.2).All (FE K R D H) (ES K R H))
    (hk : ∀ c st1 v H1, Stp R.L σ st st1 H H1 → RelS K R.L R.B H1 σ st1 → RepV K R.L H1 v c → (k c st1).All (FE K R D H1) (ES K R H1) → Q v H1) : RdF K R t σ H Q :=
  ⟨st, hr, T.all_mono (fun p hp v H1 s1 r1 rv => hk p.1.fz p.2 v H1 s1 r1 rv (moveF s1.imm hp)) (fun _ _ _ e => e.ew) _ (T.all_bind _ h)⟩
theorem DFs.last {K : PySem.W.Frag} {H : Hp} {vs : List V} {ds : List D} {d : D} (g : DFs K H vs ds) (e : ds.getLast? = some d) : ∃ v, vs[vs.length - 1]? = some v ∧ DF K H v d := by
  rw [List.getLast?_eq_getElem?] at e
  rw [g.length]
  exact g.get e
theorem DFs.dropLast {K : PySem.W.Frag} {H : Hp} {vs : List V} {ds : List D} (g : DFs K H vs ds) : DFs K H vs.dropLast ds.dropLast := by
  rw [List.dropLast_eq_take, List.dropLast_eq_take, g.length]
  exact DFs.take _ g
theorem pe_popR {i : Nat} {n : Str} {p1 apos : Pos} (hN : X.N[i]? = some n) (hv : Vis X.env.scope n) (hd : (n == ("__debug__" : Str)) = false) (hcd : (n == ("__classdict__" : Str)) = false)
    (hbase : attributeBase (.Name n p1) "pop" X.env (eval (.Name n p1) X.env) = eval (.Name n p1) X.env) (hline : (apos.endLine == pos.line) = true) :
    PE X (.Call (.Attribute (.Name n p1) "pop" apos) [] [] pos) (Rd X.K R (ev G (.pop i))) :=
  PE.imp (pe_bm0 PySem.F.plainAttrs_list PySem.F.slot_list_pop PySem.F.type_list_pop mt_pop (pe_var hN hv hd hcd) hbase hline) fun σ H Q ⟨st, hr, h⟩ => by
  unfold ev at h
  obtain ⟨ds, e, h2⟩ := T.all_none h
  obtain ⟨d, e2, h3⟩ := T.all_none h2
  have e' := ow_some e
  obtain ⟨l, vs, hs, hl, g⟩ := hr.list e'
  obtain ⟨v, ev', dv⟩ := g.last e2
  obtain ⟨imm, r2⟩ := upd_rel hr e' hs hl g.dropLast
  exact ⟨_, hs, .inl ⟨rfl, vs, SqL.of hl⟩, l, vs, v, rfl, rfl, hl, ev', h3 v _ (upd_stp hr e' hs hl) r2 (DF.imm imm _ _ dv) trivial⟩
theorem ps_appR {i : Nat} {n : Str} {p1 apos cpos : Pos} (hN : X.N[i]? = some n) (hv : Vis X.env.scope n) (hd : (n == ("__debug__" : Str)) = false) (hcd : (n == ("__classdict__" : Str)) = false) (he : PE X x (Rd X.K R (ev G a)))
    (hbase : attributeBase (.Name n p1) "append" X.env (eval (.Name n p1) X.env) = eval (.Name n p1) X.env)
    (hfew : ((backTo cpos (starEach [x] X.env)).all (fun x => !x.1) && (backToKw cpos (keywordEach [] X.env)).all (fun x => x.1.isSome)
      && decide (([x] : List Expr).length + ([] : List Keyword).length + (if ([] : List Keyword).isEmpty then 0 else 1) < 30)) = true)
    (hline : (apos.endLine == cpos.line) = true) (hst : starEach [x] X.env = (false, eval x X.env) :: starEach [] X.env) (hplain : (backTo cpos (starEach [] X.env)).any (·.1) = false)
    (hs : swapsWith (.Call (.Attribute (.Name n p1) "append" apos) [x] [] cpos) none pos.line X.env = pure false) :
    PS X (.Expr (.Call (.Attribute (.Name n p1) "append" apos) [x] [] cpos) pos) (RdS X.K R (ex G (.app i a))) :=
  PS.imp (ps_expr (pe_bm PySem.F.plainAttrs_list PySem.F.slot_list_append PySem.F.type_list_append mt_append (pe_var hN hv hd hcd) (pa_cons (pe_fz he) pa_nil hst) hbase hfew hline hst hplain) hs) fun D σ H ⟨st, hr, h⟩ => by
  unfold ex at h
  obtain ⟨ds0, e0, h⟩ := T.all_none h
  obtain ⟨l, vs0, hs0, hl0, g0⟩ := hr.list (ow_some e0)
  refine ⟨_, hs0, .inl ⟨rfl, vs0, SqL.of hl0⟩, rdS_fz (k := fun c st1 => (T.opt c.sh?).bind fun d => (T.opt ((slot? st1 i).bind Cell.ow?)).bind fun ds => if ds.length < LINE then .ok (.nx, st1.set i (some (.ow (ds ++ [d])))) else .bad) hr h fun c st1 v H1 s1 r1 rv h1 => ?_⟩
  obtain ⟨d, e, h2⟩ := T.all_none h1
  obtain ⟨ds, e2, h3⟩ := T.all_none h2
  rw [sh_some e] at rv
  have e' := ow_some e2
  obtain ⟨l2, vs, hs2, hl, g⟩ := r1.list e'
  rw [hs0] at hs2
  cases hs2
  split at h3
  · rename_i hz
    obtain ⟨imm, r2⟩ := upd_rel r1 e' hs0 hl (g.append (.cons rv .nil))
    exact ⟨l, vs, v, rfl, rfl, hl, by rw [g.length, ← line_eq]; exact hz, h3 σ _ imm r2⟩
  · exact h3.elim
def rExtR : V → List V → Hp → VK → Prop := fun x vs H Q => ∃ l b xs zs, x = .ref l ∧ vs = [.ref b] ∧ H l = some (.lst xs) ∧ L2.Rd H b (.lst zs) ∧ xs.length + zs.length ≤ sizeLine ∧ Q .non (upd H l (.lst (xs ++ zs)))
theorem mt_extR : MtM X "list.extend" rExtR := by
  intro pins s σ H x vs v us Q I rx rv h
  obtain ⟨l, b, xs, zs, rfl, rfl, hH, hB, hz, q⟩ := h
  cases rx
  obtain ⟨u, rfl, ru⟩ := rv.one
  cases ru
  obtain ⟨z, its, n, r, hl, e⟩ := I.lstM hH
  obtain ⟨z2, its2, n2, r2, e2⟩ := rd_lst I hB
  have hl2 := r2.length
  have hsz : its.toArray.size + its2.toArray.size ≤ sizeLine := by rw [List.size_toArray, List.size_toArray]; omega
  have hlong : ¬ (!its.toArray.isEmpty && Builtin.List.listTooLong (its.toArray.size + its2.toArray.size)) = true := by
    rw [notLongL hsz, Bool.and_false]
    exact Bool.false_ne_true
  refine call_meets F.slot_list_extend ⟨_, e, rfl⟩ F.entry_list_extend (F.args_list_extend_2 _ _)
    (AutoSeq1.list_extend_list_list_0 l its.toArray n b its2.toArray n2 hlong (by rw [List.size_toArray]; omega) (by omega)) ⟨e, e2, ?_⟩
  refine ⟨.non, _, I.lset (its' := its ++ its2) hH e (by simp) (r.append r2) ?_, rfl, q⟩
  rw [List.length_append]
  omega
theorem list_some {c : Cell} {ds : List D} (h : list? c = some ds) : c = .ow ds ∨ c = .sh (.list ds) := by
  cases c with
  | sh d => cases d <;> first | (cases h; done) | (cases h; exact .inr rfl)
  | ow es => cases h; exact .inl rfl
  | _ => cases h
theorem ps_extR {i : Nat} {n : Str} {p1 apos cpos : Pos} (hN : X.N[i]? = some n) (hv : Vis X.env.scope n) (hd : (n == ("__debug__" : Str)) = false) (hcd : (n == ("__classdict__" : Str)) = false) (he : PE X x (Rd X.K R (ev G a)))
    (hbase : attributeBase (.Name n p1) "extend" X.env (eval (.Name n p1) X.env) = eval (.Name n p1) X.env)
    (hfew : ((backTo cpos (starEach [x] X.env)).all (fun x => !x.1) && (backToKw cpos (keywordEach [] X.env)).all (fun x => x.1.isSome)
      && decide (([x] : List Expr).length + ([] : List Keyword).length + (if ([] : List Keyword).isEmpty then 0 else 1) < 30)) = true)
    (hline : (apos.endLine == cpos.line) = true) (hst : starEach [x] X.env = (false, eval x X.env) :: starEach [] X.env) (hplain : (backTo cpos (starEach [] X.env)).any (·.1) = false)
    (hs : swapsWith (.Call (.Attribute (.Name n p1) "extend" apos) [x] [] cpos) none pos.line X.env = pure false) :
    PS X (.Expr (.Call (.Attribute (.Name n p1) "extend" apos) [x] [] cpos) pos) (RdS X.K R (ex G (.ext i a))) :=
  PS.imp (ps_expr (pe_bm PySem.F.plainAttrs_list PySem.F.slot_list_extend PySem.F.type_list_extend mt_extR (pe_var hN hv hd hcd) (pa_cons he pa_nil hst) hbase hfew hline hst hplain) hs) fun D σ H ⟨st, hr, h⟩ => by
  unfold ex at h
  obtain ⟨ds0, e0, h⟩ := T.all_none h
  obtain ⟨l, vs0, hs0, hl0, g0⟩ := hr.list (ow_some e0)
  refine ⟨_, hs0, .inl ⟨rfl, vs0, SqL.of hl0⟩, rdS_exp hr h fun p v H1 s1 r1 rv f h1 => ?_⟩
  obtain ⟨zs, e, h2⟩ := T.all_none h1
  obtain ⟨ds, e2, h3⟩ := T.all_none h2
  obtain ⟨q, us, rfl, hq, gq⟩ := rv.lst (list_some e)
  have e' := ow_some e2
  obtain ⟨l2, vs, hs2, hl, g⟩ := r1.list e'
  rw [hs0] at hs2
  cases hs2
  split at h3
  · rename_i hz
    obtain ⟨imm, r2⟩ := upd_rel r1 e' hs0 hl (g.append gq)
    exact ⟨l, q, vs, us, rfl, rfl, hl, hq, by rw [g.length, gq.length, ← line_eq]; exact hz, h3 σ _ imm r2⟩
  · exact h3.elim
theorem ps_subR {i : Nat} {n : Str} {p1 p2 : Pos} (hN : X.N[i]? = some n) (hv : Vis X.env.scope n) (hd : (n == ("__debug__" : Str)) = false) (hcd : (n == ("__classdict__" : Str)) = false) (he : PE X x (Rd X.K R (ev G a))) (hi : PE X y (Rd X.K R (ev G b)))
    (hass : ∀ v, assign (.Subscript (.Name n p1) y p2) X.env v = (do
      let ov ← holding [v] (eval (.Name n p1) X.env)
      let iv ← holding [v, ov] (eval y X.env)
      standAt p2
      holding [v, ov, iv] (setItem ov iv v)
      release [v, ov, iv] []))
    (hs : swapsWithSole [.Subscript (.Name n p1) y p2] x pos.line X.env = pure false) (hw : swappedStores [.Subscript (.Name n p1) y p2] x X.env = pure none) (h1 : (assignEach [.Subscript (.Name n p1) y p2] X.env).map (·.2) = [assign (.Subscript (.Name n p1) y p2) X.env]) :
    PS X (.Assign [.Subscript (.Name n p1) y p2] x pos) (RdS X.K R (ex G (.sub i b a))) :=
  PS.imp (ps_asg (pe_fz he) (pg_sub (pe_var hN hv hd hcd) hi set_list hass) hs hw h1) fun D σ H ⟨st, hr, h⟩ => by
  unfold ex at h
  refine rdS_fz (k := fun c st1 => (T.opt c.sh?).bind fun d => (T.opt (slot? st1 i)).bind fun _ => (ev G b st1).bind fun q => (T.opt ((slot? q.2 i).bind Cell.ow?)).bind fun ds => (T.opt (storeI ds q.1 d)).bind fun ds' => .ok (.nx, q.2.set i (some (.ow ds')))) hr h fun c st1 v H1 s1 r1 rv h1 => ?_
  obtain ⟨d, e, h2⟩ := T.all_none h1
  obtain ⟨c0, e0, h3⟩ := T.all_none h2
  obtain ⟨o, ho, _⟩ := r1.slot i c0 (slot_some e0)
  rw [sh_some e] at rv
  refine ⟨o, ho, rdS_exp r1 h3 fun p iv H2 s2 r2 ri f h4 => ?_⟩
  obtain ⟨ds, e2, h5⟩ := T.all_none h4
  obtain ⟨ds', e3, h6⟩ := T.all_none h5
  have e' := ow_some e2
  obtain ⟨l, vs, hs2, hl, g⟩ := r2.list e'
  rw [ho] at hs2
  cases hs2
  unfold storeI at e3
  cases ek : p.1.int? with
  | none => rw [ek] at e3; cases e3
  | some k =>
    rw [ek] at e3
    cases ej : ixOf ds.length k with
    | none =>
      have e3' : (ixOf ds.length k).bind (fun j => some (ds.set j d)) = some ds' := e3
      rw [ej] at e3'; cases e3'
    | some j =>
      have e3' : (ixOf ds.length k).bind (fun j => some (ds.set j d)) = some ds' := e3
      rw [ej] at e3'
      cases e3'
      rw [int_some ek] at ri
      obtain ⟨imm, r3⟩ := upd_rel r2 e' ho hl (g.set j (DF.imm s2.imm _ _ rv))
      exact ⟨l, vs, k, j, rfl, sh_int ri, hl, by rw [g.length]; exact ej, h6 σ _ imm r3⟩
end
end Rf
set_option Elab.async false
set_option linter.all false
set_option maxRecDepth 100000
set_option maxHeartbeats 1000000
/-! Rf12: what is walked; loops. -/
namespace Rf
open PySem PySem.Spec PyProof.Rows
open L2 hiding St

/-- the iterator tells these data -/
def IWalk (K : PySem.W.Frag) (J : It) (ds : List D) (H1 : Hp) : Prop := ∃ Gd : Hp → Prop, Gd H1 ∧ (∀ H H', Gd H → Imm H H' → Gd H') ∧
  ∀ H, Gd H → J.stop ds.length H ∧ ∀ i, i < ds.length → J.go i H ∧ ∀ x H', J.yld i H x H' → NewS H H' ∧ ∃ d, ds[i]? = some d ∧ DF K H' x d
def RdI (K : PySem.W.Frag) (R : Rc) (t : Sl → T (List D × Sl)) : TI := fun σ H Q => ∃ st, RelS K R.L R.B H σ st ∧
  (t st).All (fun p => ∀ J H1, Stp R.L σ st p.2 H H1 → RelS K R.L R.B H1 σ p.2 → IWalk K J p.1 H1 → Q J H1) (EW K R σ st H)
theorem NewS.imm {H H' : Hp} (n : NewS H H') : Imm H H' := by
  cases n with
  | same => exact Imm.refl _
  | new p o h => exact Imm.upd h
theorem PI.imp {X : Cx} {tg e : Expr} {t t' : TI} (h : PI X tg e t) (i : ∀ σ H Q, t' σ H Q → t σ H Q) : PI X tg e t' := ⟨fun pins s σ H Q I q => h.run pins s σ H Q I (i σ H Q q)⟩
section
variable {K : PySem.W.Frag} {H : Hp} {a : Addr} {vs : List V} {ds : List D}
theorem iw_list (h : SqF H a vs) (g : DFs K H vs ds) : IWalk K (Itl K a) ds H := by
  refine ⟨fun H => SqF H a vs ∧ DFs K H vs ds, ⟨h, g⟩, fun H H' ⟨h, g⟩ i => ⟨h.imm i, DFs.imm i _ _ g⟩, fun H ⟨h, g⟩ => ?_⟩
  have w := walk_list (K := K) (a := a) (xs := vs)
  refine ⟨by rw [← g.length]; exact w.stops H h.sq, fun i hi => ⟨w.goes i H (by rw [g.length]; exact hi) h.sq, fun x H' y => ?_⟩⟩
  obtain ⟨rfl, e⟩ := w.yields i H x H' (by rw [g.length]; exact hi) h.sq y
  obtain ⟨d, e1, dv⟩ := g.getV e
  exact ⟨.same, d, e1, dv⟩
theorem iw_tup (h : SqT K H a vs) (g : DFs K H vs ds) : IWalk K (Itt K a) ds H := by
  refine ⟨fun H => SqT K H a vs ∧ DFs K H vs ds, ⟨h, g⟩, fun H H' ⟨h, g⟩ i => ⟨sqT_imm h i, DFs.imm i _ _ g⟩, fun H ⟨h, g⟩ => ?_⟩
  have w := walk_tup (K := K) (a := a) (xs := vs)
  refine ⟨by rw [← g.length]; exact w.stops H h, fun i hi => ⟨w.goes i H (by rw [g.length]; exact hi) h, fun x H' y => ?_⟩⟩
  obtain ⟨rfl, e⟩ := w.yields i H x H' (by rw [g.length]; exact hi) h y
  obtain ⟨d, e1, dv⟩ := g.getV e
  exact ⟨.same, d, e1, dv⟩
theorem rangeFrom_get : ∀ (n : Nat) (lo c : Int) (i : Nat), i < n → (rangeFrom lo c n)[i]? = some (.int (lo + i * c))
  | 0, _, _, i, h => by omega
  | n + 1, lo, c, 0, _ => by simp [rangeFrom]
  | n + 1, lo, c, i + 1, h => by
    have := rangeFrom_get n (lo + c) c i (by omega)
    simp only [rangeFrom, List.getElem?_cons_succ, this]
    congr 2
    rw [Int.natCast_add, Int.add_mul]
    omega
theorem rangeFrom_len : ∀ (n : Nat) (lo c : Int), (rangeFrom lo c n).length = n
  | 0, _, _ => rfl
  | n + 1, lo, c => by simp [rangeFrom, rangeFrom_len n]
theorem iw_range {lo : Int} {n : Nat} : IWalk K (Itr lo n) (rangeFrom lo 1 n) H := by
  refine ⟨fun _ => True, trivial, fun _ _ _ _ => trivial, fun H _ => ?_⟩
  rw [rangeFrom_len]
  refine ⟨Nat.le_refl _, fun i hi => ⟨hi, fun x H' ⟨e1, e2⟩ => ?_⟩⟩
  subst e1 e2
  exact ⟨.same, _, rangeFrom_get n lo 1 i hi, by rw [Int.mul_one]; exact .int _⟩
theorem iw_rangeC {lo c : Int} {n : Nat} : IWalk K (Itc lo c n) (rangeFrom lo c n) H := by
  refine ⟨fun _ => True, trivial, fun _ _ _ _ => trivial, fun H _ => ?_⟩
  rw [rangeFrom_len]
  refine ⟨Nat.le_refl _, fun i hi => ⟨hi, fun x H' ⟨e1, e2⟩ => ?_⟩⟩
  subst e1 e2
  exact ⟨.same, _, rangeFrom_get n lo c i hi, .int _⟩
theorem rev_get {α : Type} {l : List α} {i : Nat} (h : i < l.length) : l.reverse[i]? = l[l.length - 1 - i]? := by
  rw [List.getElem?_reverse h]
theorem iw_revL (h : SqF H a vs) (g : DFs K H vs ds) : IWalk K (Itv K a vs.length) ds.reverse H := by
  refine ⟨fun H => SqF H a vs ∧ DFs K H vs ds, ⟨h, g⟩, fun H H' ⟨h, g⟩ i => ⟨h.imm i, DFs.imm i _ _ g⟩, fun H ⟨h, g⟩ => ?_⟩
  have w := walk_rev (K := K) (a := a) (xs := vs)
  rw [List.length_reverse]
  refine ⟨by rw [← g.length]; exact w.stops H h.sq, fun i hi => ⟨w.goes i H (by rw [g.length]; exact hi) h.sq, fun x H' y => ?_⟩⟩
  obtain ⟨rfl, e⟩ := w.yields i H x H' (by rw [g.length]; exact hi) h.sq y
  obtain ⟨d, e1, dv⟩ := g.getV e
  exact ⟨.same, d, by rw [rev_get hi, ← g.length]; exact e1, dv⟩
theorem iw_revT (h : SqT K H a vs) (g : DFs K H vs ds) : IWalk K (RT.ItvT K a vs.length) ds.reverse H := by
  refine ⟨fun H => SqT K H a vs ∧ DFs K H vs ds, ⟨h, g⟩, fun H H' ⟨h, g⟩ i => ⟨sqT_imm h i, DFs.imm i _ _ g⟩, fun H ⟨h, g⟩ => ?_⟩
  rw [List.length_reverse]
  refine ⟨by rw [← g.length]; exact Nat.le_refl _, fun i hi => ?_⟩
  have hi' : vs.length - 1 - i < vs.length := by rw [g.length]; omega
  refine ⟨⟨by rw [g.length]; exact hi, vs, vs[vs.length - 1 - i], h, by simp [hi']⟩, fun x H' ⟨e1, e2⟩ => ?_⟩
  subst e1
  obtain ⟨d, e3, dv⟩ := g.getV (e2 vs h)
  exact ⟨.same, d, by rw [rev_get hi, ← g.length]; exact e3, dv⟩
theorem rev_range (lo : Int) (n : Nat) : (rangeFrom lo 1 n).reverse = rangeFrom (lo + (n : Int) - 1) (-1) n := by
  refine List.ext_getElem? fun i => ?_
  by_cases hi : i < n
  · rw [rev_get (by rw [rangeFrom_len]; exact hi), rangeFrom_len, rangeFrom_get _ _ _ _ (by omega), rangeFrom_get _ _ _ _ hi]
    congr 2
    omega
  · rw [List.getElem?_eq_none (by rw [List.length_reverse, rangeFrom_len]; omega), List.getElem?_eq_none (by rw [rangeFrom_len]; omega)]
end

section
variable {X : Cx} {R : Rc} {G : Env} {x y z tgE : Expr} {xs : List Expr} {a b c : IE} {as : IEs} {pos : Pos} {it : II} {tg : List Nat} {ss : ISs} {SS : List Stmt}
/-- the walked value, kept and shared -/
theorem rdI_fz {K : PySem.W.Frag} {α : Type} {t : Sl → T (Cell × Sl)} {k : Cell → Sl → T α} {P : α → Prop} {σ : Sg} {st : Sl} {H : Hp} {Q : VK} (hr : RelS K R.L R.B H σ st) (h : ((t st).bind fun p => k p.1.fz p.2).All P (EW K R σ st H))
    (hk : ∀ c st1 v H1, Stp R.L σ st st1 H H1 → RelS K R.L R.B H1 σ st1 → RepV K R.L H1 v c → (∀ ds, c ≠ .ow ds) → (k c st1).All P (EW K R σ st1 H1) → Q v H1) : RdF K R t σ H Q := rdF_bind hr h hk
theorem items_fz (c : Cell) : items? c.fz = items? c := by cases c <;> rfl
theorem RepV.frz {K : PySem.W.Frag} {L : Lw} {H : Hp} {v : V} {c : Cell} {ds : List D} (r : RepV K L H v c) (n : ∀ ds, c ≠ .ow ds) (e : items? c = some ds) : ∃ a vs, v = .ref a ∧ (SqF H a vs ∨ SqT K H a vs) ∧ DFs K H vs ds := by
  cases c with
  | sh x =>
    cases x with
    | list es =>
      cases e
      cases r with
      | lst h1 h2 => exact ⟨_, _, rfl, .inl h1, h2⟩
    | tuple es =>
      cases e
      cases r with
      | tup h1 h2 => exact ⟨_, _, rfl, .inr h1, h2⟩
    | _ => cases e
  | ow es => exact absurd rfl (n es)
  | st => cases e
  | amb => cases e
theorem pi_seqR (h : PE X x (Rd X.K R (ev G a))) : PI X tgE x (RdI X.K R (evi G (.seq a))) := by
  refine ⟨fun pins s σ H Q I ⟨st, hr, q⟩ => ?_⟩
  unfold evi at q
  have q' : ((ev G a st).bind fun p => (T.opt (items? p.1.fz)).bind fun ds => T.ok (ds, p.2)).All (fun p => ∀ J H1, Stp R.L σ st p.2 H H1 → RelS X.K R.L R.B H1 σ p.2 → IWalk X.K J p.1 H1 → Q J H1) (EW X.K R σ st H) := by
    simpa only [items_fz] using q
  refine thn ((pe_fz h).run pins s σ H (fun v H1 => ∃ a vs ds, v = .ref a ∧ (SqF H1 a vs ∨ SqT X.K H1 a vs) ∧ DFs X.K H1 vs ds ∧ ∀ J, IWalk X.K J ds H1 → Q J H1) I
    (rdF_bind (k := fun c st1 => (T.opt (items? c)).bind fun ds => T.ok (ds, st1)) hr q' fun c st1 v H1 s1 r1 rv nc h1 => ?_)) fun v s1 ⟨w, H1, I1, r1, a', vs, ds, e, hq, g, hQ⟩ => ?_
  · obtain ⟨ds, e, h2⟩ := T.all_none h1
    obtain ⟨a', vs, e2, e3, g⟩ := rv.frz nc e
    exact ⟨a', vs, ds, e2, e3, g, fun J w => h2 J H1 s1 r1 w⟩
  · subst e
    cases r1
    rcases hq with hq | hq
    · obtain ⟨its, rv, p, hz⟩ := I1.list (hq.sq (K := X.K))
      refine wpAny_pyIter_list p.isList ?_
      exact pi_one (tk := s1.toks) I1 _ (turn_list a' _) ⟨_, Heap.get?_push_size _ rfl, rfl, rfl⟩ (hQ _ (iw_list hq g))
    · obtain ⟨its, rv, p, hz⟩ := I1.tuple hq
      refine wpAny_pyIter_tuple (show s1.heap.IsTuple a' its.toArray from p) ?_
      exact pi_one (tk := s1.toks) I1 _ (turn_tuple a' _) ⟨_, Heap.get?_push_size _ rfl, rfl, rfl⟩ (hQ _ (iw_tup hq g))
/-- arguments of a range, of zip -/
theorem rdC_bind {K : PySem.W.Frag} {α : Type} {t : Sl → T (List Cell × Sl)} {k : List Cell × Sl → T α} {P : α → Prop} {σ : Sg} {st : Sl} {H : Hp} {Q : List V → Hp → Prop} (hr : RelS K R.L R.B H σ st) (h : ((t st).bind k).All P (EW K R σ st H))
    (hk : ∀ p vs H1, Stp R.L σ st p.2 H H1 → RelS K R.L R.B H1 σ p.2 → Reps K R.L H1 vs p.1 → NoOw p.1 → (k p).All P (EW K R σ p.2 H1) → Q vs H1) : RdC K R t σ H Q :=
  ⟨st, hr, T.all_mono (fun p hp vs H1 s1 r1 rv no => hk p vs H1 s1 r1 rv no (all_move s1 hp)) (fun _ _ _ h => h) _ (T.all_bind _ h)⟩
theorem smallI_ok {i : Int} (h : smallI i = true) : -(2 ^ 62) ≤ i ∧ i < 2 ^ 62 := by
  have := of_decide_eq_true h
  omega
theorem Reps.int1 {K : PySem.W.Frag} {L : Lw} {H : Hp} {vs : List V} {i : Int} (h : Reps K L H vs [.sh (.int i)]) : vs = [.int i] := by
  obtain ⟨v, rfl, rv⟩ := h.one
  rw [sh_int rv]
theorem Reps.int2 {K : PySem.W.Frag} {L : Lw} {H : Hp} {vs : List V} {i j : Int} (h : Reps K L H vs [.sh (.int i), .sh (.int j)]) : vs = [.int i, .int j] := by
  obtain ⟨v, u, rfl, rv, ru⟩ := h.two
  rw [sh_int rv, sh_int ru]
theorem Reps.int3 {K : PySem.W.Frag} {L : Lw} {H : Hp} {vs : List V} {i j k : Int} (h : Reps K L H vs [.sh (.int i), .sh (.int j), .sh (.int k)]) : vs = [.int i, .int j, .int k] := by
  cases h with
  | cons h1 h2 =>
    obtain ⟨v, u, rfl, rv, ru⟩ := h2.two
    rw [sh_int h1, sh_int rv, sh_int ru]
theorem range1_ok {cs : List Cell} {ds : List D} {n : Nat} (h : opRange cs = some ds) (hl : cs.length = 1) : ∃ hi, cs = [.sh (.int hi)] ∧ -(2 ^ 62) ≤ hi ∧ hi < 2 ^ 62 ∧ ds = rangeFrom 0 1 hi.toNat := by
  unfold opRange at h
  split at h
  · split at h
    · rename_i hs
      cases h
      have := smallI_ok hs
      exact ⟨_, rfl, this.1, this.2, rfl⟩
    · cases h
  · simp at hl
  · simp at hl
  · cases h
theorem range2_ok {cs : List Cell} {ds : List D} (h : opRange cs = some ds) (hl : cs.length = 2) : ∃ lo hi, cs = [.sh (.int lo), .sh (.int hi)] ∧ (-(2 ^ 62) ≤ lo ∧ lo < 2 ^ 62 ∧ -(2 ^ 62) ≤ hi ∧ hi < 2 ^ 62) ∧ ds = rangeFrom lo 1 (hi - lo).toNat := by
  unfold opRange at h
  split at h
  · simp at hl
  · split at h
    · rename_i hs
      cases h
      rw [Bool.and_eq_true] at hs
      have h1 := smallI_ok hs.1
      have h2 := smallI_ok hs.2
      exact ⟨_, _, rfl, ⟨h1.1, h1.2, h2.1, h2.2⟩, rfl⟩
    · cases h
  · simp at hl
  · cases h
theorem range3_ok {cs : List Cell} {ds : List D} (h : opRange cs = some ds) (hl : cs.length = 3) : ∃ lo hi c n, cs = [.sh (.int lo), .sh (.int hi), .sh (.int c)] ∧ RgC lo hi c n ∧ ds = rangeFrom lo c n := by
  unfold opRange at h
  split at h
  · simp at hl
  · simp at hl
  · split at h
    · rename_i lo hi c hs
      cases h
      unfold smallS at hs
      rw [Bool.and_eq_true] at hs
      have h1 := of_decide_eq_true hs.1
      exact ⟨_, _, _, _, rfl, ⟨h1.1, h1.2.1, hs.2, by omega⟩, rfl⟩
    · cases h
  · cases h
/-- how many arguments -/
def IEs.len : IEs → Nat
  | .nil => 0
  | .cons _ es => es.len + 1
theorem evc_len {P : List Cell × Sl → Prop} {E : Nat → List D → Sl → Prop} : ∀ (as : IEs) (st : Sl), (evc G as st).All P E → (evc G as st).All (fun p => P p ∧ p.1.length = as.len) E
  | .nil, st, h => by
    unfold evc at h ⊢
    exact ⟨h, rfl⟩
  | .cons e es, st, h => by
    unfold evc at h ⊢
    refine T.all_bind' _ (T.all_mono (fun p hp => ?_) (fun _ _ _ h => h) _ (T.all_bind _ h))
    refine T.all_bind' _ (T.all_mono (fun q hq => ?_) (fun _ _ _ h => h) _ (evc_len es p.2 (T.all_bind _ hp)))
    exact ⟨hq.1, by show q.1.length + 1 = es.len + 1; rw [hq.2]⟩
theorem pi_range1R {p1 : Pos} {e1 : IE} (hg : Gl X "range") (hm : X.mg "range" = none) (ha : PA X [x] (RdC X.K R (evc G (.cons e1 .nil)))) (hs : starEach [x] X.env = [(false, eval x X.env)]) :
    PI X tgE (.Call (.Name "range" p1) [x] [] pos) (RdI X.K R (evi G (.range (.cons e1 .nil)))) := PI.imp (pi_range1 hg hm ha hs) fun σ H Q ⟨st, hr, h⟩ => by
  unfold evi at h
  refine ⟨st, hr, T.all_mono (fun p ⟨hp, hl⟩ vs H1 s1 r1 g no => ?_) (fun _ _ _ h => h) _ (evc_len _ st (T.all_bind _ h))⟩
  obtain ⟨ds, e, h2⟩ := T.all_none hp
  obtain ⟨hi, ec, b1, b2, rfl⟩ := range1_ok (n := 0) e hl
  rw [ec] at g
  exact ⟨hi, g.int1, by omega, b2, h2 _ H1 s1 r1 iw_range⟩
theorem pi_range2R {p1 : Pos} {e1 e2 : IE} (hg : Gl X "range") (hm : X.mg "range" = none) (ha : PA X [x, y] (RdC X.K R (evc G (.cons e1 (.cons e2 .nil))))) (hs : starEach [x, y] X.env = [(false, eval x X.env), (false, eval y X.env)]) (hs2 : starEach [y] X.env = [(false, eval y X.env)]) :
    PI X tgE (.Call (.Name "range" p1) [x, y] [] pos) (RdI X.K R (evi G (.range (.cons e1 (.cons e2 .nil))))) := PI.imp (pi_range2 hg hm ha hs hs2) fun σ H Q ⟨st, hr, h⟩ => by
  unfold evi at h
  refine ⟨st, hr, T.all_mono (fun p ⟨hp, hl⟩ vs H1 s1 r1 g no => ?_) (fun _ _ _ h => h) _ (evc_len _ st (T.all_bind _ h))⟩
  obtain ⟨ds, e, h2⟩ := T.all_none hp
  obtain ⟨lo, hi, ec, b, rfl⟩ := range2_ok e hl
  rw [ec] at g
  exact ⟨lo, hi, g.int2, b, h2 _ H1 s1 r1 iw_range⟩
theorem pi_range3R {p1 : Pos} {e1 e2 e3 : IE} (hg : Gl X "range") (hm : X.mg "range" = none) (ha : PA X [x, y, z] (RdC X.K R (evc G (.cons e1 (.cons e2 (.cons e3 .nil)))))) (hs : starEach [x, y, z] X.env = (false, eval x X.env) :: starEach [y, z] X.env) (hpl : (backTo pos (starEach [y, z] X.env)).any (·.1) = false) :
    PI X tgE (.Call (.Name "range" p1) [x, y, z] [] pos) (RdI X.K R (evi G (.range (.cons e1 (.cons e2 (.cons e3 .nil)))))) := PI.imp (pi_range3 hg hm ha hs hpl) fun σ H Q ⟨st, hr, h⟩ => by
  unfold evi at h
  refine ⟨st, hr, T.all_mono (fun p ⟨hp, hl⟩ vs H1 s1 r1 g no => ?_) (fun _ _ _ h => h) _ (evc_len _ st (T.all_bind _ h))⟩
  obtain ⟨ds, e, h2⟩ := T.all_none hp
  obtain ⟨lo, hi, c, n, ec, b, rfl⟩ := range3_ok e hl
  rw [ec] at g
  exact ⟨lo, hi, c, n, g.int3, b, h2 _ H1 s1 r1 iw_rangeC⟩
theorem pi_revR' {p1 : Pos} (hg : Gl X "reversed") (hm : X.mg "reversed" = none) (h : PE X x (Rd X.K R (ev G a))) (hs : starEach [x] X.env = (false, eval x X.env) :: starEach [] X.env) :
    PI X tgE (.Call (.Name "reversed" p1) [x] [] pos) (RdI X.K R (evi G (.revd a))) := PI.imp (RT.pi_revA hg hm (pe_fz h) hs) fun σ H Q ⟨st, hr, q⟩ => by
  unfold evi at q
  have q' : ((ev G a st).bind fun p => (T.opt (items? p.1.fz)).bind fun ds => T.ok (ds.reverse, p.2)).All (fun p => ∀ J H1, Stp R.L σ st p.2 H H1 → RelS X.K R.L R.B H1 σ p.2 → IWalk X.K J p.1 H1 → Q J H1) (EW X.K R σ st H) := by
    simpa only [items_fz] using q
  refine rdF_bind (k := fun c st1 => (T.opt (items? c)).bind fun ds => T.ok (ds.reverse, st1)) hr q' fun c st1 v H1 s1 r1 rv nc h1 => ?_
  obtain ⟨ds, e, h2⟩ := T.all_none h1
  obtain ⟨a', vs, rfl, e3, g⟩ := rv.frz nc e
  refine ⟨a', vs, rfl, ?_⟩
  rcases e3 with e3 | e3
  · exact .inl ⟨e3.sq, h2 _ H1 s1 r1 (iw_revL e3 g)⟩
  · exact .inr ⟨e3, h2 _ H1 s1 r1 (iw_revT e3 g)⟩
theorem rev_rangeI {lo hi : Int} : (rangeFrom lo 1 (hi - lo).toNat).reverse = rangeFrom (lo + (((hi - lo).toNat : Nat) : Int) - 1) (-1) (hi - lo).toNat := rev_range _ _
theorem pi_revrange1R {p1 p2 pos2 : Pos} {e1 : IE} (hg0 : Gl X "range") (hm0 : X.mg "range" = none) (hg : Gl X "reversed") (hm : X.mg "reversed" = none) (h : PE X x (Rd X.K R (ev G e1))) (na : starEach [x] X.env = (false, eval x X.env) :: starEach [] X.env)
    (hs : starEach [.Call (.Name "range" p2) [x] [] pos2] X.env = (false, eval (.Call (.Name "range" p2) [x] [] pos2) X.env) :: starEach [] X.env) :
    PI X tgE (.Call (.Name "reversed" p1) [.Call (.Name "range" p2) [x] [] pos2] [] pos) (RdI X.K R (evi G (.revrange (.cons e1 .nil)))) := PI.imp (pi_revR hg hm (prg_1 hg0 hm0 h na) hs) fun σ H Q ⟨st, hr, q⟩ => by
  unfold evi evc at q
  simp only [T.bind_assoc, T.bind_ok] at q
  refine rd_bind hr q fun p v H1 s1 r1 rv f h1 => ?_
  unfold evc at h1
  simp only [T.bind_assoc, T.bind_ok] at h1
  obtain ⟨ds, e, h2⟩ := T.all_none h1
  obtain ⟨hi, ec, b1, b2, rfl⟩ := range1_ok (n := 0) e rfl
  have hp : p.1 = .sh (.int hi) := by
    cases hc : p.1 with
    | ow ds => rw [hc] at ec; cases ec
    | sh d => rw [hc] at ec; cases ec; rfl
    | st => rw [hc] at ec; cases ec
    | amb => rw [hc] at ec; cases ec
  rw [hp] at rv
  refine ⟨hi, sh_int rv, by decide, by decide, by omega, b2, h2 _ H1 s1 r1 ?_⟩
  have := rev_rangeI (lo := 0) (hi := hi)
  rw [Int.sub_zero] at this ⊢
  rw [this]
  exact iw_rangeC
theorem pi_revrange2R {p1 p2 pos2 : Pos} {e1 e2 : IE} (hg0 : Gl X "range") (hm0 : X.mg "range" = none) (hg : Gl X "reversed") (hm : X.mg "reversed" = none) (h : PE X x (Rd X.K R (ev G e1))) (h' : PE X y (Rd X.K R (ev G e2)))
    (na : starEach [x, y] X.env = (false, eval x X.env) :: starEach [y] X.env) (nb : starEach [y] X.env = (false, eval y X.env) :: starEach [] X.env) (hp : (backTo pos2 (starEach [y] X.env)).any (·.1) = false)
    (hs : starEach [.Call (.Name "range" p2) [x, y] [] pos2] X.env = (false, eval (.Call (.Name "range" p2) [x, y] [] pos2) X.env) :: starEach [] X.env) :
    PI X tgE (.Call (.Name "reversed" p1) [.Call (.Name "range" p2) [x, y] [] pos2] [] pos) (RdI X.K R (evi G (.revrange (.cons e1 (.cons e2 .nil))))) := PI.imp (pi_revR hg hm (prg_2 hg0 hm0 h h' na nb hp) hs) fun σ H Q ⟨st, hr, q⟩ => by
  unfold evi evc at q
  simp only [T.bind_assoc, T.bind_ok] at q
  refine rd_bind hr q fun p v H1 s1 r1 rv f h1 => ?_
  unfold evc at h1
  simp only [T.bind_assoc, T.bind_ok] at h1
  refine rd_bind r1 h1 fun p2 v2 H2 s2 r2 rv2 f2 h2 => ?_
  unfold evc at h2
  simp only [T.bind_assoc, T.bind_ok] at h2
  obtain ⟨ds, e, h3⟩ := T.all_none h2
  obtain ⟨lo, hi, ec, b, rfl⟩ := range2_ok e rfl
  have key : ∀ {c : Cell} {i : Int}, c.fz = .sh (.int i) → c = .sh (.int i) := fun {c i} h => by
    cases c with
    | ow ds => cases h
    | sh d => cases h; rfl
    | st => cases h
    | amb => cases h
  have e1' := key (List.cons.inj ec).1
  have e2' := key (List.cons.inj (List.cons.inj ec).2).1
  rw [e1'] at rv
  rw [e2'] at rv2
  refine ⟨lo, hi, sh_int rv, sh_int rv2, b.1, b.2.1, b.2.2.1, b.2.2.2, h3 _ H2 (s1.trans s2) r2 ?_⟩
  rw [rev_rangeI]
  exact iw_rangeC

/-! ### loops -/
theorem ps_forR (hp : PassesOwn (model X.prog X.w) X.A X.env X.xe) (hc : X.calm = true) (hi : PI X tgE x (RdI X.K R (evi G it))) (hg : PG X tgE (gRd X.K R tg)) (hb : PSs X SS (RdS X.K R (exs G ss))) (hs : ∀ v, foldedSetIterable x X.env v = pure v) :
    PS X (.For tgE x SS [] pos) (RdS X.K R (ex G (.for_ tg it ss))) := PS.imp (ps_for hp hc hi hg hb hs) fun D σ H ⟨st, hr, h⟩ => by
  unfold ex at h
  refine ⟨st, hr, T.all_mono (fun p hp J H1 s1 r1 iw => ?_) (fun _ _ _ e => e.ew) _ (T.all_bind _ h)⟩
  have h1 := moveF s1.imm hp
  clear hp h
  obtain ⟨ds, st1⟩ := p
  obtain ⟨Gd, g0, gk, gs⟩ := iw
  refine ⟨fun i m σ' H' => m = ds.length - i ∧ i ≤ ds.length ∧ Gd H' ∧ ∃ st', RelS X.K R.L R.B H' σ' st' ∧ (forL tg (exs G ss) (ds.drop i) st').All (FE X.K R D H') (ES X.K R H'), ⟨_, rfl, Nat.zero_le _, g0, st1, r1, h1⟩, ?_⟩
  rintro i m σ' H' ⟨rfl, hi, gd, st', r', hA⟩
  by_cases hlt : i < ds.length
  · refine .inr ⟨((gs H' gd).2 i hlt).1, _, fun σ2 H2 q => q, fun v H2 y => ?_⟩
    obtain ⟨n, d, e, dv⟩ := ((gs H' gd).2 i hlt).2 v H2 y
    have ed : ds.drop i = d :: ds.drop (i + 1) := by
      have := List.drop_eq_getElem_cons hlt
      rw [List.getElem?_eq_getElem hlt] at e
      rw [this, Option.some.inj e]
    rw [ed] at hA
    unfold forL at hA
    obtain ⟨st2, e2, h2⟩ := T.all_none hA
    have h2 := moveF n.imm h2
    refine ⟨st', st2, d, n.rel r', dv, e2, fun σ3 r3 _ => ⟨st2, r3, T.all_mono (fun q hq σ4 H4 i4 r4 => ?_) (fun _ _ _ e => e) _ (T.all_bind _ h2)⟩⟩
    have hq := moveF i4 hq
    obtain ⟨o, st4⟩ := q
    cases o with
    | nx => exact ⟨ds.length - (i + 1), by omega, rfl, hlt, gk _ _ (gk _ _ gd n.imm) i4, st4, r4, hq⟩
    | brk => exact hq σ4 H4 (Imm.refl _) r4
    | ret c => exact hq σ4 H4 (Imm.refl _) r4
  · have ei : i = ds.length := by omega
    subst ei
    rw [List.drop_length] at hA
    unfold forL at hA
    exact .inl ⟨(gs H' gd).1, hA σ' H' (Imm.refl _) r'⟩
theorem ps_whileR {b : IE} (hp : PassesOwn (model X.prog X.w) X.A X.env X.xe) (hc : PT X x (RdT X.K R (ev G b))) (hb : PSs X SS (RdS X.K R (exs G ss))) : PS X (.While x SS [] pos) (RdS X.K R (ex G (.while_ b ss))) := PS.imp (ps_while hp hc hb) fun D σ H ⟨st, hr, h⟩ => by
  unfold ex at h
  refine ⟨fun m σ' H' => ∃ st', RelS X.K R.L R.B H' σ' st' ∧ (whileL (ev G b) (exs G ss) m st').All (FE X.K R D H') (ES X.K R H'), ⟨_, st, hr, h⟩, ?_⟩
  rintro m σ' H' ⟨st', r', hA⟩
  cases m with
  | zero => exact (show False from by unfold whileL at hA; exact hA).elim
  | succ m =>
    unfold whileL at hA
    refine rdS_tst (k := fun k st1 => cond k ((exs G ss st1).bind fun q => turnEnd q.1 q.2 (whileL (ev G b) (exs G ss) m q.2)) (.ok (.nx, st1))) r' hA fun k st1 H1 s1 r1 h1 => ?_
    cases k with
    | true =>
      refine ⟨fun σ2 H2 => ∃ st2, RelS X.K R.L R.B H2 σ2 st2 ∧ (whileL (ev G b) (exs G ss) m st2).All (FE X.K R D H2) (ES X.K R H2), fun σ2 H2 q => ⟨m, Nat.lt_succ_self m, q⟩, st1, r1, T.all_mono (fun q hq σ4 H4 i4 r4 => ?_) (fun _ _ _ e => e) _ (T.all_bind _ (show ((exs G ss st1).bind fun q => turnEnd q.1 q.2 (whileL (ev G b) (exs G ss) m q.2)).All _ _ from h1))⟩
      have hq := moveF i4 hq
      obtain ⟨o, st4⟩ := q
      cases o with
      | nx => exact ⟨st4, r4, hq⟩
      | brk => exact hq σ4 H4 (Imm.refl _) r4
      | ret c => exact hq σ4 H4 (Imm.refl _) r4
    | false => exact h1 σ' H1 (Imm.refl _) r1
end
end Rf
set_option Elab.async false
set_option linter.all false
set_option maxRecDepth 100000
set_option maxHeartbeats 1000000
/-! Rf13: enumerate and zip of lists and of tuples. -/
namespace Rf
open PySem

abbrev ItN (b : Bool) : String := cond b "tuple_iterator" "list_iterator"
def ItA (b : Bool) (h : Heap) (it l : Addr) (i : Nat) : Prop := cond b (h.IsTupleIter it l i) (h.IsListIter it l i)
def SqAt (b : Bool) (h : Heap) (l : Addr) (items : Array Value) : Prop := cond b (h.IsTuple l items) (h.IsList l items)
theorem draws_seq {prog : Program} {w : World} {A : Around} (hh : A.handled = none) (b : Bool) (it l : Addr) (hne : l ≠ it) (items : Array Value) :
    Draws prog w A it [it, l] items.size (fun i v => items[i]? = some v) (fun i h => ItA b h it l i ∧ SqAt b h l items) := by
  cases b with
  | false => exact Draws.list hh it l hne items
  | true => exact Draws.tuple hh it l hne items
theorem pyIter_seq {prog : Program} {w : World} {A : Around} {E : Value → Shared → Prop} {s : Shared} {b : Bool} {l : Addr} {items : Array Value} {Q : Value → Shared → Prop} (h : SqAt b s.heap l items)
    (hQ : Q (.ref s.heap.objs.size) { s with heap := s.heap.push { cls := .type (ItN b), data := .fields #[.ref l, .int 0 0] } }) : wpAny (model prog w) A (pyIter (.ref l)) Q E s := by
  cases b with
  | false => exact wpAny_pyIter_list h hQ
  | true => exact wpAny_pyIter_tuple h hQ
theorem SqAt.push {b : Bool} {h : Heap} {l : Addr} {items : Array Value} (q : SqAt b h l items) (o : Obj) : SqAt b (h.push o) l items := by
  cases b with
  | false => exact Heap.IsList.push q o
  | true => exact Heap.IsTuple.push q o
theorem ItA.new {b : Bool} {h : Heap} {l it : Addr} (e : h.get? it = some { cls := .type (ItN b), data := .fields #[.ref l, .int 0 0] }) : ItA b h it l 0 := by
  cases b with
  | false => exact ⟨_, e, rfl, rfl⟩
  | true => exact ⟨_, e, rfl, rfl⟩
theorem ItA.at {b : Bool} {h h' : Heap} {l it : Addr} {i : Nat} (q : ItA b h it l i) (k : ∀ o, h.get? it = some o → h'.get? it = some o) : ItA b h' it l i := by
  cases b with
  | false => exact Heap.IsListIter.at q k
  | true => exact Heap.IsTupleIter.at q k
theorem ItA.obj {b : Bool} {h : Heap} {l it : Addr} {i : Nat} (q : ItA b h it l i) : ∃ o, h.get? it = some o ∧ ∀ v, o.data ≠ .cell v := by
  cases b with
  | false => obtain ⟨o, e, c, d⟩ := q; exact ⟨o, e, fun v z => by rw [d] at z; cases z⟩
  | true => obtain ⟨o, e, c, d⟩ := q; exact ⟨o, e, fun v z => by rw [d] at z; cases z⟩
theorem SqAt.lt {b : Bool} {h : Heap} {l : Addr} {items : Array Value} (q : SqAt b h l items) : l < h.objs.size := by
  cases b with
  | false => obtain ⟨o, e, _⟩ := q; exact Heap.lt_size e
  | true => obtain ⟨o, e, _⟩ := q; exact Heap.lt_size e
set_option maxHeartbeats 4000000 in
theorem meets_enum_newA (b : Bool) (l : Addr) (items : Array Value) :
    Meets (Builtin.«enumerate.__new__» ⟨[.type "enumerate", .ref l], []⟩) (fun _ R s => SqAt b s.heap l items ∧
      R (.ok (.ret (.ref (s.heap.push { cls := .type (ItN b), data := .fields #[.ref l, .int 0 0] }).objs.size)))
        { s with heap := (s.heap.push { cls := .type (ItN b), data := .fields #[.ref l, .int 0 0] }).push { cls := .type "enumerate", data := .fields #[.none, .bool false, .ref s.heap.objs.size, rawInt 0, .none, .none] } }) :=
  .of_wp fun prog w A R s h => by
    obtain ⟨hp, g, d, tk, os⟩ := s; obtain ⟨hl, h⟩ := h
    have hsub := sub_enumerate
    have hL : SqAt b (Shared.heap ⟨hp, g, d, tk, os⟩) l items := hl
    wp_walk
    refine wpAny_stack_any fun st => wpAny_pure ?_
    split
    · rename_i c _ _ _ _ _
      cases (c == Value.type "enumerate")
      · wp_walk using pyIter_seq hL
        exact ⟨_, rfl, h⟩
      · wp_walk using pyIter_seq hL
        exact ⟨_, rfl, h⟩
    · wp_walk using pyIter_seq hL
      exact ⟨_, rfl, h⟩
abbrev zpH1 (b c : Bool) (h : Heap) (l1 : Addr) : Heap := h.push { cls := .type (ItN b), data := .fields #[.ref l1, .int 0 0] }
abbrev zpH2 (b c : Bool) (h : Heap) (l1 l2 : Addr) : Heap := (zpH1 b c h l1).push { cls := .type (ItN c), data := .fields #[.ref l2, .int 0 0] }
abbrev zpH3 (b c : Bool) (h : Heap) (l1 l2 : Addr) : Heap := (zpH2 b c h l1 l2).push { cls := .type "tuple", data := .seq #[.ref h.objs.size, .ref (zpH1 b c h l1).objs.size] }
abbrev zpH4 (b c : Bool) (h : Heap) (l1 l2 : Addr) : Heap := (zpH3 b c h l1 l2).push { cls := .type "tuple", data := .seq #[.none, .none] }
abbrev zpH5 (b c : Bool) (h : Heap) (l1 l2 : Addr) : Heap := (zpH4 b c h l1 l2).push { cls := .type "zip", data := .fields #[.none, .bool false, .bool false, .ref (zpH2 b c h l1 l2).objs.size, .ref (zpH3 b c h l1 l2).objs.size] }
set_option maxHeartbeats 4000000 in
theorem meets_zip_newA (b c : Bool) (l1 l2 : Addr) (xs ys : Array Value) :
    Meets (Builtin.«zip.__new__» ⟨[.type "zip", .ref l1, .ref l2], []⟩) (fun _ R s => SqAt b s.heap l1 xs ∧ SqAt c s.heap l2 ys ∧
      R (.ok (.ret (.ref (zpH4 b c s.heap l1 l2).objs.size))) { s with heap := zpH5 b c s.heap l1 l2 }) :=
  .of_wp fun prog w A R s h => by
    obtain ⟨hp, g, d, tk, os⟩ := s; obtain ⟨hl1, hl2, h⟩ := h
    have hsub := sub_zip
    have hL1 : SqAt b (Shared.heap ⟨hp, g, d, tk, os⟩) l1 xs := hl1
    have hL2 : SqAt c (Shared.heap ⟨hp.push { cls := .type (ItN b), data := .fields #[.ref l1, .int 0 0] }, g, d, tk, os⟩) l2 ys := SqAt.push hl2 _
    wp_walk using pyIter_seq hL1, pyIter_seq hL2
    exact ⟨_, rfl, h⟩
section
variable {prog : Program} {w : World} {A : Around} {E : Value → Shared → Prop} {s : Shared}
theorem call_enumA {b : Bool} {l : Addr} {items : Array Value} {Q : Value → Shared → Prop} (hL : SqAt b s.heap l items)
    (h : ∀ h', IsEnum h' (s.heap.objs.size + 1) s.heap.objs.size 0 .none → ItA b h' s.heap.objs.size l 0 → h'.objs.size = s.heap.objs.size + 2 →
      (∀ b o, s.heap.get? b = some o → h'.get? b = some o) → Q (.ref (s.heap.objs.size + 1)) { s with heap := h' }) :
    wpAny (model prog w) A (call (.type "enumerate") [.ref l]) Q E s := by
  refine callType_new F.called_enumerate (by decide) (F.typeCall_enumerate_1 _) (F.newCall_enumerate_1 _) (fun obj => F.args_object_init_2 obj _) F.entry_enumerate_new
    (meets_enum_newA b l items) ⟨hL, ?_⟩
  have hz : (s.heap.push { cls := .type (ItN b), data := .fields #[.ref l, .int 0 0] }).objs.size = s.heap.objs.size + 1 := Heap.size_push ..
  show _ ∧ _
  rw [hz]
  have he : IsEnum ((s.heap.push { cls := .type (ItN b), data := .fields #[.ref l, .int 0 0] }).push
      { cls := .type "enumerate", data := .fields #[.none, .bool false, .ref s.heap.objs.size, rawInt 0, .none, .none] }) (s.heap.objs.size + 1) s.heap.objs.size 0 .none := by
    have := Heap.get?_push_size (s.heap.push { cls := .type (ItN b), data := .fields #[.ref l, .int 0 0] })
      (o := { cls := .type "enumerate", data := .fields #[.none, .bool false, .ref s.heap.objs.size, rawInt 0, .none, .none] }) rfl
    rw [hz] at this; exact this
  refine ⟨⟨_, he, rfl⟩, h _ he (ItA.new (Heap.get?_push_of_some _ (Heap.get?_push_size _ rfl))) (by rw [Heap.size_push, hz]) fun b o x => Heap.get?_push_of_some _ (Heap.get?_push_of_some _ x)⟩
theorem call_zipA {b c : Bool} {l1 l2 : Addr} {xs ys : Array Value} {Q : Value → Shared → Prop} (hl1 : SqAt b s.heap l1 xs) (hl2 : SqAt c s.heap l2 ys)
    (h : ∀ h', IsZip h' (s.heap.objs.size + 4) (s.heap.objs.size + 2) (s.heap.objs.size + 3) .none → IsTupOf2 h' (s.heap.objs.size + 2) (.ref s.heap.objs.size) (.ref (s.heap.objs.size + 1)) →
      IsTupOf2 h' (s.heap.objs.size + 3) .none .none → ItA b h' s.heap.objs.size l1 0 → ItA c h' (s.heap.objs.size + 1) l2 0 → h'.objs.size = s.heap.objs.size + 5 →
      (∀ c o, s.heap.get? c = some o → h'.get? c = some o) → Q (.ref (s.heap.objs.size + 4)) { s with heap := h' }) :
    wpAny (model prog w) A (call (.type "zip") [.ref l1, .ref l2]) Q E s := by
  refine callType_new F.called_zip (by decide) (F.typeCall_zip_2 _ _) (F.newCall_zip_2 _ _) (fun obj => F.args_object_init_3 obj _ _) F.entry_zip_new
    (meets_zip_newA b c l1 l2 xs ys) ⟨hl1, hl2, ?_⟩
  have z1 : (zpH1 b c s.heap l1).objs.size = s.heap.objs.size + 1 := Heap.size_push ..
  have z2 : (zpH2 b c s.heap l1 l2).objs.size = s.heap.objs.size + 2 := by rw [Heap.size_push, z1]
  have z3 : (zpH3 b c s.heap l1 l2).objs.size = s.heap.objs.size + 3 := by rw [Heap.size_push, z2]
  have z4 : (zpH4 b c s.heap l1 l2).objs.size = s.heap.objs.size + 4 := by rw [Heap.size_push, z3]
  have z5 : (zpH5 b c s.heap l1 l2).objs.size = s.heap.objs.size + 5 := by rw [Heap.size_push, z4]
  have g5 : (zpH5 b c s.heap l1 l2).get? (zpH4 b c s.heap l1 l2).objs.size = some _ := Heap.get?_push_size _ rfl
  have g4 : (zpH5 b c s.heap l1 l2).get? (zpH3 b c s.heap l1 l2).objs.size = some _ := Heap.get?_push_of_some _ (Heap.get?_push_size _ rfl)
  have g3 : (zpH5 b c s.heap l1 l2).get? (zpH2 b c s.heap l1 l2).objs.size = some _ := Heap.get?_push_of_some _ (Heap.get?_push_of_some _ (Heap.get?_push_size _ rfl))
  have g2 : (zpH5 b c s.heap l1 l2).get? (zpH1 b c s.heap l1).objs.size = some _ := Heap.get?_push_of_some _ (Heap.get?_push_of_some _ (Heap.get?_push_of_some _ (Heap.get?_push_size _ rfl)))
  have g1 : (zpH5 b c s.heap l1 l2).get? s.heap.objs.size = some _ := Heap.get?_push_of_some _ (Heap.get?_push_of_some _ (Heap.get?_push_of_some _ (Heap.get?_push_of_some _ (Heap.get?_push_size _ rfl))))
  show _ ∧ _
  rw [z2, z3, z4] at g5
  rw [z1, z2] at g3
  rw [z3] at g4
  rw [z1] at g2
  rw [z4]
  exact ⟨⟨_, g5, rfl⟩, h _ g5 g3 g4 (ItA.new g1) (ItA.new g2) z5 fun c o x =>
    Heap.get?_push_of_some _ (Heap.get?_push_of_some _ (Heap.get?_push_of_some _ (Heap.get?_push_of_some _ (Heap.get?_push_of_some _ x))))⟩
theorem sq_ne_it {b c : Bool} {h : Heap} {l it k : Addr} {i : Nat} {items : Array Value} (q : SqAt b h l items) (p : ItA c h it k i) : l ≠ it := by
  intro e
  subst e
  cases b with
  | false =>
    obtain ⟨o, e1, c1, _⟩ := q
    cases c with
    | false => obtain ⟨o2, e2, c2, _⟩ := p; rw [e1] at e2; cases e2; rw [c1] at c2; exact absurd c2 (by decide)
    | true => obtain ⟨o2, e2, c2, _⟩ := p; rw [e1] at e2; cases e2; rw [c1] at c2; exact absurd c2 (by decide)
  | true =>
    obtain ⟨o, e1, c1, _⟩ := q
    cases c with
    | false => obtain ⟨o2, e2, c2, _⟩ := p; rw [e1] at e2; cases e2; rw [c1] at c2; exact absurd c2 (by decide)
    | true => obtain ⟨o2, e2, c2, _⟩ := p; rw [e1] at e2; cases e2; rw [c1] at c2; exact absurd c2 (by decide)
end
end Rf
namespace Rf
open PySem PySem.Spec PyProof.Rows
open L2 hiding St
def SqK (b : Bool) (K : PySem.W.Frag) (H : Hp) (a : Addr) (xs : List V) : Prop := cond b (SqT K H a xs) (SqL K H a xs)
section
variable {X : Cx} {pins : List (Addr × Obj)} {σ : Sg} {H : Hp} {s : Shared} {a : Addr} {b : Bool} {xs ys : List V}
theorem inv_seq (I : Inv X pins σ H s) (h : SqK b X.K H a xs) : ∃ its : List Value, Vals xs its ∧ SqAt b s.heap a its.toArray ∧ xs.length ≤ sizeLine := by
  cases b with
  | false => obtain ⟨its, r, p, z⟩ := I.list h; exact ⟨its, r, p.isList, z⟩
  | true => obtain ⟨its, r, p, z⟩ := I.tuple h; exact ⟨its, r, p, z⟩
theorem inv_inj (I : Inv X pins σ H s) (h : SqK b X.K H a xs) (h' : SqK b X.K H a ys) : xs = ys := by
  cases b with
  | false => exact I.list_inj h h'
  | true => exact I.tuple_inj h h'
end
/-- enumerate of the sequence at a -/
def ItEn (b : Bool) (K : PySem.W.Frag) (a : Addr) : It :=
  ⟨fun i H => ∃ (xs : List V) (x : V), SqK b K H a xs ∧ xs[i]? = some x, fun i H v H' => ∃ T x, v = .ref T ∧ H T = none ∧ H' = upd H T (.tup [.int (i : Nat), x]) ∧ ∀ xs, SqK b K H a xs → xs[i]? = some x, fun i H => ∃ xs : List V, SqK b K H a xs ∧ xs.length = i⟩
theorem turn_enA {P : Program} {w : World} {K : PySem.W.Frag} {elts : List Expr} {kk : Nat} {tpos : Pos} (b : Bool) (a e it : Addr) :
    Turn P w K (.Tuple elts kk tpos) (ItEn b K a) [e, it] e (fun i h => (∃ old, IsEnum h e it ((i : Nat) : Int) old) ∧ ItA b h it a i ∧ e ≠ it) where
  mem := by simp
  obj := fun i h st c hc => by
    obtain ⟨⟨old, he⟩, hi, _⟩ := st
    have e' : c = e ∨ c = it := by simpa using hc
    rcases e' with z | z
    · rw [z]; exact ⟨_, he, fun v q => nomatch q⟩
    · rw [z]; exact hi.obj
  keep := fun i h h' st k => let ⟨⟨old, he⟩, hi, hne⟩ := st; ⟨⟨old, k e (by simp) _ he⟩, hi.at fun o q => k it (by simp) o q, hne⟩
  item := by
    intro X hP hw hK hc i pins s σ H E I hf st hg
    subst hP hw hK
    obtain ⟨⟨old, he⟩, hit, hne⟩ := st
    obtain ⟨xs, x, hq, hx⟩ := hg
    obtain ⟨its, rv, p, hz⟩ := inv_seq I hq
    obtain ⟨u, hu, ru⟩ := rv.get hx
    have hel : e < s.heap.objs.size := Heap.lt_size he
    have hil : it < s.heap.objs.size := by obtain ⟨o, q, _⟩ := hit.obj; exact Heap.lt_size q
    have hlt : i < its.toArray.size := by
      have := (List.getElem?_eq_some_iff.mp hu).1
      simpa using this
    have hea : a ≠ e := fun z => by
      obtain ⟨o, q, c, _⟩ : ∃ o, s.heap.get? a = some o ∧ o.cls ≠ .type "enumerate" ∧ True := by
        cases b with
        | false => obtain ⟨o, q, c, _⟩ := p; exact ⟨o, q, by rw [c]; decide, trivial⟩
        | true => obtain ⟨o, q, c, _⟩ := p; exact ⟨o, q, by rw [c]; decide, trivial⟩
      rw [z, he] at q
      cases q
      exact c rfl
    refine wpAny_pyNext_enum_itemD (draws_seq (A := X.A.in1) (by exact I.ok.hd hc) b it a (sq_ne_it p hit) its.toArray) he ⟨hit, p⟩ hlt hne (by simp [hne, Ne.symm hea]) fun u' h' tk hu' ho hst hT hsz hk => ?_
    obtain rfl : u = u' := by
      have : its.toArray[i]? = some u := by simpa using hu
      rw [this] at hu'
      exact Option.some.inj hu'
    refine ⟨_, rfl, wpAny_letOwnedTupleGo_enum (s := { s with heap := h', toks := tk + 1 }) ho fun h'' he' sb => ?_⟩
    have hT2 : h''.get? s.heap.objs.size = some { cls := .type "tuple", data := .seq #[.int i tk, u] } := (sb.2 _ (Nat.ne_of_gt hel)).trans hT
    have new : ObjOk X.prog X.w (upd H s.heap.objs.size (.tup [.int (i : Nat), x])) h'' s.heap.objs.size (.tup [.int (i : Nat), x]) :=
      ⟨by show 2 ≤ sizeLine; decide, [.int i tk, u], .cons ⟨_, rfl⟩ (.cons ru .nil), ⟨_, hT2, rfl, _, rfl⟩⟩
    have I1 : Inv X pins σ (upd H s.heap.objs.size (.tup [.int (i : Nat), x])) { s with heap := h'', toks := tk + 1 } :=
      I.turnedNew (ch := [e, it]) (fun b ob hb q => (sb.2 b (fun z => hb (by simp [z]))).trans (hk b ob (fun z => hb (by simp [z])) (fun z => hb (by simp [z])) q)) hf (Nat.le_refl _) new
    refine ⟨.ref s.heap.objs.size, _, I1, rfl, ⟨_, x, rfl, I.hok.fresh (Nat.le_refl _), rfl, fun ys hy => by rw [inv_inj I hy hq]; exact hx⟩, ⟨⟨u, ?_⟩, hst.1.at fun o q => (sb.2 it (Ne.symm hne)).trans q, hne⟩, fun b hb => ?_⟩
    · have e1 : ((i + 1 : Nat) : Int) = (i : Int) + 1 := by omega
      rw [e1]; exact he'
    · have hb' : b < s.heap.objs.size := by
        have e' : b = e ∨ b = it := by simpa using hb
        rcases e' with z | z
        · rw [z]; exact hel
        · rw [z]; exact hil
      rw [upd_ne (Nat.ne_of_lt hb')]
      exact (hf b hb).1
  done := by
    intro X hP hw hK hc i pins s σ H E I hf st hg
    subst hP hw hK
    obtain ⟨⟨old, he⟩, hit, hne⟩ := st
    obtain ⟨xs, hq, hx⟩ := hg
    obtain ⟨its, rv, p, hz⟩ := inv_seq I hq
    obtain ⟨f0, f1, f2, f3, f4, f5⟩ := hf it (by simp)
    have hl := rv.length
    have ei : i = its.toArray.size := by simp; omega
    refine wpAny_pyNext_enum_endD (draws_seq (A := X.A.in1) (by exact I.ok.hd hc) b it a (sq_ne_it p hit) its.toArray) he (by rw [← ei]; exact ⟨hit, p⟩) fun h' eb => ⟨rfl, I.turned (t' := s.toks) (fun b o hb q => eb b o hb q) f0 f1 f3 f4 f5⟩
  self := fun A i s Q E st h => let ⟨⟨_, he⟩, _⟩ := st; wpAny_pyIter_enum he h
/-- zip of the sequences at a and b -/
def ItZp (p q : Bool) (K : PySem.W.Frag) (a b : Addr) : It :=
  ⟨fun i H => ∃ (xs ys : List V) (x y : V), SqK p K H a xs ∧ SqK q K H b ys ∧ xs[i]? = some x ∧ ys[i]? = some y,
    fun i H v H' => ∃ T x y, v = .ref T ∧ H T = none ∧ H' = upd H T (.tup [x, y]) ∧ (∀ xs, SqK p K H a xs → xs[i]? = some x) ∧ ∀ ys, SqK q K H b ys → ys[i]? = some y,
    fun i H => ∃ xs ys : List V, SqK p K H a xs ∧ SqK q K H b ys ∧ i ≤ xs.length ∧ i ≤ ys.length ∧ (i = xs.length ∨ i = ys.length)⟩
theorem apart_sep {z TI TO i1 i2 a b : Addr} (D : ZipApart z TI TO i1 i2 a b) : ZipSep2 z TI TO i1 i2 [i1, a] [i2, b] where
  TIz := D.TIz
  TOz := D.TOz
  TITO := D.TITO
  TIi1 := D.TIi1
  mem1 := by simp
  zf1 := by simp [Ne.symm D.i1z, Ne.symm D.l1z]
  Tf1 := by simp [D.TOi1, Ne.symm D.l1TO]
  TIi2 := D.TIi2
  mem2 := by simp
  zf2 := by simp [Ne.symm D.i2z, Ne.symm D.l2z]
  Tf2 := by simp [D.TOi2, Ne.symm D.l2TO]
  sep1_2 := by simp [D.i12, Ne.symm D.l2i1]
  sep2_1 := by simp [Ne.symm D.i12, Ne.symm D.l1i2]
theorem turn_zpA {P : Program} {w : World} {K : PySem.W.Frag} {elts : List Expr} {kk : Nat} {tpos : Pos} {p q : Bool} {a b z TI TO i1 i2 : Addr} (D : ZipApart z TI TO i1 i2 a b) :
    Turn P w K (.Tuple elts kk tpos) (ItZp p q K a b) [z, TI, TO, i1, i2] z (fun i h => IsZip h z TI TO .none ∧ IsTupOf2 h TI (.ref i1) (.ref i2) ∧ (∃ x y, IsTupOf2 h TO x y) ∧ ItA p h i1 a i ∧ ItA q h i2 b i) where
  mem := by simp
  obj := fun i h st c hc => by
    obtain ⟨hz, hTI, ⟨x, y, hTO⟩, h1, h2⟩ := st
    have e' : c = z ∨ c = TI ∨ c = TO ∨ c = i1 ∨ c = i2 := by simpa using hc
    rcases e' with r | r | r | r | r
    · rw [r]; exact ⟨_, hz, fun v q => nomatch q⟩
    · rw [r]; exact ⟨_, hTI, fun v q => nomatch q⟩
    · rw [r]; exact ⟨_, hTO, fun v q => nomatch q⟩
    · rw [r]; exact h1.obj
    · rw [r]; exact h2.obj
  keep := fun i h h' st k => by
    obtain ⟨hz, hTI, ⟨x, y, hTO⟩, h1, h2⟩ := st
    exact ⟨k z (by simp) _ hz, k TI (by simp) _ hTI, ⟨x, y, k TO (by simp) _ hTO⟩, h1.at fun o r => k i1 (by simp) o r, h2.at fun o r => k i2 (by simp) o r⟩
  item := by
    intro X hP hw hK hc i pins s σ H E I hf st hg
    subst hP hw hK
    obtain ⟨hz, hTI, ⟨x0, y0, hTO⟩, h1, h2⟩ := st
    obtain ⟨xs, ys, x, y, hqx, hqy, hx, hy⟩ := hg
    obtain ⟨its, rv, p1, _⟩ := inv_seq I hqx
    obtain ⟨its2, rv2, p2, _⟩ := inv_seq I hqy
    obtain ⟨u, hu, ru⟩ := rv.get hx
    obtain ⟨u2, hu2, ru2⟩ := rv2.get hy
    have hzl : z < s.heap.objs.size := Heap.lt_size hz
    have hlt1 : i < its.toArray.size := by
      have := (List.getElem?_eq_some_iff.mp hu).1
      simpa using this
    have hlt2 : i < its2.toArray.size := by
      have := (List.getElem?_eq_some_iff.mp hu2).1
      simpa using this
    have hd : X.A.in1.handled = none := I.ok.hd hc
    refine wpAny_pyNext_zipD2_item (apart_sep D) (draws_seq hd p i1 a D.l1i1 its.toArray) (draws_seq hd q i2 b D.l2i2 its2.toArray) hz hTI hTO ⟨h1, p1⟩ ⟨h2, p2⟩ hlt1 hlt2 fun v1 v2 h' tk e1 e2 z' TO' h1' h2' hT hsz hk => ?_
    obtain rfl : u = v1 := by
      have : its.toArray[i]? = some u := by simpa using hu
      rw [this] at e1
      exact Option.some.inj e1
    obtain rfl : u2 = v2 := by
      have : its2.toArray[i]? = some u2 := by simpa using hu2
      rw [this] at e2
      exact Option.some.inj e2
    refine ⟨_, rfl, wpAny_letOwnedTupleGo_zip (s := { s with heap := h', toks := tk }) z' fun h'' z'' sb => ?_⟩
    have hT2 : h''.get? s.heap.objs.size = some { cls := .type "tuple", data := .seq #[u, u2] } := (sb.2 _ (Nat.ne_of_gt hzl)).trans hT
    have new : ObjOk X.prog X.w (upd H s.heap.objs.size (.tup [x, y])) h'' s.heap.objs.size (.tup [x, y]) :=
      ⟨by show 2 ≤ sizeLine; decide, [u, u2], .cons ru (.cons ru2 .nil), ⟨_, hT2, rfl, _, rfl⟩⟩
    have I1 : Inv X pins σ (upd H s.heap.objs.size (.tup [x, y])) { s with heap := h'', toks := tk } :=
      I.turnedNew (t' := tk) (ch := [z, TI, TO, i1, i2]) (fun c o hb r => (sb.2 c (fun q' => hb (by simp [q']))).trans (hk c o (fun q' => hb (by simp [q'])) (fun q' => hb (by simp [q'])) (fun q' => hb (by simp [q'])) (fun q' => hb (by simp [q'])) r)) hf (Nat.le_refl _) new
    refine ⟨.ref s.heap.objs.size, _, I1, rfl, ⟨_, x, y, rfl, I.hok.fresh (Nat.le_refl _), rfl, fun l hl => by rw [inv_inj I hl hqx]; exact hx, fun l hl => by rw [inv_inj I hl hqy]; exact hy⟩, ⟨z'', ?_, ⟨u, u2, ?_⟩, ?_, ?_⟩, fun c hcm => ?_⟩
    · exact (sb.2 _ D.TIz).trans (hk _ _ D.TIz D.TITO D.TIi1 D.TIi2 hTI)
    · exact (sb.2 _ D.TOz).trans TO'
    · exact h1'.1.at fun o r => (sb.2 _ D.i1z).trans r
    · exact h2'.1.at fun o r => (sb.2 _ D.i2z).trans r
    · have hlt : c < s.heap.objs.size := by
        have e' : c = z ∨ c = TI ∨ c = TO ∨ c = i1 ∨ c = i2 := by simpa using hcm
        rcases e' with r | r | r | r | r
        · rw [r]; exact hzl
        · rw [r]; exact Heap.lt_size hTI
        · rw [r]; exact Heap.lt_size hTO
        · rw [r]; obtain ⟨_, e1, _⟩ := h1.obj; exact Heap.lt_size e1
        · rw [r]; obtain ⟨_, e1, _⟩ := h2.obj; exact Heap.lt_size e1
      rw [upd_ne (Nat.ne_of_lt hlt)]
      exact (hf c hcm).1
  done := by
    intro X hP hw hK hc i pins s σ H E I hf st hg
    subst hP hw hK
    obtain ⟨hz, hTI, ⟨x0, y0, hTO⟩, h1, h2⟩ := st
    obtain ⟨xs, ys, hqx, hqy, le1, le2, hend⟩ := hg
    obtain ⟨its, rv, p1, _⟩ := inv_seq I hqx
    obtain ⟨its2, rv2, p2, _⟩ := inv_seq I hqy
    have l1 := rv.length
    have l2 := rv2.length
    have hd : X.A.in1.handled = none := I.ok.hd hc
    exact wpAny_pyNext_zipD2_end (apart_sep D) (draws_seq hd p i1 a D.l1i1 its.toArray) (draws_seq hd q i2 b D.l2i2 its2.toArray) hz hTI hTO ⟨h1, p1⟩ ⟨h2, p2⟩ (by simp; omega) (by simp; omega) (by simp; omega) fun h' tk hk => ⟨rfl, I.turnedL (t' := tk) (ch := [z, TI, TO, i1, i2]) (fun c o hb r =>
      hk c o (fun q' => hb (by simp [q'])) (fun q' => hb (by simp [q'])) (fun q' => hb (by simp [q'])) (fun q' => hb (by simp [q'])) r) hf⟩
  self := fun A i s Q E st h => wpAny_pyIter_zip st.1 h

theorem frz_sqk {K : PySem.W.Frag} {H : Hp} {a : Addr} {vs : List V} (h : SqF H a vs ∨ SqT K H a vs) : ∃ b : Bool, SqK b K H a vs ∧ ∀ H', Imm H H' → SqK b K H' a vs := by
  rcases h with h | h
  · exact ⟨false, h.sq, fun H' i => (h.imm i).sq⟩
  · exact ⟨true, h, fun H' i => sqT_imm h i⟩
theorem enumD_get : ∀ (ds : List D) (n i : Nat) (d : D), ds[i]? = some d → (enumD n ds)[i]? = some (.tuple [.int ((n + i : Nat) : Int), d])
  | [], _, _, _, h => by simp at h
  | d :: ds, n, 0, e, h => by simp at h; subst h; simp [enumD]
  | d :: ds, n, i + 1, e, h => by
    have := enumD_get ds (n + 1) i e (by simpa using h)
    simp only [enumD, List.getElem?_cons_succ, this]
    congr 5
    omega
theorem enumD_len : ∀ (ds : List D) (n : Nat), (enumD n ds).length = ds.length
  | [], _ => rfl
  | d :: ds, n => by simp [enumD, enumD_len ds]
theorem iw_enum {K : PySem.W.Frag} {H : Hp} {a : Addr} {vs : List V} {ds : List D} {b : Bool} (h : SqK b K H a vs ∧ ∀ H', Imm H H' → SqK b K H' a vs) (g : DFs K H vs ds) : IWalk K (ItEn b K a) (enumD 0 ds) H := by
  refine ⟨fun H' => Imm H H', Imm.refl H, fun H1 H2 i j => i.trans j, fun H1 i1 => ?_⟩
  rw [enumD_len]
  refine ⟨⟨vs, h.2 _ i1, g.length⟩, fun i hi => ?_⟩
  have hi' : i < vs.length := by rw [g.length]; exact hi
  refine ⟨⟨vs, vs[i], h.2 _ i1, by simp [hi']⟩, fun v H' ⟨T, x, e1, e2, e3, e4⟩ => ?_⟩
  subst e1 e3
  obtain ⟨d, ed, dv⟩ := g.getV (e4 vs (h.2 _ i1))
  refine ⟨.new _ _ e2, _, enumD_get ds 0 i d ed, .tup (SqT.of upd_same) (.cons ?_ (.cons (DF.imm (i1.trans (Imm.upd e2)) _ _ dv) .nil))⟩
  rw [Nat.zero_add]
  exact .int _
theorem zip_get2 : ∀ (xs ys : List D) (i : Nat) (x y : D), xs[i]? = some x → ys[i]? = some y → (zipD [xs, ys])[i]? = some (.tuple [x, y])
  | [], _, _, _, _, h, _ => by simp at h
  | _ :: _, [], _, _, _, _, h => by simp at h
  | a :: xs, b :: ys, 0, x, y, h1, h2 => by simp at h1 h2; subst h1 h2; simp [zipD]
  | a :: xs, b :: ys, i + 1, x, y, h1, h2 => by
    have := zip_get2 xs ys i x y (by simpa using h1) (by simpa using h2)
    simpa [zipD] using this
theorem zip_len2 (xs ys : List D) : (zipD [xs, ys]).length = min xs.length ys.length := by simp [zipD]
theorem iw_zip {K : PySem.W.Frag} {H : Hp} {a a' : Addr} {vs us : List V} {ds es : List D} {b c : Bool} (h : SqK b K H a vs ∧ ∀ H', Imm H H' → SqK b K H' a vs) (h' : SqK c K H a' us ∧ ∀ H', Imm H H' → SqK c K H' a' us) (g : DFs K H vs ds) (g' : DFs K H us es) : IWalk K (ItZp b c K a a') (zipD [ds, es]) H := by
  refine ⟨fun H' => Imm H H', Imm.refl H, fun H1 H2 i j => i.trans j, fun H1 i1 => ?_⟩
  rw [zip_len2]
  have l1 := g.length
  have l2 := g'.length
  refine ⟨⟨vs, us, h.2 _ i1, h'.2 _ i1, by omega, by omega, by omega⟩, fun i hi => ?_⟩
  have hi1 : i < vs.length := by omega
  have hi2 : i < us.length := by omega
  refine ⟨⟨vs, us, vs[i], us[i], h.2 _ i1, h'.2 _ i1, by simp [hi1], by simp [hi2]⟩, fun v H' ⟨T, x, y, e1, e2, e3, e4, e5⟩ => ?_⟩
  subst e1 e3
  obtain ⟨d, ed, dv⟩ := g.getV (e4 vs (h.2 _ i1))
  obtain ⟨d', ed', dv'⟩ := g'.getV (e5 us (h'.2 _ i1))
  exact ⟨.new _ _ e2, _, zip_get2 ds es i d d' ed ed', .tup (SqT.of upd_same) (.cons (DF.imm (i1.trans (Imm.upd e2)) _ _ dv) (.cons (DF.imm (i1.trans (Imm.upd e2)) _ _ dv') .nil))⟩
section
variable {X : Cx} {R : Rc} {G : Env} {x y z : Expr} {elts : List Expr} {a b c : IE} {as : IEs} {pos tpos p1 : Pos} {kk : Nat}
theorem pi_enumR (hg : Gl X "enumerate") (hm : X.mg "enumerate" = none) (h : PE X x (Rd X.K R (ev G a))) (hs : starEach [x] X.env = (false, eval x X.env) :: starEach [] X.env) :
    PI X (.Tuple elts kk tpos) (.Call (.Name "enumerate" p1) [x] [] pos) (RdI X.K R (evi G (.enum a))) := by
  refine ⟨fun pins s σ H Q I ⟨st, hr, q⟩ => ?_⟩
  unfold evi at q
  have q' : ((ev G a st).bind fun p => (T.opt (items? p.1.fz)).bind fun ds => T.ok (enumD 0 ds, p.2)).All (fun p => ∀ J H1, Stp R.L σ st p.2 H H1 → RelS X.K R.L R.B H1 σ p.2 → IWalk X.K J p.1 H1 → Q J H1) (EW X.K R σ st H) := by
    simpa only [items_fz] using q
  refine Call_ (ld_blt I hg hm PyProof.Rows.boot_enumerate (PyProof.Rows.callWith_type1 (args_cons (thn ((pe_fz h).run pins s σ H (fun v H1 => ∃ a' vs ds, v = .ref a' ∧ (SqF H1 a' vs ∨ SqT X.K H1 a' vs) ∧ DFs X.K H1 vs ds ∧ ∀ J, IWalk X.K J (enumD 0 ds) H1 → Q J H1) I
    (rdF_bind (k := fun c st1 => (T.opt (items? c)).bind fun ds => T.ok (enumD 0 ds, st1)) hr q' fun c st1 v H1 s1 r1 rv nc h1 => ?_)) fun u s1 ⟨w, H1, I1, r1, a', vs, ds, e, hq, g, hQ⟩ => args_nil ?_) hs) hs rfl))
  · obtain ⟨ds, e, h2⟩ := T.all_none h1
    obtain ⟨a', vs, e2, e3, g⟩ := rv.frz nc e
    exact ⟨a', vs, ds, e2, e3, g, fun J w => h2 J H1 s1 r1 w⟩
  · subst e
    obtain rfl : u = Value.ref a' := r1
    obtain ⟨b', hk⟩ := frz_sqk hq
    obtain ⟨its, rv, p', hz⟩ := inv_seq I1 hk.1
    refine call_enumA p' fun h' he hit hsz hkp => wpAny_pyIter_enum he ?_
    have I2 : Inv X pins σ H1 { s1 with heap := h' } := I1.kept (t' := s1.toks) hkp
    refine ⟨s1.heap.objs.size + 1, [s1.heap.objs.size + 1, s1.heap.objs.size], _, _, H1, rfl, I2, turn_enA b' a' (s1.heap.objs.size + 1) s1.heap.objs.size, ⟨⟨.none, he⟩, hit, Nat.succ_ne_self _⟩, fun c hb => ?_, hQ _ (iw_enum hk g)⟩
    have e' : c = s1.heap.objs.size + 1 ∨ c = s1.heap.objs.size := by simpa using hb
    have hle : s1.heap.objs.size ≤ c := by
      rcases e' with z | z
      · rw [z]; exact Nat.le_add_right _ _
      · rw [z]; exact Nat.le_refl _
    exact I1.fpOk hle (I1.hok.fresh hle)
theorem two_items {K : PySem.W.Frag} {L : Lw} {H : Hp} {vs : List V} {cs : List Cell} {ls : List (List D)} (g : Reps K L H vs cs) (no : NoOw cs) (e : allItems cs = some ls) (hl : cs.length = 2) :
    ∃ a a' us us' ds es, vs = [.ref a, .ref a'] ∧ (SqF H a us ∨ SqT K H a us) ∧ (SqF H a' us' ∨ SqT K H a' us') ∧ DFs K H us ds ∧ DFs K H us' es ∧ ls = [ds, es] := by
  match cs, hl with
  | [c, d], _ =>
    obtain ⟨v, u, rfl, rv, ru⟩ := g.two
    cases e1 : items? c with
    | none =>
      unfold allItems at e
      rw [e1] at e
      simp at e
    | some ds =>
      cases e2 : items? d with
      | none =>
        simp only [allItems, e1, e2] at e
        cases e
      | some es =>
        simp only [allItems, e1, e2] at e
        cases e
        obtain ⟨a, us, rfl, h1, g1⟩ := rv.frz (no c (by simp)) e1
        obtain ⟨a', us', rfl, h2, g2⟩ := ru.frz (no d (by simp)) e2
        exact ⟨a, a', us, us', ds, es, rfl, h1, h2, g1, g2, rfl⟩
theorem pi_zipR {e1 e2 : IE} (hg : Gl X "zip") (hm : X.mg "zip" = none) (ha : PA X [x, y] (RdC X.K R (evc G (.cons e1 (.cons e2 .nil)))))
    (hs : starEach [x, y] X.env = (false, eval x X.env) :: starEach [y] X.env) (hpl : (backTo pos (starEach [y] X.env)).any (·.1) = false) :
    PI X (.Tuple elts kk tpos) (.Call (.Name "zip" p1) [x, y] [] pos) (RdI X.K R (evi G (.zip (.cons e1 (.cons e2 .nil))))) := by
  refine ⟨fun pins s σ H Q I ⟨st, hr, q⟩ => ?_⟩
  unfold evi at q
  have key : RdC X.K R (evc G (.cons e1 (.cons e2 .nil))) σ H (fun vs H1 => ∃ a a' us us' ds es, vs = [.ref a, .ref a'] ∧ (SqF H1 a us ∨ SqT X.K H1 a us) ∧ (SqF H1 a' us' ∨ SqT X.K H1 a' us') ∧ DFs X.K H1 us ds ∧ DFs X.K H1 us' es ∧ ∀ J, IWalk X.K J (zipD [ds, es]) H1 → Q J H1) := by
    refine ⟨st, hr, T.all_mono (fun p ⟨hp, hl⟩ vs H1 s1 r1 g no => ?_) (fun _ _ _ h => h) _ (evc_len _ st (T.all_bind _ q))⟩
    obtain ⟨ls, e, h2⟩ := T.all_none hp
    obtain ⟨a, a', us, us', ds, es, ev, h3, h4, g1, g2, el⟩ := two_items g no e hl
    refine ⟨a, a', us, us', ds, es, ev, h3, h4, g1, g2, fun J w => h2 J H1 s1 r1 ?_⟩
    rw [el]
    exact w
  refine Call_ (ld_blt I hg hm PyProof.Rows.boot_zip (PyProof.Rows.callWith_type1 (thn (ha.run pos pins s σ H _ I key) fun us s1 ⟨vs, H1, I1, r1, a, b, ws, ws', ds, es, ev, h1, h2, g1, g2, hQ⟩ => ?_) hs hpl))
  · subst ev
    cases r1 with
    | cons r rr =>
      cases rr with
      | cons r' rr =>
        cases rr
        cases r
        cases r'
        obtain ⟨p, hk⟩ := frz_sqk h1
        obtain ⟨q', hk'⟩ := frz_sqk h2
        obtain ⟨its, rv, p1, _⟩ := inv_seq I1 hk.1
        obtain ⟨its2, rv2, p2, _⟩ := inv_seq I1 hk'.1
        refine call_zipA p1 p2 fun h' hz hTI hTO i1 i2 hsz hkp => wpAny_pyIter_zip hz ?_
        have I2 : Inv X pins σ H1 { s1 with heap := h' } := I1.kept (t' := s1.toks) hkp
        refine ⟨s1.heap.objs.size + 4, [s1.heap.objs.size + 4, s1.heap.objs.size + 2, s1.heap.objs.size + 3, s1.heap.objs.size, s1.heap.objs.size + 1], _, _, H1, rfl, I2, turn_zpA (p := p) (q := q') (PySem.W.ktu_apart s1.heap.objs.size a b p1.lt p2.lt), ⟨hz, hTI, ⟨_, _, hTO⟩, i1, i2⟩, fun c hcm => ?_, hQ _ (iw_zip hk hk' g1 g2)⟩
        have e' : c = s1.heap.objs.size + 4 ∨ c = s1.heap.objs.size + 2 ∨ c = s1.heap.objs.size + 3 ∨ c = s1.heap.objs.size ∨ c = s1.heap.objs.size + 1 := by simpa using hcm
        have hle : s1.heap.objs.size ≤ c := by
          rcases e' with z | z | z | z | z
          · rw [z]; exact Nat.le_add_right _ _
          · rw [z]; exact Nat.le_add_right _ _
          · rw [z]; exact Nat.le_add_right _ _
          · rw [z]; exact Nat.le_refl _
          · rw [z]; exact Nat.le_add_right _ _
        exact I1.fpOk hle (I1.hok.fresh hle)
end
end Rf
set_option Elab.async false
set_option linter.all false
set_option maxRecDepth 100000
set_option maxHeartbeats 1000000
/-! Rf14: list comprehensions. -/
namespace Rf
open PySem PySem.Spec PyProof.Rows
open L2 hiding St

section
variable {K : PySem.W.Frag} {L : Lw} {B H H' : Hp} {σ σ' : Sg} {st : Sl} {tg vs : List Nat}
theorem forget_len : ∀ (tg : List Nat) (st : Sl), (Sl.forget tg st).length = st.length
  | [], _ => rfl
  | i :: tg, st => by
    unfold Sl.forget
    rw [forget_len tg, Sl.length_set]
theorem forget_n : ∀ (tg : List Nat) (st : Sl), (Sl.forget tg st).n = st.n
  | [], _ => rfl
  | i :: tg, st => forget_n tg (st.set i none)
theorem forget_some : ∀ {tg : List Nat} {st : Sl} {j : Nat} {c : Cell}, (Sl.forget tg st).cs[j]? = some (some c) → st.cs[j]? = some (some c) ∧ j ∉ tg
  | [], _, _, _, h => ⟨h, by simp⟩
  | i :: tg, st, j, c, h => by
    unfold Sl.forget at h
    obtain ⟨h1, h2⟩ := forget_some (tg := tg) h
    by_cases hj : j = i
    · subst hj
      have hl : j < st.length := by
        have := (List.getElem?_eq_some_iff.mp h1).1
        rwa [List.length_set] at this
      rw [List.getElem?_set_self hl] at h1
      cases h1
    · rw [List.getElem?_set_ne (Ne.symm hj)] at h1
      exact ⟨h1, by simp [hj, h2]⟩
theorem wipe_in : ∀ {vs : List Nat} {σ : Sg} {i : Nat}, i ∈ vs → i < σ.length → (wipe σ vs)[i]? = some none
  | [], _, _, h, _ => by cases h
  | v :: vs, σ, i, h, hl => by
    unfold wipe
    by_cases hv : v = i
    · subst hv
      exact List.getElem?_set_self (by rw [wipe_length]; exact hl)
    · rw [List.getElem?_set_ne hv]
      rcases List.mem_cons.mp h with z | z
      · exact absurd z.symm hv
      · exact wipe_in z hl
theorem wipe_eq {tg vs : List Nat} (h : ∀ i, i ∈ vs ↔ i ∈ tg) {a b : Sg} (s : Same a b tg) : wipe a vs = wipe b vs := by
  refine List.ext_getElem? fun i => ?_
  by_cases hi : i ∈ vs
  · by_cases hl : i < a.length
    · rw [wipe_in hi hl, wipe_in hi (by rw [← s.1]; exact hl)]
    · rw [List.getElem?_eq_none (by rw [wipe_length]; omega), List.getElem?_eq_none (by rw [wipe_length, ← s.1]; omega)]
  · rw [wipe_out hi, wipe_out hi]
    exact s.2 i fun z => hi ((h i).mpr z)
theorem wipe_same (tg vs : List Nat) (h : ∀ i, i ∈ vs ↔ i ∈ tg) (σ : Sg) : Same σ (wipe σ vs) tg := ⟨(wipe_length σ vs).symm, fun i hi => (wipe_out (fun z => hi ((h i).mp z))).symm⟩
/-- no target is told -/
def Clear (st : Sl) (tg : List Nat) : Prop := ∀ (i : Nat) (c : Cell), st.cs[i]? = some (some c) → i ∉ tg
theorem forget_clear (tg : List Nat) (st : Sl) : Clear (Sl.forget tg st) tg := fun _ _ h => (forget_some h).2
theorem RelS.same (r : RelS K L B H σ st) (s : Same σ σ' tg) (c : Clear st tg) : RelS K L B H σ' st where
  ext := r.ext
  law := r.law
  len := r.len.trans s.1
  slot := fun i x e => by
    obtain ⟨v, e1, q⟩ := r.slot i x e
    exact ⟨v, by rw [← s.2 i (c i x e)]; exact e1, q⟩
  own := fun a ⟨i, ds, e1, e2⟩ => r.own a ⟨i, ds, e1, by rw [s.2 i (c i _ e1)]; exact e2⟩
  dist := fun i j ds es a e1 e2 e3 e4 => r.dist i j ds es a e1 e2 (by rw [s.2 i (c i _ e1)]; exact e3) (by rw [s.2 j (c j _ e2)]; exact e4)
theorem RelS.forget (r : RelS K L B H σ st) (tg : List Nat) : RelS K L B H σ (Sl.forget tg st) where
  ext := r.ext
  law := by rw [forget_n]; exact r.law
  len := (forget_len tg st).trans r.len
  slot := fun i x e => r.slot i x (forget_some e).1
  own := fun a ⟨i, ds, e1, e2⟩ => r.own a ⟨i, ds, (forget_some e1).1, e2⟩
  dist := fun i j ds es a e1 e2 e3 e4 => r.dist i j ds es a (forget_some e1).1 (forget_some e2).1 e3 e4
theorem owns_forget {a : Addr} (o : Owns σ (Sl.forget tg st) a) : Owns σ st a := let ⟨i, ds, e1, e2⟩ := o; ⟨i, ds, (forget_some e1).1, e2⟩
theorem owns_same {a : Addr} (s : Same σ σ' tg) (c : Clear st tg) : Owns σ st a ↔ Owns σ' st a :=
  ⟨fun ⟨i, ds, e1, e2⟩ => ⟨i, ds, e1, by rw [← s.2 i (c i _ e1)]; exact e2⟩, fun ⟨i, ds, e1, e2⟩ => ⟨i, ds, e1, by rw [s.2 i (c i _ e1)]; exact e2⟩⟩
theorem sets_clear : ∀ {is : List Nat} {ds : List D} {st st' : Sl}, sets is ds st = some st' → (∀ (i : Nat) (es : List D), st'.cs[i]? = some (some (.ow es)) → st.cs[i]? = some (some (.ow es)) ∧ i ∉ is) ∧ st'.length = st.length
  | [], [], st, st', e => by
    cases e
    exact ⟨fun i es q => ⟨q, by simp⟩, rfl⟩
  | [], _ :: _, _, _, e => by cases e
  | _ :: _, [], _, _, e => by cases e
  | j :: is, d :: ds, st, st', e => by
    obtain ⟨h1, h2⟩ := sets_clear (is := is) e
    refine ⟨fun i es q => ?_, by rw [h2, Sl.length_set]⟩
    obtain ⟨q1, q2⟩ := h1 i es q
    by_cases hj : i = j
    · subst hj
      have hl : i < st.length := by
        have := (List.getElem?_eq_some_iff.mp q1).1
        rwa [List.length_set] at this
      rw [List.getElem?_set_self hl] at q1
      cases q1
    · rw [List.getElem?_set_ne (Ne.symm hj)] at q1
      exact ⟨q1, by simp [hj, q2]⟩
theorem bindT_clear {d : D} {st' : Sl} (e : bindT tg d st = some st') : ∀ (i : Nat) (es : List D), st'.cs[i]? = some (some (.ow es)) → st.cs[i]? = some (some (.ow es)) ∧ i ∉ tg := by
  unfold bindT at e
  split at e
  · rename_i j
    exact (sets_clear (is := [j]) (ds := [d]) (st := st) (show sets [j] [d] st = some st' from e)).1
  · split at e
    · exact (sets_clear e).1
    · cases e
/-- a list of nobody's is rewritten -/
theorem upd_new {a : Addr} {xs ys : List V} (r : RelS K L B H σ st) (hn : ¬ Owns σ st a) (hl : ¬ L.A a) (hb0 : B a = none) (ha : H a = some (.lst xs)) :
    Imm H (upd H a (.lst ys)) ∧ RelS K L B (upd H a (.lst ys)) σ st := by
  have imm : Imm H (upd H a (.lst ys)) := fun b u q i => by
    by_cases hb : b = a
    · subst hb
      rw [ha] at q; cases q; exact i.elim
    · rw [upd_ne hb]; exact q
  refine ⟨imm, ⟨fun b u q n => ?_, L.keep _ _ _ r.law (fun b hb => upd_ne (fun z => by subst z; exact hl hb)) imm, r.len, fun j c q => ?_, r.own, r.dist⟩⟩
  · rw [upd_ne (fun z => by subst z; rw [hb0] at q; cases q)]; exact r.ext b u q n
  · obtain ⟨v, e1, rv⟩ := r.slot j c q
    refine ⟨v, e1, ?_⟩
    cases c with
    | sh d => exact DF.imm imm d v rv
    | ow es =>
      obtain ⟨b, ys, rfl, hb, gb⟩ := rv
      exact ⟨b, ys, rfl, by rw [upd_ne (fun z => by subst z; exact hn ⟨j, es, q, e1⟩)]; exact hb, DFs.imm imm _ _ gb⟩
    | st => exact rv
    | amb => exact rv
end
section
variable {X : Cx} {R : Rc} {G : Env} {x elt tgE : Expr} {ifs : List Expr} {a : IE} {it : II} {test : IO} {tg : List Nat} {pos : Pos} {scope : Scope} {own : List (Str × Nat)}
/-- within a block nothing is raised -/
def Rc.mute (R : Rc) : Rc := ⟨R.L, R.B, R.xi, fun _ _ _ _ => False⟩
theorem rdT_bindG {K : PySem.W.Frag} {α : Type} {R : Rc} {σ : Sg} {st : Sl} {H : Hp} {t : Sl → T (Cell × Sl)} {k : Bool → Sl → T α} {P : α → Prop} {Q : Bool → Hp → Prop} (hr : RelS K R.L R.B H σ st)
    (h : ((t st).bind fun p => (T.opt p.1.bool?).bind fun b => k b p.2).All P (fun _ _ _ => False))
    (hk : ∀ b st1 H1, Stp R.L σ st st1 H H1 → RelS K R.L R.B H1 σ st1 → (k b st1).All P (fun _ _ _ => False) → Q b H1) : RdT K R t σ H Q := by
  refine ⟨st, hr, T.all_bind' _ (T.all_mono (fun p hp => ?_) (fun _ _ _ h => h.elim) _ (T.all_bind _ h))⟩
  obtain ⟨b, e, h2⟩ := T.all_none hp
  rw [e]
  exact fun H1 s1 r1 => hk b p.2 H1 s1 r1 h2
theorem rdF_bindG {K : PySem.W.Frag} {α : Type} {R : Rc} {t : Sl → T (Cell × Sl)} {k : Cell → Sl → T α} {P : α → Prop} {σ : Sg} {st : Sl} {H : Hp} {Q : VK} (hr : RelS K R.L R.B H σ st) (h : ((t st).bind fun p => k p.1.fz p.2).All P (fun _ _ _ => False))
    (hk : ∀ c st1 v H1, Stp R.L σ st st1 H H1 → RelS K R.L R.B H1 σ st1 → RepV K R.L H1 v c → (k c st1).All P (fun _ _ _ => False) → Q v H1) : RdF K R t σ H Q :=
  ⟨st, hr, T.all_mono (fun p hp v H1 s1 r1 rv => hk p.1.fz p.2 v H1 s1 r1 rv hp) (fun _ _ _ h => h.elim) _ (T.all_bind _ h)⟩
theorem lc_rd {K : PySem.W.Frag} {σ : Sg} {H : Hp} {Q : VK} {vs : List Nat} {tt : TT} (hv : ∀ i, i ∈ vs ↔ i ∈ tg)
    (ht : ∀ (σ : Sg) (H : Hp) (Qb : Bool → Hp → Prop), RdT K R.mute (evq G test) σ H Qb → tt σ H Qb)
    (h : Rd K R (ev G (.lc a tg it test)) σ H Q) : tLc (RdI K R (evi G it)) (gRd K R.mute tg) tt (RdF K R.mute (ev G a)) vs σ H Q := by
  obtain ⟨st, hr, h⟩ := h
  unfold ev at h
  refine ⟨st, hr, T.all_mono (fun p hp J H1 s1 r1 iw D hD => ?_) (fun _ _ _ e => e) _ (T.all_bind _ h)⟩
  obtain ⟨ds, st1⟩ := p
  obtain ⟨Gd, g0, gk, gs⟩ := iw
  obtain ⟨D1, D2, D3⟩ := r1.freeA hD
  have nD : NewS H1 (upd H1 D (.lst [])) := .new D _ hD
  have rn := nD.rel r1
  have hA := T.all_noex _ (T.all_bind _ hp)
  refine ⟨fun i m H' => m = ds.length - i ∧ i ≤ ds.length ∧ Gd H' ∧ ∃ st' acc us, H' D = some (.lst us) ∧ DFs K H' us acc ∧ Clear st' tg ∧ RelS K R.L R.B H' σ st' ∧ Stp R.L σ st1 st' H1 H' ∧
    (mapL (ev G a) (evq G test) tg (ds.drop i) acc st').All (fun q => ∀ v H2, Stp R.L σ st1 q.2 H1 H2 → RelS K R.L R.B H2 σ q.2 → RepV K R.L H2 v (.ow q.1) → Fresh R.L R.B H1 σ q.2 v (.ow q.1) → Q v H2) (fun _ _ _ => False),
    ⟨_, rfl, Nat.zero_le _, gk _ _ g0 nD.imm, Sl.forget tg st1, [], [], upd_same, .nil, forget_clear _ _, rn.forget tg, ?_, ?_⟩, ?_⟩
  · exact ⟨fun a o e n m => nD.stp (L := R.L) (σ := σ) (st := st1) |>.fr a o e n m, nD.imm, fun a o => owns_forget o, fun a o e => (nD.stp (L := R.L) (σ := σ) (st := st1)).up a o e⟩
  · rw [List.drop_zero]
    refine T.all_mono (fun q hq v H2 s2 r2 rv f => ?_) (fun _ _ _ e => e) _ hA
    refine hq v H2 (s1.trans s2) r2 rv ?_
    exact fun b e => ⟨s1.none (f b e).1, (f b e).2⟩
  · rintro i m H' ⟨rfl, hi, gd, st', acc, us, hDl, gacc, hcl, r', s', hM⟩
    by_cases hlt : i < ds.length
    · have nO : ¬ Owns σ st' D := fun z => D3 (s'.sub D z)
      refine .inr ⟨((gs H' gd).2 i hlt).1, _, fun H2 q => ⟨ds.length - (i + 1), by omega, q⟩, fun v H2 y => ?_⟩
      obtain ⟨n, d, e, dv⟩ := ((gs H' gd).2 i hlt).2 v H2 y
      have ed : ds.drop i = d :: ds.drop (i + 1) := by
        have := List.drop_eq_getElem_cons hlt
        rw [List.getElem?_eq_getElem hlt] at e
        rw [this, Option.some.inj e]
      rw [ed] at hM
      unfold mapL at hM
      obtain ⟨st2, e2, h2⟩ := T.all_none hM
      have sm := wipe_same tg vs hv σ
      have r2 := (n.rel r').same sm hcl
      refine ⟨st', st2, d, r2, dv, e2, fun σ3 r3 z3 => ⟨?_, ht σ3 H2 _ ?_⟩⟩
      · exact (wipe_eq hv z3).symm.trans (wipe_eq hv (wipe_same tg vs hv σ)).symm
      have s2 : Stp R.L σ st1 st' H1 H2 := s'.trans n.stp
      have hD2 : H2 D = some (.lst us) := (n.stp (L := R.L) (σ := σ) (st := st')).fr D _ hDl D2 nO
      have g2 : DFs K H2 us acc := DFs.imm n.imm _ _ gacc
      have gd2 : Gd H2 := gk _ _ gd n.imm
      have o3 : ∀ b, Owns σ3 st2 b → Owns σ st' b := fun b ⟨j, es, q1, q2⟩ => by
        obtain ⟨c1, c2⟩ := bindT_clear e2 j es q1
        exact ⟨j, es, c1, by rw [sm.2 j c2, z3.2 j c2]; exact q2⟩
      -- back behind the turn
      have back : ∀ {st4 : Sl} {H4 : Hp}, Stp R.L σ3 st2 st4 H2 H4 → RelS K R.L R.B H4 σ3 st4 → Stp R.L σ st1 (Sl.forget tg st4) H1 H4 ∧ RelS K R.L R.B H4 σ (Sl.forget tg st4) ∧ H4 D = some (.lst us) := fun {st4 H4} s4 r4 => by
        have zz : Same σ3 σ tg := ⟨z3.1.symm.trans sm.1.symm, fun j hj => by rw [← z3.2 j hj, ← sm.2 j hj]⟩
        have c4 := forget_clear tg st4
        refine ⟨⟨fun b o q m k => s4.fr b o (s2.fr b o q m k) m fun z => k (s'.sub b (o3 b z)), s2.imm.trans s4.imm, fun b z => ?_, fun b o q => let ⟨u, q'⟩ := s2.up b o q; s4.up b u q'⟩, (r4.forget tg).same zz c4, s4.fr D _ hD2 D2 fun z => nO (o3 D z)⟩
        exact s'.sub b (o3 b (s4.sub b (owns_forget ((owns_same zz c4).mpr z))))
      refine rdT_bindG (R := R.mute) (k := fun b st3 => cond b ((ev G a st3).bind fun q => (T.opt q.1.fz.sh?).bind fun x => if acc.length < LINE then mapL (ev G a) (evq G test) tg (ds.drop (i + 1)) (acc ++ [x]) (Sl.forget tg q.2) else .bad) (mapL (ev G a) (evq G test) tg (ds.drop (i + 1)) acc (Sl.forget tg st3))) r3 h2 fun b st3 H3 s3 r4 h3 => ?_
      cases b with
      | false =>
        obtain ⟨k1, k2, k3⟩ := back s3 r4
        exact ⟨rfl, hlt, gk _ _ gd2 s3.imm, _, acc, us, k3, DFs.imm s3.imm _ _ g2, forget_clear _ _, k2, k1, h3⟩
      | true =>
        refine rdF_bindG (R := R.mute) (k := fun c st4 => (T.opt c.sh?).bind fun x => if acc.length < LINE then mapL (ev G a) (evq G test) tg (ds.drop (i + 1)) (acc ++ [x]) (Sl.forget tg st4) else .bad) r4 h3 fun c st4 w H4 s4 r5 rw' h4 => ?_
        obtain ⟨x', ex, h5⟩ := T.all_none h4
        rw [sh_some ex] at rw'
        split at h5
        · rename_i hz
          obtain ⟨k1, k2, k3⟩ := back (s3.trans s4) r5
          have nO4 : ¬ Owns σ (Sl.forget tg st4) D := fun z => D3 (k1.sub D z)
          have g4 := DFs.imm (s3.trans s4).imm _ _ g2
          obtain ⟨u1, u2⟩ := upd_new (ys := us ++ [w]) k2 nO4 D2 D1 k3
          refine ⟨us, k3, by rw [g2.length, ← line_eq]; exact hz, rfl, hlt, gk _ _ (gk _ _ gd2 (s3.trans s4).imm) u1, _, acc ++ [x'], us ++ [w], upd_same, DFs.imm u1 _ _ (g4.append (.cons rw' .nil)), forget_clear _ _, u2, ⟨fun b o q m k => ?_, fun b o q im => ?_, k1.sub, fun b o q => ?_⟩, h5⟩
          · rw [upd_ne (fun z => by subst z; rw [hD] at q; cases q)]
            exact k1.fr b o q m k
          · exact u1 b o (k1.imm b o q im) im
          · obtain ⟨u, q'⟩ := k1.up b o q
            exact up_upd q'
        · exact h5.elim
    · have ei : i = ds.length := by omega
      subst ei
      rw [List.drop_length] at hM
      unfold mapL at hM
      exact .inl ⟨(gs H' gd).1, hM (.ref D) H' s' r' ⟨D, us, rfl, hDl, gacc⟩ fun b e => by cases e; exact ⟨hD, D1, D2, fun z => D3 (s'.sub D z)⟩⟩
theorem pe_lcR (hc : X.calm = true) (hN : X.N.Nodup) (hi : PI X tgE x (RdI X.K R (evi G it))) (ok : BlkOk X.N X.env.scope scope own) (hv : ∀ i, i ∈ own.map (·.2) ↔ i ∈ tg)
    (hg : ∀ (s : Shared) (H : Hp) (C : Addr) (cl : List (Str × Addr)) (fp : List Addr), PG (X.blk s H scope (compEnvC scope cl C X.env) fp) tgE (gRd X.K R.mute tg))
    (ht : ∀ (s : Shared) (H : Hp) (C : Addr) (cl : List (Str × Addr)) (fp : List Addr), PTs (X.blk s H scope (compEnvC scope cl C X.env) fp) ifs (RdT X.K R.mute (evq G test)))
    (he : ∀ (s : Shared) (H : Hp) (C : Addr) (cl : List (Str × Addr)) (fp : List Addr), PE (X.blk s H scope (compEnvC scope cl C X.env) fp) elt (Rd X.K R.mute (ev G a))) (hs : ∀ v, foldedSetIterable x X.env v = pure v) :
    PE X (.ListComp elt [⟨tgE, x, ifs, 0⟩] scope pos) (Rd X.K R (ev G (.lc a tg it test))) :=
  PE.imp (pe_lc hc hN hi ok hg ht (fun s H C cl fp => pe_fz (X := X.blk s H scope (compEnvC scope cl C X.env) fp) (he s H C cl fp)) hs) fun σ H Q h => lc_rd hv (fun σ H Qb q => q) h
theorem ps_setLcR {i : Nat} {n : Str} {p1 spos : Pos} (hc : X.calm = true) (hN : X.N.Nodup) (hy : X.N[i]? = some n) (hyl : X.env.scope.names.lookup n = some .local)
    (hsw : swapsWith (.ListComp elt [⟨tgE, x, ifs, 0⟩] scope pos) (some (.Name n p1)) spos.line X.env = pure true)
    (hi : PI X tgE x (RdI X.K R (evi G it))) (ok : BlkOk X.N X.env.scope scope own) (hv : ∀ i, i ∈ own.map (·.2) ↔ i ∈ tg)
    (hg : ∀ (s : Shared) (H : Hp) (C : Addr) (cl : List (Str × Addr)) (fp : List Addr), PG (X.blk s H scope (compEnvC scope cl C X.env) fp) tgE (gRd X.K R.mute tg))
    (ht : ∀ (s : Shared) (H : Hp) (C : Addr) (cl : List (Str × Addr)) (fp : List Addr), PTs (X.blk s H scope (compEnvC scope cl C X.env) fp) ifs (RdT X.K R.mute (evq G test)))
    (he : ∀ (s : Shared) (H : Hp) (C : Addr) (cl : List (Str × Addr)) (fp : List Addr), PE (X.blk s H scope (compEnvC scope cl C X.env) fp) elt (Rd X.K R.mute (ev G a))) (hs : ∀ v, foldedSetIterable x X.env v = pure v) :
    PS X (.Assign [.Name n p1] (.ListComp elt [⟨tgE, x, ifs, 0⟩] scope pos) spos) (RdS X.K R (ex G (.set i (.lc a tg it test)))) :=
  PS.imp (ps_setLc hc hN hy hyl hsw hi ok hg ht (fun s H C cl fp => pe_fz (X := X.blk s H scope (compEnvC scope cl C X.env) fp) (he s H C cl fp)) hs) fun D σ H ⟨st, hr, h⟩ => by
  unfold ex at h
  refine lc_rd (a := a) hv (fun σ H Qb q => q) ?_
  refine rdS_exp hr h fun p v H1 s1 r1 rv f h1 => ?_
  refine h1 _ H1 (Imm.refl _) (set_rel r1 rv fun ds e b eb => ?_)
  rw [e] at f
  exact (f b eb).2
theorem pts_nilR : PTs X [] (RdT X.K R (evq G .none)) := ⟨fun pins s σ H Q I ⟨st, hr, h⟩ => pts_nil.run pins s σ H Q I (by
  unfold evq at h
  exact h H Stp.refl hr)⟩
theorem pts_oneR {c : Expr} {b : IE} (h : PT X c (RdT X.K R (ev G b))) : PTs X [c] (RdT X.K R (evq G (.some b))) := ⟨fun pins s σ H Q I ⟨st, hr, q⟩ => (pts_one h).run pins s σ H Q I ⟨st, hr, by
  unfold evq at q
  exact q⟩⟩
end
end Rf
set_option Elab.async false
set_option linter.all false
set_option maxRecDepth 100000
set_option maxHeartbeats 1000000
/-! Rf16: binding plain parameters. -/
namespace RfX
open PySem PySem.W PySem.Calls PyProof.Rows
/-- plain parameters: names alone -/
structure PlainPar (fd : FuncData) (ps : List Str) : Prop where
  pos : fd.params.posonlyargs = []
  args : fd.params.args.map (·.arg) = ps
  va : fd.params.vararg = none
  ko : fd.params.kwonlyargs = []
  kw : fd.params.kwarg = none
  dv : fd.defaults = .none
theorem lookup_zip {ps : List Str} : ∀ {us : List Value}, us.length = ps.length → ∀ n ∈ ps, ((ps.zip us).lookup n).isNone = false := by
  induction ps with
  | nil => intro us _ n hn; cases hn
  | cons p ps ih =>
    intro us hl n hn
    cases us with
    | nil => cases hl
    | cons u us =>
      by_cases h : n = p
      · subst h; simp
      · have h' : (n == p) = false := by simpa using h
        simp only [List.zip_cons_cons, List.lookup_cons, h']
        exact ih (by simpa using hl) n (by rcases List.mem_cons.mp hn with z | z; exact absurd z h; exact z)
theorem fm_congr {α β : Type} {f g : α → Option β} : ∀ {l : List α}, (∀ a ∈ l, f a = g a) → l.filterMap f = l.filterMap g
  | [], _ => rfl
  | a :: l, h => by
    rw [List.filterMap_cons, List.filterMap_cons, h a (by simp), fm_congr fun b hb => h b (List.mem_cons_of_mem _ hb)]
theorem zip_filterMap {ps : List Str} : ∀ {us : List Value}, ps.Nodup → us.length = ps.length → (ps.filterMap fun n => ((ps.zip us).lookup n).map fun v => (n, v)) = ps.zip us := by
  induction ps with
  | nil => intro us _ _; rfl
  | cons p ps ih =>
    intro us nd hl
    cases us with
    | nil => cases hl
    | cons u us =>
      obtain ⟨n1, n2⟩ := List.nodup_cons.mp nd
      have e : (ps.filterMap fun n => (((p :: ps).zip (u :: us)).lookup n).map fun v => (n, v)) = ps.filterMap fun n => ((ps.zip us).lookup n).map fun v => (n, v) := by
        refine fm_congr fun n hn => ?_
        have h' : (n == p) = false := by
          have : n ≠ p := fun z => n1 (z ▸ hn)
          simpa using this
        simp only [List.zip_cons_cons, List.lookup_cons, h']
      rw [List.filterMap_cons, e, ih n2 (by simpa using hl)]
      simp
theorem bind_plain {fd : FuncData} {ps : List Str} (h : PlainPar fd ps) (nd : ps.Nodup) (us : List Value) (hl : us.length = ps.length) : bindArgs fd ⟨us, []⟩ = pure (ps.zip us) := by
  have e1 : (ps.filter fun n => ((ps.zip us).lookup n).isNone) = [] := List.filter_eq_nil_iff.mpr fun n hn => by rw [lookup_zip hl n hn]; exact Bool.false_ne_true
  have e2 : seqItems? Value.none = pure none := by rfl
  have e3 : (decide (us.length > ps.length)) = false := by rw [hl]; simp
  unfold bindArgs
  simp only [h.pos, h.args, h.va, h.ko, h.kw, h.dv, List.map_nil, List.nil_append, List.append_nil, List.forIn_nil, pure_bind, e2, Option.getD_none, e3, Bool.false_and, Bool.false_eq_true, if_false, Array.toList_empty, List.drop_nil, List.length_nil, Nat.sub_zero, List.take_length, e1, List.isEmpty_nil, Bool.not_true, List.drop_length, List.zip_nil_right, zip_filterMap nd hl]
end RfX
set_option Elab.async false
set_option linter.all false
set_option maxRecDepth 100000
set_option maxHeartbeats 1000000
/-! Rf15: the package's errors: super().__init__(v), self.f = v. -/
namespace RfX
open PySem PySem.W PySem.Calls PyProof.Rows PySem.HandSPX

/-! ### the text of __init__ -/
def iA (ps : List Str) (q : List Pos) : Arguments := { posonlyargs := [], args := (ps.zip q).map fun p => { arg := p.1, annotation := none, pos := p.2 }, vararg := none, kwonlyargs := [], kw_defaults := [], kwarg := none, defaults := [] }
def iSup (as : List Expr) (p0 p1 p2 p3 p4 : Pos) : Stmt := .Expr (.Call (.Attribute (.Call (.Name "super" p0) [] [] p1) "__init__" p2) as [] p3) p4
def iSet (f : Str) (q1 q2 q3 q4 : Pos) : Stmt := .Assign [.Attribute (.Name "self" q1) f q2] (.Name f q3) q4
def iS (fs : List Str) : Scope := { kind := .function, names := (PySem.Str.ofString "self", .local) :: (fs.map fun f => (f, .local)) ++ [(PySem.Str.ofString "__class__", .free), (PySem.Str.ofString "super", .globalImplicit)], isGenerator := false, isCoroutine := false, more := [] }

/-- what the written part says of the error class at C and of its __init__, at fI, with the fields fs -/
structure OwnX (P : Program) (K : Frag) (C fI : Addr) (fs : List Str) (fd : FuncData) : Prop where
  cls : ∃ nm q N bs bm sn sub ab col dd k0 k1 k2 k3 k5, K.lookup C = some (excClassObj nm q C N bs bm true sn sub ab col dd k0 k1 k2 k3 k5 "ValueError.__new__") ∧ refsVE bm = true
  sa : findIn K (.ref C) "__setattr__" = some (some (.builtin "object.__setattr__"))
  noN : ∀ f ∈ fs, findIn K (.ref C) f = some none
  iC : findIn K (.ref C) "__init__" = some (some (.ref fI))
  tC : typeIn K (.ref fI) = some (.type "function")
  sup : ks_superIn K C C "__init__" = some (some (.builtin "ValueError.__init__"))
  ve : subIn K (.ref C) (.type "ValueError") = some true
  self : mroIn K C (.ref C) = some true
  tp : nsIn K cStatics "thirdparty.any" = some none
  fn : ∃ oc od osl, K.lookup fI = some ⟨oc, od, .func fd, osl⟩
  code : codeIn K fd.code fd.qualname = true
  glob : fd.globals = mainGlobals
  blt : fd.builtins = builtinsNs
  clo : ∃ cc cl cld csl, fd.closure = [(PySem.Str.ofString "__class__", cc)] ∧ K.lookup cc = some ⟨cl, cld, .cell (some (.ref C)), csl⟩
  file : ∃ cda ccl cdd vs ccs tf file, fd.code = .ref cda ∧ K.lookup cda = some ⟨ccl, cdd, .fields vs, ccs⟩ ∧ vs[2]? = some (.str file tf) ∧ ((P.main.file : Str) == file) = true
  top : (P.main.scope.names.lookup ("super" : Str)).isSome = false
  sc : fd.scope = iS fs
  par : PlainPar fd (PySem.Str.ofString "self" :: fs)
  nd : (PySem.Str.ofString "self" :: fs).Nodup
  ks : (iS fs).names.lookup ("super" : Str) = some .globalImplicit
  kc : (iS fs).names.lookup ("__class__" : Str) = some .free
  kf : ∀ f ∈ PySem.Str.ofString "self" :: fs, (iS fs).names.lookup f = some .local
  dbg : ∀ f ∈ fs, (f == ("__debug__" : Str)) = false

/-- the ground that a call stands on -/
structure Gr (K : Frag) (mg : Str → Option Value) (h : Heap) : Prop where
  kin : K.In h
  lim : h.NoLimit
  glob : h.Ns mainGlobals mg
  sup : mg "super" = none
  blt : ∃ mb, h.Ns builtinsNs mb ∧ mb "super" = some (.type "super")
theorem Gr.keeps {K : Frag} {mg : Str → Option Value} {h h' : Heap} (g : Gr K mg h) (k : ∀ b o, h.get? b = some o → h'.get? b = some o) : Gr K mg h' :=
  ⟨g.kin.keeps k, g.lim.keeps k, g.glob.keeps k, g.sup, let ⟨mb, e, q⟩ := g.blt; ⟨mb, e.keeps k, q⟩⟩

section
variable {prog : Program} {w : World} {A : Around} {E : Value → Shared → Prop} {R : Result → Shared → Prop} {s : Shared} {K : Frag} {mg : Str → Option Value} {C fI : Addr} {fs : List Str} {fd : FuncData}
theorem kinds (T : OwnX prog K C fI fs fd) (L : Addr) {x : Str} : (callEnv fd L fI).kindOf x = (iS fs).names.lookup x := by
  show fd.scope.names.lookup x = _
  rw [T.sc]
/-- super().__init__(vs ..) within __init__ -/
theorem sup_init (T : OwnX prog K C fI fs fd) {x t0 : Addr} {L : Addr} {m : Str → Option Value} {body : List Stmt} {p0 p1 p2 p3 p4 : Pos} {as : List Expr} {ar : Arg} {Q : Flow → Shared → Prop} {vs : List Value} {pl : Sem Bool} (G : Gr K mg s.heap) (hx : s.heap.get? x = some (excO C t0)) (hxL : x ≠ L) (hn : s.heap.Ns L m) (hself : m "self" = some (.ref x))
    (har : (fd.params.posonlyargs ++ fd.params.args).head? = some ar) (hark : ar.arg = "self") (hlen : vs.length ≤ sizeLine)
    (hks : (iS fs).names.lookup ("super" : Str) = some .globalImplicit) (hkc : (iS fs).names.lookup ("__class__" : Str) = some .free) (hkf : (iS fs).names.lookup ("self" : Str) = some .local)
    (he : eval (.Call (.Attribute (.Call (.Name "super" p0) [] [] p1) "__init__" p2) as [] p3) (callEnv fd L fI) = (do
      let ov ← attributeBase (.Call (.Name "super" p0) [] [] p1) "__init__" (callEnv fd L fI) (eval (.Call (.Name "super" p0) [] [] p1) (callEnv fd L fI))
      standAt p2.atName
      let (f, first) ← holding [ov] (getMethod ov "__init__" pl)
      callWith p3 f first (backTo p3 (starEach as (callEnv fd L fI))) []))
    (hw : swapsWith (.Call (.Attribute (.Call (.Name "super" p0) [] [] p1) "__init__" p2) as [] p3) none p4.line (callEnv fd L fI) = pure false)
    (hplain : (backTo p3 (starEach as (callEnv fd L fI))).any (·.1) = false)
    (hvs : ∀ (s' : Shared) (Q' : Args → Shared → Prop) (u : Value), s'.heap.Ns L m → Q' ⟨vs, []⟩ s' → wpAny (model prog w) A (evalArgs u true (backTo p3 (starEach as (callEnv fd L fI))) []) Q' E s')
    (hq : ∀ h' t1 tk, (∀ b o, b ≠ x → s.heap.get? b = some o → h'.get? b = some o) → h'.get? x = some (excO C t1) → Q .next { s with heap := h', toks := tk }) :
    _root_.PySem.wpAt (model prog w) A (.func body (callEnv fd L fI)) (exec (iSup as p0 p1 p2 p3 p4) (callEnv fd L fI)) Q E s := by
  obtain ⟨cc, cl, cld, csl, eclo, hcell⟩ := T.clo
  obtain ⟨cda, ccl, cdd, vs', ccs, tf, file, ecode, hcode, hvs', hfile⟩ := T.file
  obtain ⟨oc, od, osl, hfn⟩ := T.fn
  obtain ⟨nm, qn, N, bs, bm, sn, sub, ab, col, dd, k0, k1, k2, k3, k5, hC, hbm⟩ := T.cls
  obtain ⟨hh, g, d, t, os⟩ := s
  have X : K.In hh := G.kin
  have hk : (callEnv fd L fI).scope.kind = .function := by show fd.scope.kind = _; rw [T.sc]; rfl
  have ks : (callEnv fd L fI).kindOf "super" = some .globalImplicit := (kinds T L).trans hks
  have kc : (callEnv fd L fI).kindOf "__class__" = some .free := (kinds T L).trans hkc
  have kself : (callEnv fd L fI).kindOf ar.arg = some .local := by rw [hark]; exact (kinds T L).trans hkf
  obtain ⟨mb, hmb, hsb⟩ := G.blt
  refine ks_wpAt_Expr_any (ks_wpAt_MethodCall (ks_wpAt_super_base ks kc (by rfl) rfl (X _ _ hfn) rfl har ecode (X _ _ hcode) rfl hvs' hfile T.top ?_) he) ?_ hw
  · refine ks_loadName_global hk ks (loadGlobal_builtin (mg := mg) (mb := mb) (by show Heap.Ns _ fd.globals _; rw [T.glob]; exact G.glob) G.sup (by show Heap.Ns _ fd.builtins _; rw [T.blt]; exact hmb) hsb ⟨rfl, ?_⟩)
    refine wpAny_loadName_free hk kc (by show List.lookup _ fd.closure = _; rw [eclo]; rfl) ⟨_, X _ _ hcell, rfl⟩ ?_
    refine wpAny_loadName_local hk kself hn (by rw [hark]; exact hself) ?_
    refine ks_wpAny_isType_cls (X _ _ hC) rfl ⟨rfl, ?_⟩
    have I : InstAt hh x (excO C t0) C none := ⟨hx, rfl, rfl, trivial⟩
    refine ks_wpAny_call_super (X _ _ hC) rfl hx rfl (fun c e => by cases e) (looks_mroIn X T.self) (fun h1 e1 k1 => ?_)
    have X1 := X.keeps k1
    have hI : Looks (model prog w) h1 (isInstance (.ref x) (.type "ValueError")) true := (InstAt.type (C := C) (od := none) ⟨k1 _ _ hx, rfl, rfl, trivial⟩).andThen (looks_subIn X1 T.ve)
    have hm := T.sup
    cases hc : clsIn K C with
    | none => unfold ks_superIn at hm; rw [hc] at hm; cases hm
    | some cd =>
      unfold ks_superIn at hm
      rw [hc] at hm
      refine kxs_getMethod kxs_ValueError e1 (looks_opaque X1 T.tp) (l₀ := cd.mro) (fun A Q E s k q => wpAny_bind ((looks_clsIn X1 hc) A _ E s k (wpAny_pure q))) rfl X1 hm hI (ks_ne X I hc) (by rfl) ?_
      have e2 : (h1.push (kxs_mw "ValueError.__init__" x)).get? h1.objs.size = some (kxs_mw "ValueError.__init__" x) := Heap.get?_push_size _ rfl
      have k2 : ∀ b o, hh.get? b = some o → (h1.push (kxs_mw "ValueError.__init__" x)).get? b = some o := fun b o e => Heap.get?_push_of_some _ (k1 b o e)
      refine kxs_callWith (i := "ValueError.__init__") (x := x) hplain (hvs _ _ _ ?_ ⟨e2, ?_⟩)
      · obtain ⟨oL, es, ep, hL, r⟩ := hn
        exact ⟨oL, es, ep, k2 _ _ hL, r⟩
      · refine wpAny_call (codeAny_of_tree ?_)
        show wpAny _ A.in1 (callAny (.ref h1.objs.size) ⟨vs, []⟩) _ _ _
        simp only [callAny]
        refine wpAny_bind (wpAny_load e2 ?_)
        simp only [kxs_mw, show (Value.type "method-wrapper" == Value.type "method" || Value.type "method-wrapper" == Value.type "builtin_function_or_method" || Value.type "method-wrapper" == Value.type "method-wrapper") = true by decide, if_true]
        refine KFB.if_so (by decide) ?_
        refine wpAny_bind (check_bound_init F.excBase_ValueError.toExcCallFacts (k2 _ _ (X _ _ hC)) (k2 _ _ hx) rfl ?_)
        refine wpAny_bind (wpAny_pure (wpAny_pure ?_))
        refine ⟨plainId_quiet F.excBase_ValueError.init.plain _, codeAny_builtin F.excBase_ValueError.initEntry ?_⟩
        refine exc_init_tree (cls := .ref C) (t0 := t0) (dv := none) (c2 := .none) (c3 := .none) (b4 := .bool false) (k2 _ _ hx) hlen (fun h' k3 e3 e4 => ?_)
        exact hq h' _ _ (fun b o hb e => k3 b o hb (k2 b o e)) e3
  · show interactive (callEnv fd L fI) = false
    unfold interactive
    simp [hk]
/-- what __init__ leaves of a fresh exception at x -/
structure InitEnd (h h' : Heap) (x C dx t1 : Addr) (m : Str → Option Value) : Prop where
  keep : ∀ b o, b ≠ x → h.get? b = some o → h'.get? b = some o
  obj : h'.get? x = some { cls := .ref C, dict := some dx, data := .fields #[.ref t1, .none, .none, .none, .bool false, .none] }
  dbig : h.objs.size ≤ dx
  dne : dx ≠ x
  ns : h'.Ns1 dx m
theorem iS_kind : (iS fs).kind = .function := rfl
theorem nocell (T : OwnX prog K C fI fs fd) : ∀ y ∈ fd.scope.names, y.2 ≠ .cell := by
  rw [T.sc]
  intro y hy
  unfold iS at hy
  simp only [List.cons_append, List.mem_cons, List.mem_append, List.mem_map, List.not_mem_nil, or_false] at hy
  rcases hy with rfl | ⟨f, _, rfl⟩ | rfl | rfl <;> (intro z; cases z)
theorem eval_super {env : Env} {p0 p1 p2 p3 : Pos} {as : List Expr} (hline : (p2.endLine == p3.line) = true) (hfew : methodCallForm (as.length + 0) (backTo p3 (starEach as env)) [] = true) :
    eval (.Call (.Attribute (.Call (.Name "super" p0) [] [] p1) "__init__" p2) as [] p3) env = (do
      let ov ← attributeBase (.Call (.Name "super" p0) [] [] p1) "__init__" env (eval (.Call (.Name "super" p0) [] [] p1) env)
      standAt p2.atName
      let (f, first) ← holding [ov] (getMethod ov "__init__" (do return (← importBound (.Call (.Name "super" p0) [] [] p1) env).getD true))
      callWith p3 f first (backTo p3 (starEach as env)) []) := by
  have e : methodCallPos true (.Call (.Name "super" p0) [] [] p1) env p2 p3 = pure p3 := by
    unfold methodCallPos
    rw [hline]
    rfl
  show (do
    let ov ← attributeBase (.Call (.Name "super" p0) [] [] p1) "__init__" env (eval (.Call (.Name "super" p0) [] [] p1) env)
    standAt p2.atName
    methodCall (.Call (.Name "super" p0) [] [] p1) "__init__" p2 p3 env ov (as.length + 0) (backTo p3 (starEach as env)) []) = _
  unfold methodCall calleeOf
  rw [hfew]
  simp only [e, if_true, pure_bind]
theorem own_init1 {f : Str} (T : OwnX prog K C fI [f] fd) {p0 p1 p2 p3 p4 p5 q1 q2 q3 q4 : Pos} (hb : fd.body = .stmts [iSup [.Name f p5] p0 p1 p2 p3 p4, iSet f q1 q2 q3 q4]) (hline : (p2.endLine == p3.line) = true) {x t0 : Addr} {v : Value} (G : Gr K mg s.heap) (hx : s.heap.get? x = some (excO C t0)) (hnx : K.lookup x = none) (hroom : A.depth < recursionLimit)
    (hq : ∀ h' tk dx t1, InitEnd s.heap h' x C dx t1 (fun y => if y = f then some v else none) → R (.ok (.ret .none)) { s with heap := h', toks := tk }) :
    codeAny (model prog w) A (.call (.ref fI) ⟨[.ref x, v], []⟩) R s := by
  obtain ⟨oc, od, osl, hfn⟩ := T.fn
  obtain ⟨nm, qn, N, bs, bm, sn, sub, ab, col, dd, k0, k1, k2, k3, k5, hC, hbm⟩ := T.cls
  have hcl : clsIn K C = some { name := nm, bases := bs, mro := .ref C :: bm, ns := N, qualname := qn, hasDict := true, slotNames := sn, subclasses := sub, abstract := ab, collection := col, hasDel := false } := by unfold clsIn; rw [hC] <;> rfl
  have hself := T.kf _ (List.mem_cons_self ..)
  have hf := T.kf f (List.mem_cons_of_mem _ (List.mem_singleton.mpr rfl))
  have hfs : f ≠ ("self" : Str) := fun z => by
    have := (List.nodup_cons.mp T.nd).1
    exact this (by rw [z]; exact List.mem_singleton.mpr rfl)
  have hkind : fd.scope.kind = .function := by rw [T.sc]; rfl
  refine ks_codeAny_call_defAt (fd := fd) (binds := [("self", .ref x), (f, v)]) hroom (G.kin _ _ hfn) rfl G.lim (codeRec_of G.kin T.code) hb (BindsTo.of_eq (bind_plain T.par T.nd [.ref x, v] rfl)) (nocell T) (fun y hy => ?_) (fun h₁ hn k => ?_) (by rw [T.sc]; rfl) (by rw [T.sc]; rfl) hkind
  · rw [T.sc]
    simp only [List.mem_cons, List.not_mem_nil, or_false] at hy
    rcases hy with rfl | rfl
    · exact hself
    · exact hf
  · have hxL : x ≠ s.heap.objs.size := Nat.ne_of_lt (Heap.lt_size hx)
    have hms : (fun y => List.lookup y ([(("self" : Str), Value.ref x), (f, v)] : List (Str × Value)).reverse) ("self" : Str) = some (.ref x) := by
      have : (("self" : Str) == f) = false := by simpa using Ne.symm hfs
      simp [List.lookup, this]
    have hmf : (fun y => List.lookup y ([(("self" : Str), Value.ref x), (f, v)] : List (Str × Value)).reverse) f = some v := by simp [List.lookup]
    have hpar : (fd.params.posonlyargs ++ fd.params.args).map (·.arg) = [PySem.Str.ofString "self", f] := by rw [T.par.pos]; exact T.par.args
    obtain ⟨ar, har, hark⟩ : ∃ ar, (fd.params.posonlyargs ++ fd.params.args).head? = some ar ∧ ar.arg = PySem.Str.ofString "self" := by
      cases hl : fd.params.posonlyargs ++ fd.params.args with
      | nil => rw [hl] at hpar; cases hpar
      | cons a r => rw [hl] at hpar; exact ⟨a, rfl, (List.cons.inj hpar).1⟩
    refine ks_wpAt_execs_cons (sup_init T (G := G.keeps k) (k _ _ hx) hxL hn hms har hark (by show 1 ≤ sizeLine; rw [sizeLine_eq]; omega) T.ks T.kc hself (eval_super hline (by rfl)) (by rfl) (by rfl) (vs := [v]) (fun s' Q' u hn' h' => ?_) (fun h2 t1 tk2 k2 e2 => ?_))
    · refine evalArgs_plain (Calls.spliced_cons (ldc hkind ((kinds T _).trans hf) hn' hmf ?_ (T.dbg f (List.mem_singleton.mpr rfl))))
      exact Calls.spliced_nil h'
    · have X1 : K.In h₁ := G.kin.keeps k
      have X2 : K.In h2 := fun b o e => k2 b o (fun z => by rw [z, hnx] at e; cases e) (X1 b o e)
      have hn2 : h2.Ns s.heap.objs.size _ := let ⟨oL, es, ep, hL, r⟩ := hn; ⟨oL, es, ep, k2 _ _ (Ne.symm hxL) hL, r⟩
      have z : s.heap.objs.size < h₁.objs.size := hn.lt
      show _root_.PySem.wpAt _ _ _ (execs [iSet f q1 q2 q3 q4] _) _ _ _
      refine wpAt_of_wpAny (wpAny_execs_cons (plainObj_wpAny_Assign_Attribute ?_ (by rfl)))
      refine ldc hkind ((kinds T _).trans hf) hn2 hmf (ldc hkind ((kinds T _).trans hself) hn2 hms ?_) (T.dbg f (List.mem_singleton.mpr rfl))
      refine set_plain X2 (ox := excO C t1) (od := none) ⟨e2, rfl, rfl, trivial⟩ T.sa ?_
      refine exc_osa X2 e2 hcl (show refsVE (.ref C :: bm) = true from hbm) rfl (T.noN f (List.mem_singleton.mpr rfl)) (fun h₃ tk₃ dx k₃ dn dne hx₃ hn₃ => ?_)
      show wpAny _ _ (execs _ _) _ _ _
      have z2 : s.heap.objs.size < h2.objs.size := let ⟨oL, es, ep, hL, r⟩ := hn2; Heap.lt_size hL
      exact wpAny_execs_nil (hq h₃ tk₃ dx t1 ⟨fun b o hb e => k₃ b o hb (k2 b o hb (k b o e)), hx₃, Nat.le_of_lt (Nat.lt_of_lt_of_le z2 dn), dne, hn₃⟩)
theorem osa_old {hp : Heap} {g : Array GenState} {d : Drawn} {t : Nat} {os : OsState} {name : Str} {tk : Tok} {v : Value} {x dx : Addr} {fv : Array Value} {cd : ClassData} {m0 : Str → Option Value} {nl : List Str}
    (X : K.In hp) (hx : hp.get? x = some { cls := .ref C, dict := some dx, data := .fields fv }) (hns : hp.Ns1 dx m0) (hw : Within m0 nl) (hz : nl.length ≤ 1000) (hcd : W.clsIn K C = some cd) (hm : refsVE cd.mro = true) (hh : cd.hasDict = true)
    (ha : W.findIn K (.ref C) name = some none)
    (hq : ∀ h' tk', (∀ b o, b ≠ dx → hp.get? b = some o → h'.get? b = some o) → h'.Ns1 dx (fun y => if y = name then some v else m0 y) → R (.ok (.ret .none)) ⟨h', g, d, tk', os⟩) :
    codeAny (model prog w) A (.call (.builtin "object.__setattr__") ⟨[.ref x, .str name tk, v], []⟩) R ⟨hp, g, d, t, os⟩ := by
  obtain ⟨oD, esD, epD, hoD, hdD, _⟩ := hns.count hw
  have I : W.InstAt hp x { cls := .ref C, dict := some dx, data := .fields fv } C (some oD) := ⟨hx, rfl, rfl, hoD⟩
  have SF := F.store_object
  have ne := refsVE_ne hm
  have hob : cd.mro.contains (.type "object") = true := (refsVE_contains "object" _ hm).trans (by decide +kernel)
  have sub : W.Looks (model prog w) hp (isInstance (.ref x) (.type "object")) true := I.type.andThen (W.looks_mroIn X (by unfold W.mroIn; rw [hcd, Option.bind_some, if_neg (by rw [ne]; decide), hob]))
  refine codeAny_call_builtin SF.slot.plain SF.entry (@W.check_slot (model prog w) _ _ ⟨hp, g, d, t, os⟩ "object.__setattr__" "object" "__setattr__" (.ref x) [.str name tk, v] [] _ SF.kind SF.split sub (SF.args (.ref x) (.str name tk) v) ?_)
  have hmr : W.Looks (model prog w) hp (mroOf (.ref C)) cd.mro := (W.looks_clsIn X hcd).andThen .now
  have L3 : W.Looks (model prog w) hp (Builtin.ObjectAttr.storeTaker? none) none := .now
  have hcls : W.Looks (model prog w) hp (classData C) cd := W.looks_clsIn X hcd
  rw [W.osa_eq, refuse_eq]
  refine wpAny_bind (wpAny_bind (I.type.at (wpAny_bind (hmr.at ?_))))
  rw [refsVE_pass _ _ hm]
  refine wpAny_pure (wpAny_bind (I.type.at (wpAny_bind ((W.looks_findIn X ha).at (wpAny_bind (L3.at ?_))))))
  show wpAny _ _ (Builtin.ObjectAttr.storeInOwnDict (.ref x) (.ref C) (.str name tk) name v false) _ _ _
  obtain ⟨nm, bs, mro, ns, qn, hd, sn, sb, ab, col, del⟩ := cd
  dsimp only at hh
  subst hh
  unfold Builtin.ObjectAttr.storeInOwnDict Builtin.ObjectAttr.ownDictForStores
  repeat (first | with_reducible refine ESX.store_in_old hns hw hz ?_ | with_reducible refine wpAny_loadPart_at hx ?_ | with_reducible refine hcls.at ?_ | wp_step)
  intro h' tk' hn' hs
  exact hq h' tk' (fun b o hb ho => (hs.2 b hb).trans ho) hn'
theorem own_init2 {f f2 : Str} (T : OwnX prog K C fI [f, f2] fd) {p0 p1 p2 p3 p4 p5 p6 q1 q2 q3 q4 r1 r2 r3 r4 : Pos} (hb : fd.body = .stmts [iSup [.Name f p5, .Name f2 p6] p0 p1 p2 p3 p4, iSet f q1 q2 q3 q4, iSet f2 r1 r2 r3 r4]) (hline : (p2.endLine == p3.line) = true) {x t0 : Addr} {v u : Value} (G : Gr K mg s.heap) (hx : s.heap.get? x = some (excO C t0)) (hnx : K.lookup x = none) (hroom : A.depth < recursionLimit)
    (hq : ∀ h' tk dx t1, InitEnd s.heap h' x C dx t1 (fun y => if y = f2 then some u else if y = f then some v else none) → R (.ok (.ret .none)) { s with heap := h', toks := tk }) :
    codeAny (model prog w) A (.call (.ref fI) ⟨[.ref x, v, u], []⟩) R s := by
  obtain ⟨oc, od, osl, hfn⟩ := T.fn
  obtain ⟨nm, qn, N, bs, bm, sn, sub, ab, col, dd, k0, k1, k2, k3, k5, hC, hbm⟩ := T.cls
  have hcl : clsIn K C = some { name := nm, bases := bs, mro := .ref C :: bm, ns := N, qualname := qn, hasDict := true, slotNames := sn, subclasses := sub, abstract := ab, collection := col, hasDel := false } := by unfold clsIn; rw [hC] <;> rfl
  have m1 : f ∈ [f, f2] := List.mem_cons_self ..
  have m2 : f2 ∈ [f, f2] := List.mem_cons_of_mem _ (List.mem_singleton.mpr rfl)
  have hself := T.kf _ (List.mem_cons_self ..)
  have hf := T.kf f (List.mem_cons_of_mem _ m1)
  have hf2 := T.kf f2 (List.mem_cons_of_mem _ m2)
  obtain ⟨d1, d2⟩ := List.nodup_cons.mp T.nd
  have hfs : f ≠ ("self" : Str) := fun z => d1 (by rw [← show f = PySem.Str.ofString "self" from z]; exact m1)
  have hfs2 : f2 ≠ ("self" : Str) := fun z => d1 (by rw [← show f2 = PySem.Str.ofString "self" from z]; exact m2)
  have hff : f ≠ f2 := fun z => (List.nodup_cons.mp d2).1 (by rw [z]; exact List.mem_singleton.mpr rfl)
  have hkind : fd.scope.kind = .function := by rw [T.sc]; rfl
  refine ks_codeAny_call_defAt (fd := fd) (binds := [("self", .ref x), (f, v), (f2, u)]) hroom (G.kin _ _ hfn) rfl G.lim (codeRec_of G.kin T.code) hb (BindsTo.of_eq (bind_plain T.par T.nd [.ref x, v, u] rfl)) (nocell T) (fun y hy => ?_) (fun h₁ hn k => ?_) (by rw [T.sc]; rfl) (by rw [T.sc]; rfl) hkind
  · rw [T.sc]
    simp only [List.mem_cons, List.not_mem_nil, or_false] at hy
    rcases hy with rfl | rfl | rfl
    · exact hself
    · exact hf
    · exact hf2
  · have hxL : x ≠ s.heap.objs.size := Nat.ne_of_lt (Heap.lt_size hx)
    have n1 : (("self" : Str) == f) = false := by simpa using Ne.symm hfs
    have n2 : (("self" : Str) == f2) = false := by simpa using Ne.symm hfs2
    have n3 : (f == f2) = false := by simpa using hff
    have hms : (fun y => List.lookup y ([(("self" : Str), Value.ref x), (f, v), (f2, u)] : List (Str × Value)).reverse) ("self" : Str) = some (.ref x) := by simp [List.lookup, n1, n2]
    have hmf : (fun y => List.lookup y ([(("self" : Str), Value.ref x), (f, v), (f2, u)] : List (Str × Value)).reverse) f = some v := by simp [List.lookup, n3]
    have hmf2 : (fun y => List.lookup y ([(("self" : Str), Value.ref x), (f, v), (f2, u)] : List (Str × Value)).reverse) f2 = some u := by simp [List.lookup]
    have hpar : (fd.params.posonlyargs ++ fd.params.args).map (·.arg) = [PySem.Str.ofString "self", f, f2] := by rw [T.par.pos]; exact T.par.args
    obtain ⟨ar, har, hark⟩ : ∃ ar, (fd.params.posonlyargs ++ fd.params.args).head? = some ar ∧ ar.arg = PySem.Str.ofString "self" := by
      cases hl : fd.params.posonlyargs ++ fd.params.args with
      | nil => rw [hl] at hpar; cases hpar
      | cons a r => rw [hl] at hpar; exact ⟨a, rfl, (List.cons.inj hpar).1⟩
    refine ks_wpAt_execs_cons (sup_init T (G := G.keeps k) (k _ _ hx) hxL hn hms har hark (by show 2 ≤ sizeLine; rw [sizeLine_eq]; omega) T.ks T.kc hself (eval_super hline (by rfl)) (by rfl) (by rfl) (vs := [v, u]) (fun s' Q' u' hn' h' => ?_) (fun h2 t1 tk2 k2 e2 => ?_))
    · refine evalArgs_plain (Calls.spliced_cons (ldc hkind ((kinds T _).trans hf) hn' hmf ?_ (T.dbg f m1)))
      exact Calls.spliced_cons (ldc hkind ((kinds T _).trans hf2) hn' hmf2 (Calls.spliced_nil h') (T.dbg f2 m2))
    · have X1 : K.In h₁ := G.kin.keeps k
      have X2 : K.In h2 := fun b o e => k2 b o (fun z => by rw [z, hnx] at e; cases e) (X1 b o e)
      have hn2 : h2.Ns s.heap.objs.size _ := let ⟨oL, es, ep, hL, r⟩ := hn; ⟨oL, es, ep, k2 _ _ (Ne.symm hxL) hL, r⟩
      show _root_.PySem.wpAt _ _ _ (execs [iSet f q1 q2 q3 q4, iSet f2 r1 r2 r3 r4] _) _ _ _
      refine wpAt_of_wpAny (wpAny_execs_cons (plainObj_wpAny_Assign_Attribute ?_ (by rfl)))
      refine ldc hkind ((kinds T _).trans hf) hn2 hmf (ldc hkind ((kinds T _).trans hself) hn2 hms ?_) (T.dbg f m1)
      refine set_plain X2 (ox := excO C t1) (od := none) ⟨e2, rfl, rfl, trivial⟩ T.sa ?_
      refine exc_osa X2 e2 hcl (show refsVE (.ref C :: bm) = true from hbm) rfl (T.noN f m1) (fun h₃ tk₃ dx k₃ dn dne hx₃ hn₃ => ?_)
      show wpAny _ _ (execs [iSet f2 r1 r2 r3 r4] _) _ _ _
      have z2 : s.heap.objs.size < h2.objs.size := let ⟨oL, es, ep, hL, r⟩ := hn2; Heap.lt_size hL
      have X3 : K.In h₃ := fun b o e => k₃ b o (fun z => by rw [z, hnx] at e; cases e) (X2 b o e)
      have hn3 : h₃.Ns s.heap.objs.size _ := let ⟨oL, es, ep, hL, r⟩ := hn2; ⟨oL, es, ep, k₃ _ _ (Ne.symm hxL) hL, r⟩
      refine wpAny_execs_cons (plainObj_wpAny_Assign_Attribute ?_ (by rfl))
      refine ldc hkind ((kinds T _).trans hf2) hn3 hmf2 (ldc hkind ((kinds T _).trans hself) hn3 hms ?_) (T.dbg f2 m2)
      obtain ⟨oD, esD, epD, hoD, _⟩ := hn₃.count (Within.cons f v Within.nil)
      refine set_plain X3 (od := some oD) ⟨hx₃, rfl, rfl, hoD⟩ T.sa ?_
      refine osa_old X3 hx₃ hn₃ (Within.cons f v Within.nil) (by simp) hcl (show refsVE (.ref C :: bm) = true from hbm) rfl (T.noN f2 m2) (fun h₄ tk₄ k₄ hn₄ => ?_)
      show wpAny _ _ (execs [] _) _ _ _
      refine wpAny_execs_nil (hq h₄ tk₄ dx t1 ⟨fun b o hb e => k₄ b o (fun z => ?_) (k₃ b o hb (k2 b o hb (k b o e))), k₄ _ _ (Ne.symm dne) hx₃, Nat.le_of_lt (Nat.lt_of_lt_of_le z2 dn), dne, hn₄⟩)
      rw [z] at e
      exact absurd (Nat.lt_of_lt_of_le (Nat.lt_trans (Heap.lt_size e) z2) dn) (Nat.lt_irrefl _)
/-- the body of __init__ -/
inductive BodyX (fd : FuncData) : List Str → Prop
  | one {f : Str} {p0 p1 p2 p3 p4 p5 q1 q2 q3 q4 : Pos} (hb : fd.body = .stmts [iSup [.Name f p5] p0 p1 p2 p3 p4, iSet f q1 q2 q3 q4]) (hline : (p2.endLine == p3.line) = true) : BodyX fd [f]
  | two {f f2 : Str} {p0 p1 p2 p3 p4 p5 p6 q1 q2 q3 q4 r1 r2 r3 r4 : Pos} (hb : fd.body = .stmts [iSup [.Name f p5, .Name f2 p6] p0 p1 p2 p3 p4, iSet f q1 q2 q3 q4, iSet f2 r1 r2 r3 r4]) (hline : (p2.endLine == p3.line) = true) : BodyX fd [f, f2]
/-- the own dict of a made error -/
def nsX : List Str → List Value → Str → Option Value
  | f :: fs, v :: vs => fun y => (nsX fs vs y).or (if y = f then some v else none)
  | _, _ => fun _ => none
theorem own_init (T : OwnX prog K C fI fs fd) (b : BodyX fd fs) {x t0 : Addr} {vs : List Value} (hl : vs.length = fs.length) (G : Gr K mg s.heap) (hx : s.heap.get? x = some (excO C t0)) (hnx : K.lookup x = none) (hroom : A.depth < recursionLimit)
    (hq : ∀ h' tk dx t1, InitEnd s.heap h' x C dx t1 (nsX fs vs) → R (.ok (.ret .none)) { s with heap := h', toks := tk }) :
    codeAny (model prog w) A (.call (.ref fI) ⟨.ref x :: vs, []⟩) R s := by
  cases b with
  | one hb hline =>
    match vs, hl with
    | [v], _ =>
      refine own_init1 T hb hline G hx hnx hroom fun h' tk dx t1 e => hq h' tk dx t1 ⟨e.keep, e.obj, e.dbig, e.dne, ?_⟩
      have := e.ns
      exact this
  | two hb hline =>
    match vs, hl with
    | [v, u], _ =>
      refine own_init2 T hb hline G hx hnx hroom fun h' tk dx t1 e => hq h' tk dx t1 ⟨e.keep, e.obj, e.dbig, e.dne, ?_⟩
      have := e.ns
      refine cast (congrArg _ (funext fun y => ?_)) this
      simp only [nsX, Option.none_or]
      split
      · rfl
      · rfl
/-- a made error -/
structure OwnMade (h h' : Heap) (e C d : Addr) (m : Str → Option Value) : Prop where
  keep : ∀ b o, h.get? b = some o → h'.get? b = some o
  new : h.objs.size ≤ e
  obj : ∃ oe vs, h'.get? e = some oe ∧ oe.cls = .ref C ∧ oe.dict = some d ∧ oe.data = .fields vs ∧ vs[1]? = some .none
  dbig : h.objs.size ≤ d
  dne : d ≠ e
  ns : h'.Ns1 d m
theorem own_made (T : OwnX prog K C fI fs fd) (b : BodyX fd fs) {vs : List Value} (hl : vs.length = fs.length) (hz : vs.length ≤ sizeLine) (G : Gr K mg s.heap) (hroom : A.depth + 1 < recursionLimit)
    (hq : ∀ h' tk e d, OwnMade s.heap h' e C d (nsX fs vs) → R (.ok (.ret (.ref e))) { s with heap := h', toks := tk }) :
    codeAny (model prog w) A (.call (.ref C) ⟨vs, []⟩) R s := by
  obtain ⟨nm, q, N, bs, bm, sn, sub, ab, col, dd, k0, k1, k2, k3, k5, hC, hbm⟩ := T.cls
  obtain ⟨hp, g, dr, tk, os⟩ := s
  have X : K.In hp := G.kin
  have k : ∀ b o, hp.get? b = some o → ((hp.push (kdv_tup vs)).push (excO C hp.objs.size)).get? b = some o := fun b o e => Heap.get?_push_of_some _ (Heap.get?_push_of_some _ e)
  have hget : ((hp.push (kdv_tup vs)).push (excO C hp.objs.size)).get? (hp.objs.size + 1) = some (excO C hp.objs.size) := by heap_get
  have hnx : K.lookup (hp.objs.size + 1) = none := by
    cases e : K.lookup (hp.objs.size + 1) with
    | none => rfl
    | some o =>
      have z : hp.get? (hp.objs.size + 1) = some o := X _ _ e
      exact absurd (Nat.lt_of_succ_lt (Heap.lt_size z)) (Nat.lt_irrefl _)
  refine call_own F.excBase_ValueError (fun X => refsVE_contains X bm hbm) (X _ _ hC) (looks_findIn X T.iC) (fun self => bind_fn X self T.tC) hz ?_
  refine own_init (s := ⟨(hp.push (kdv_tup vs)).push (excO C hp.objs.size), g, dr, tk, os⟩) T b hl (G.keeps k) hget hnx ?_ fun h' tk' dx t1 ⟨k', hx, dn, dne, hns⟩ => ?_
  · show A.depth + 1 < recursionLimit
    exact hroom
  · have old : ∀ b o, hp.get? b = some o → h'.get? b = some o := fun b o e => k' b o (Nat.ne_of_lt (Nat.lt_succ_of_lt (Heap.lt_size e))) (k b o e)
    have z : hp.objs.size + 1 + 1 ≤ dx := by
      first
        | (simpa only [Heap.size_push] using dn)
        | exact dn
        | (have q := dn; rw [Heap.size_push, Heap.size_push] at q; exact q)
    exact ⟨rfl, hq h' tk' (hp.objs.size + 1) dx ⟨old, Nat.le_succ _, ⟨_, _, hx, rfl, rfl, rfl, rfl⟩, Nat.le_trans (Nat.le_trans (Nat.le_succ _) (Nat.le_succ _)) z, dne, hns⟩⟩
end
end RfX
namespace Rf
open PySem PySem.Spec PyProof.Rows
open L2 hiding St
theorem lookup_none {α : Type} : ∀ {fs : List Str} {vs : List α} {y : Str}, y ∉ fs → (fs.zip vs).lookup y = none
  | [], _, _, _ => rfl
  | _ :: _, [], _, _ => rfl
  | f :: fs, v :: vs, y, h => by
    have h1 : (y == f) = false := by
      have : y ≠ f := fun z => h (by rw [z]; exact List.mem_cons_self ..)
      simpa using this
    rw [List.zip_cons_cons, List.lookup_cons, h1]
    exact lookup_none fun z => h (List.mem_cons_of_mem _ z)
theorem nsX_none : ∀ {fs : List Str} {vs : List Value} {y : Str}, y ∉ fs → RfX.nsX fs vs y = none
  | [], _, _, _ => rfl
  | _ :: _, [], _, _ => rfl
  | f :: fs, v :: vs, y, h => by
    unfold RfX.nsX
    rw [nsX_none fun z => h (List.mem_cons_of_mem _ z), if_neg fun z => h (by rw [z]; exact List.mem_cons_self ..)]
    rfl
theorem relO_x : ∀ {fs : List Str} {vs : List V} {us : List Value}, fs.Nodup → Vals vs us → vs.length = fs.length → ∀ y, RelO ((fs.zip vs).lookup y) (RfX.nsX fs us y)
  | [], _, _, _, _, _, _ => trivial
  | f :: fs, [], _, _, _, hl, _ => by cases hl
  | f :: fs, v :: vs, _, nd, .cons r rs, hl, y => by
    obtain ⟨n1, n2⟩ := List.nodup_cons.mp nd
    unfold RfX.nsX
    by_cases hy : y = f
    · subst hy
      rw [nsX_none n1, if_pos rfl]
      simp only [List.zip_cons_cons, List.lookup_cons, beq_self_eq_true]
      exact r
    · have h' : (y == f) = false := by simpa using hy
      rw [if_neg hy]
      simp only [List.zip_cons_cons, List.lookup_cons, h', Option.or_none]
      exact relO_x n2 rs (by simpa using hl) y
section
variable {X : Cx} {R : Rc} {G : Env}
/-- the error class number x stands in the module so -/
structure XIok (X : Cx) (xi : XI) (x : Nat) (n : Str) : Prop where
  gC : X.mg n = some (.ref (xi.cls x))
  kC : PySem.W.keepIn X.K (.ref (xi.cls x)) = true
  exC : PySem.W.subIn X.K (.ref (xi.cls x)) (.type "BaseException") = some true
  tyC : PySem.W.typeIn X.K (.ref (xi.cls x)) = some (.type "type")
  sup : X.mg "super" = none
  ini : ∃ fI fd, RfX.OwnX X.prog X.K (xi.cls x) fI (xi.fld x) fd ∧ RfX.BodyX fd (xi.fld x)
theorem inv_gr {pins : List (Addr × Obj)} {σ : Sg} {H : Hp} {s : Shared} (I : Inv X pins σ H s) (hs : X.mg "super" = none) : RfX.Gr X.K X.mg s.heap := by
  obtain ⟨mb, h1, h2⟩ := I.mod.blt
  exact ⟨I.kIn, I.nolimit, I.mod.glob.keeps I.bk, hs, mb, h1.keeps I.bk, (h2 _ (by decide)).trans (by decide +kernel)⟩
theorem pmk_own {x : Nat} {n : Str} {a : Expr} {es : List Expr} {as : IEs} {p pos : Pos} {k : Nat} (T : XIok X R.xi x n) (hr : Room k X.A) (ha : PA X (a :: es) (RdL X.K R (evs G as))) (hg : Gl X n) (hdb : (n == ("__debug__" : Str)) = false) (hlen : as.len = (R.xi.fld x).length) (hz : (R.xi.fld x).length ≤ sizeLine)
    (he : starEach (a :: es) X.env = (false, eval a X.env) :: starEach es X.env) (hpl : (backTo pos (starEach es X.env)).any (·.1) = false) :
    PMk X (.Call (.Name n p) (a :: es) [] pos) (fun σ H Q => RdL X.K R (evs G as) σ H fun vs H1 => vs.length = (R.xi.fld x).length ∧ ∀ d, H1 d = none → Q (.ref (R.xi.cls x)) (some d) (upd H1 d (.xd ((R.xi.fld x).zip vs)))) := by
  intro pins s σ H Q I h
  refine wpAny_Call_Name_kw (ld_glob I hg T.gC ?_ hdb)
  refine PySem.W.callWith_K (h₀ := X.base) I.ok.mod.kin T.kC (thn (ha.run pos pins s σ H _ I h) fun us s1 ⟨vs, H1, I1, r1, hl, q1⟩ => ⟨I1.kIn, ?_⟩) he hpl
  obtain ⟨fI, fd, O, b⟩ := T.ini
  have gr := inv_gr I1 T.sup
  have hl2 : us.length = (R.xi.fld x).length := by rw [← r1.length]; exact hl
  obtain ⟨hp, g, dr, tk, os⟩ := s1
  show wpAny _ _ (call (.ref (R.xi.cls x)) us) _ _ _
  refine wpAny_call (RfX.own_made O b hl2 (by rw [hl2]; exact hz) gr (by have := hr.dp; omega) fun h' tk' e d M => ?_)
  show MkP X pins σ Q (.ref e) ⟨h', g, dr, tk', os⟩
  obtain ⟨oe, fv, hoe, hc, hd, hdat, h1⟩ := M.obj
  have hns := M.ns
  obtain ⟨G', g1, g2⟩ := restrict h' fun b => decide (b ≠ e)
  have gk : ∀ b, b ≠ e → G'.get? b = h'.get? b := fun b hb => g1 b (decide_eq_true hb)
  have ge : G'.get? e = none := g2 e (by simp)
  have old : ∀ b o, hp.get? b = some o → G'.get? b = some o := fun b o q => (gk b (Nat.ne_of_lt (Nat.lt_of_lt_of_le (Heap.lt_size q) M.new))).trans (M.keep b o q)
  have ob : ObjOk X.prog X.w (upd H1 d (.xd ((R.xi.fld x).zip vs))) G' d (.xd ((R.xi.fld x).zip vs)) :=
    ⟨_, hns.at (fun o q => (gk d M.dne).trans q), relO_x (List.nodup_cons.mp O.nd).2 r1 hl⟩
  have J : Inv X pins σ (upd H1 d (.xd ((R.xi.fld x).zip vs))) ⟨G', g, dr, tk', os⟩ := I1.laid (t' := tk') old M.dbig ob
  refine ⟨e, oe, fv, ⟨G', g, dr, tk', os⟩, _, .ref (R.xi.cls x), some d, rfl, J, fun b o q => ?_, ge, hoe, ⟨hc, hd⟩, hdat, h1, ?_, rfl, I1.bare, raises_own T.exC T.tyC, q1 d (I1.hok.fresh M.dbig)⟩
  · by_cases hb : b = e
    · have q' : G'.get? b = some o := q
      rw [hb, ge] at q'; cases q'
    · exact (gk b hb).symm.trans q
  · rw [upd_ne (Ne.symm M.dne)]
    exact I1.hok.fresh M.new
end
end Rf
set_option Elab.async false
set_option linter.all false
set_option maxRecDepth 100000
set_option maxHeartbeats 1000000
/-! Rf17: raise, try. -/
namespace Rf
open PySem PySem.Spec PyProof.Rows
open L2 hiding St

section
variable {X : Cx} {R : Rc} {G : Env} {x y z : Expr} {xs : List Expr} {a b c : IE} {as : IEs} {pos : Pos} {s : IS} {ss : ISs} {S : Stmt} {SS : List Stmt}
theorem evs_len {P : List D × Sl → Prop} {E : Nat → List D → Sl → Prop} : ∀ (as : IEs) (st : Sl), (evs G as st).All P E → (evs G as st).All (fun p => P p ∧ p.1.length = as.len) E
  | .nil, st, h => by
    unfold evs at h ⊢
    exact ⟨h, rfl⟩
  | .cons e es, st, h => by
    unfold evs at h ⊢
    refine T.all_bind' _ (T.all_mono (fun p hp => ?_) (fun _ _ _ h => h) _ (T.all_bind _ h))
    obtain ⟨d, ed, h2⟩ := T.all_none hp
    rw [ed, T.opt_some, T.bind_ok]
    refine T.all_bind' _ (T.all_mono (fun q hq => ?_) (fun _ _ _ h => h) _ (evs_len es p.2 (T.all_bind _ h2)))
    exact ⟨hq.1, by show q.1.length + 1 = es.len + 1; rw [hq.2]⟩
theorem ps_raiseR {e : Nat} {n : Str} {es : List Expr} {p pos2 : Pos} {k : Nat} (hc : X.calm = true) (tk : Takes X R.W) (hx : e < R.xi.num) (TX : XIok X R.xi e n) (hr : Room k X.A) (ha : PA X (x :: es) (RdL X.K R (evs G as))) (hg : Gl X n) (hdb : (n == ("__debug__" : Str)) = false) (hlen : as.len = (R.xi.fld e).length) (hz : (R.xi.fld e).length ≤ sizeLine)
    (he : starEach (x :: es) X.env = (false, eval x X.env) :: starEach es X.env) (hpl : (backTo pos (starEach es X.env)).any (·.1) = false) :
    PS X (.Raise (some (.Call (.Name n p) (x :: es) [] pos)) none pos2) (RdS X.K R (ex G (.raise_ e as))) := PS.imp (ps_raise hc tk (pmk_own TX hr ha hg hdb hlen hz he hpl)) fun D σ H ⟨st, hr, h⟩ => by
  unfold ex at h
  refine ⟨st, hr, T.all_mono (fun p ⟨hp, hl⟩ vs H1 s1 r1 g => ?_) (fun _ _ _ e => e.ew) _ (evs_len as st (T.all_bind _ h))⟩
  have hl' : vs.length = (R.xi.fld e).length := by rw [g.length, hl, hlen]
  refine ⟨hl', fun d hd => ?_⟩
  have n : NewS H1 (upd H1 d (.xd ((R.xi.fld e).zip vs))) := .new d _ hd
  exact hp _ _ σ _ (s1.imm.trans n.imm) (n.rel r1) ⟨hx, rfl, .inr ⟨d, vs, rfl, upd_same, hl', DFs.imm n.imm _ _ g⟩⟩
end

/-! ### several clauses, each with a name or without -/
/-- a clause: its class, its name's slot, its suite's reading -/
abbrev Hd := Value × Option Nat × (Addr → Value → Option Addr → TS)
def gonE (D : Ends) : Option Nat → Ends
  | none => D
  | some i => { nx := fun σ' H' => D.nx (σ'.set i none) H', rt := D.rt, bk := fun σ' H' => D.bk (σ'.set i none) H', ct := fun σ' H' => D.ct (σ'.set i none) H' }
def namE (σ : Sg) (a : Addr) : Option Nat → Sg
  | none => σ
  | some i => σ.set i (some (.ref a))
def wHds (K : PySem.W.Frag) (Wout : WX) (D : Ends) : List Hd → WX
  | [] => Wout
  | (c, o, ts) :: r => fun cls d σ H => ∃ b, PySem.W.exmOne K cls c = some b ∧ (b = true → ∀ a, H a = none → ts a cls d (gonE D o) (namE σ a o) H) ∧ (b = false → wHds K Wout D r cls d σ H)
inductive HdsX (X : Cx) : List ExceptHandler → List Hd → Prop
  | nil : HdsX X [] []
  | plain {x : Str} {c : Value} {ts : Addr → Value → Option Addr → TS} {b₀ : Stmt} {suite : List Stmt} {np pos' : Pos} {hds : List ExceptHandler} {l : List Hd} (hc : Names X x c)
      (hsu : ∀ (a : Addr) (oe : Obj) (cls : Value) (d : Option Addr) (pn : List (Addr × Obj)), Zc cls d oe → (∃ vs, oe.data = .fields vs) → PSs (X.suite a ((a, oe) :: pn)) (b₀ :: suite) (ts a cls d)) (r : HdsX X hds l) :
      HdsX X (.ExceptHandler (some (.Name x np)) none (b₀ :: suite) pos' :: hds) ((c, none, ts) :: l)
  | as {x n : Str} {i : Nat} {c : Value} {ts : Addr → Value → Option Addr → TS} {b₀ : Stmt} {suite : List Stmt} {np pos' : Pos} {hds : List ExceptHandler} {l : List Hd} (hc : Names X x c) (hi : X.N[i]? = some n) (hln : X.env.kindOf n = some .local)
      (hsu : ∀ (a : Addr) (oe : Obj) (cls : Value) (d : Option Addr) (pn : List (Addr × Obj)), Zc cls d oe → (∃ vs, oe.data = .fields vs) → PSs (X.suite a ((a, oe) :: pn)) (b₀ :: suite) (ts a cls d)) (r : HdsX X hds l) :
      HdsX X (.ExceptHandler (some (.Name x np)) (some n) (b₀ :: suite) pos' :: hds) ((c, some i, ts) :: l)
section
variable {X : Cx} {body : List Stmt} {h₀ : ExceptHandler} {hds : List ExceptHandler} {l : List Hd} {pos : Pos} {tb : WX → TS} {Wout : WX}
theorem ps_try_hds (hs : X.stack = X.env :: X.outer) (hf : X.env.frame = some X.env.locals) (hN : X.N.Nodup) (tk : Takes X Wout)
    (hb : ∀ (W : WX) (pn : List (Addr × Obj)) (xe : Value → Shared → Prop), Takes (X.tr pn xe) W → PassesOwn (model X.prog X.w) X.A X.env xe → PSs (X.tr pn xe) body (tb W))
    (hh : HdsX X (h₀ :: hds) l) : PS X (.Try body (h₀ :: hds) [] [] pos) (fun D σ H => tb (wHds X.K Wout D l) D σ H) := by
  refine ⟨fun pins s σ H D I h => ?_⟩
  have ok := I.ok
  have hfr : X.A.frames = some (X.env :: X.outer) := by rw [ok.frames, hs]
  refine wpAny_Try_except ?_
  refine wpAny_mono ((hb (wHds X.K Wout D l) (X.pn ++ pins) (fun e s₁ => wpAny (model X.prog X.w) X.A (noteFrame e X.env) (fun _ s₂ => wpAny (model X.prog X.w) X.A (setFlight e none) (fun _ s₃ =>
    wpAny (model X.prog X.w) X.A (handleBy e X.env (h₀ :: hds)) (SP X pins D) X.xe s₃) X.xe s₂) X.xe s₁) (fun u s' xx => ?_) PassesOwn.looking).run [] s σ H D (I.toTry _) h) (fun f s1 hsp => ?_) (fun e s1 he => he)
  · -- the catch
    obtain ⟨a, B, sI, pins', σ', H', cls, d, rfl, J', nb, up, sky, na, os, ag, w⟩ := xx
    have J : Inv X pins σ' H' sI := J'.ofTry ok
    have sky' : Sky B (X.env :: X.outer) a (Zc cls d) X.env.locals s'.heap := by rw [← hs]; exact sky
    show wpAny (model X.prog X.w) X.A (noteFrame (.ref a) X.env) _ _ _
    refine Sky.land Zc.steady hfr hf sky' fun h3 fl3 up3 => ?_
    have J3 : Inv X pins σ' H' { s' with heap := h3 } := J.landed nb fl3.1 (up.trans up3) os ag
    obtain ⟨oe3, vs3, he3, hz3, hd3⟩ := fl3.there
    have notFr : ∀ {h : Heap} {o : Obj} {vs : Array Value}, h.FunFrames B (X.env :: X.outer) → h.get? a = some o → o.data = .fields vs → a ∉ frs (X.env :: X.outer) := fun {h o vs} ff e dd hm => by
      obtain ⟨_, o', e', hnf⟩ := ff.mem hm
      rw [e] at e'; cases e'
      exact hnf _ dd
    have nfr := notFr fl3.2.2.1 he3 hd3
    have nL : a ≠ X.env.locals := fun z => nfr (List.mem_filterMap.mpr ⟨X.env, List.mem_cons_self, by rw [hf, z]⟩)
    have nF : a ∉ X.fs := fun hm => by
      obtain ⟨e, he, q⟩ := List.mem_filterMap.mp hm
      exact nfr (List.mem_filterMap.mpr ⟨e, List.mem_cons_of_mem _ he, q⟩)
    have S3 := J3.suite he3 hd3 na nL nF
    have LT : PySem.W.Looks (model X.prog X.w) h3 (typeOf (.ref a)) cls := fun A Q E s k q => wpAny_typeOf_ref (k _ _ he3) (by rw [hz3.1]; exact q)
    have test : ∀ {x : Str} {c : Value} {np : Pos} {Q : Value → Shared → Prop} {E : Value → Shared → Prop}, Names X x c → Q c { s' with heap := h3 } → wpAny (model X.prog X.w) (X.A.mark (some (.ref a))) (eval (.Name x np) X.env) Q E { s' with heap := h3 } := fun {x c np Q E} hc q => by
      obtain ⟨hg, hdbg, hm | ⟨hm, hv, hnn⟩⟩ := hc
      · exact ld_glob (X := X.suite a ((a, oe3) :: (X.pn ++ pins))) S3 hg hm q hdbg
      · exact ld_blt (X := X.suite a ((a, oe3) :: (X.pn ++ pins))) S3 hg hm hv q hnn hdbg
    have go : ∀ {hds' : List ExceptHandler} {l' : List Hd}, HdsX X hds' l' → wHds X.K Wout D l' cls d σ' H' →
        wpAny (model X.prog X.w) X.A (handleBy (.ref a) X.env hds') (SP X pins D) X.xe { s' with heap := h3 } := by
      intro hds' l' hk
      induction hk with
      | nil =>
        intro w
        refine wpAny_handleBy_nil ?_
        obtain ⟨k1, k2, k3, oe, vs, T, oT, ts', he, hz, hd, h1, hr⟩ := id fl3
        unfold PySem.passOn
        refine wpAny_bind (wpAny_field he hd h1 ?_)
        rw [if_neg (show ¬ ((Value.ref T == Value.none) = true) from by simp)]
        have fin : wpAny (model X.prog X.w) X.A (setFlight (.ref a) X.env.frame) (fun _ s4 => wpAny (model X.prog X.w) X.A (throw (.ref a) : Sem Flow) (SP X pins D) X.xe s4) X.xe { s' with heap := h3 } := by
          rw [hf]
          refine HandSPX.setFlight_upZ fl3 fun h4 hh4 up4 => wpAny_throw (tk _ _ ?_)
          exact ⟨a, B, sI, pins, σ', H', cls, d, rfl, J, nb, (up.trans up3).trans up4, .inr (.inr (by rw [hs]; exact hh4)), na, os, ag, w⟩
        first
          | exact wpAny_bind (wpAny_pure (wpAny_bind fin))
          | exact wpAny_bind fin
      | @plain x c ts b₀ suite np pos' hds2 l2 hc hsu r ih =>
        intro w
        obtain ⟨b, hb1, hyes, hno⟩ := w
        refine wpAny_handleBy_cons (codeAny_handlers_test ?_) (by intro q; cases q)
        have LM := PySem.W.exm_one (M := model X.prog X.w) (J3.kIn) LT hb1
        refine test hc (LM.here ?_)
        cases b with
        | true =>
          refine codeAny_handlers_suite ?_
          refine HandSPX.lands_againZ fl3 fun h4 fl4 up4 => ?_
          have J4 : Inv X pins σ' H' { s' with heap := h4 } := J.landed nb fl4.1 ((up.trans up3).trans up4) os ag
          obtain ⟨oe4, vs4, he4, hz4, hd4⟩ := fl4.there
          have S4 := J4.suite he4 hd4 na nL nF
          refine wpAny_mono ((hsu a oe4 cls d (X.pn ++ pins) hz4 ⟨_, hd4⟩).run [] _ _ H' _ S4 (hyes rfl a na)) (fun f s6 hsp => ?_) (fun _ _ z => False.elim z)
          cases f with
          | next =>
            obtain ⟨σ6, H6, S6, q6⟩ := hsp
            exact ⟨_, _, S6.unsuite ok, q6⟩
          | brk =>
            obtain ⟨σ6, H6, S6, q6⟩ := hsp
            exact ⟨_, _, S6.unsuite ok, q6⟩
          | cont =>
            obtain ⟨σ6, H6, S6, q6⟩ := hsp
            exact ⟨_, _, S6.unsuite ok, q6⟩
          | ret u =>
            obtain ⟨v6, σ6, H6, S6, r6, q6⟩ := hsp
            exact ⟨_, _, _, S6.unsuite ok, r6, q6⟩
        | false =>
          show wpAny _ X.A (handleBy (.ref a) X.env hds2) _ _ _
          exact ih (hno rfl)
      | @as x n i c ts b₀ suite np pos' hds2 l2 hc hi hln hsu r ih =>
        intro w
        obtain ⟨b, hb1, hyes, hno⟩ := w
        refine wpAny_handleBy_cons (codeAny_handlers_test ?_) (by intro q; cases q)
        have LM := PySem.W.exm_one (M := model X.prog X.w) (J3.kIn) LT hb1
        refine test hc (LM.here ?_)
        cases b with
        | true =>
          refine codeAny_handlers_suite_as ?_
          refine HandSPX.lands_againZ fl3 fun h4 fl4 up4 => ?_
          have J4 : Inv X pins σ' H' { s' with heap := h4 } := J.landed nb fl4.1 ((up.trans up3).trans up4) os ag
          obtain ⟨oe4, vs4, he4, hz4, hd4⟩ := fl4.there
          have S4 := J4.suite he4 hd4 na nL nF
          refine store_ok (X := X.suite a ((a, oe4) :: (X.pn ++ pins))) (v := .ref a) S4 hN hi (.inl hln) rfl (fun s5 S5 => ?_) (.inr hln)
          refine wpAny_mono ((hsu a oe4 cls d (X.pn ++ pins) hz4 ⟨_, hd4⟩).run [] s5 _ H' _ S5 (hyes rfl a na)) (fun f s6 hsp => ?_) (fun _ _ z => False.elim z)
          have end_ : ∀ {σ6 : Sg} {H6 : Hp} {Q : Shared → Prop}, Inv (X.suite a ((a, oe4) :: (X.pn ++ pins))) [] σ6 H6 s6 → (∀ s7, Inv X pins (σ6.set i none) H6 s7 → Q s7) →
              wpAny (model X.prog X.w) X.A (do bindName X.env n .none; unbindBehindTheSuite X.env n pos') (fun _ s7 => Q s7) X.xe s6 := fun {σ6 H6 Q} S6 hq => gone_ok (S6.unsuite ok) hN hi hln hq
          cases f with
          | next =>
            obtain ⟨σ6, H6, S6, q6⟩ := hsp
            exact end_ S6 fun s7 J7 => ⟨_, _, J7, q6⟩
          | brk =>
            obtain ⟨σ6, H6, S6, q6⟩ := hsp
            exact end_ S6 fun s7 J7 => ⟨_, _, J7, q6⟩
          | cont =>
            obtain ⟨σ6, H6, S6, q6⟩ := hsp
            exact end_ S6 fun s7 J7 => ⟨_, _, J7, q6⟩
          | ret u =>
            obtain ⟨v6, σ6, H6, S6, r6, q6⟩ := hsp
            exact end_ S6 fun s7 J7 => ⟨_, _, _, J7, r6, q6⟩
        | false =>
          show wpAny _ X.A (handleBy (.ref a) X.env hds2) _ _ _
          exact ih (hno rfl)
    exact go hh w
  · cases f with
    | next =>
      obtain ⟨σ', H', J', q⟩ := hsp
      exact wpAny_execs_nil ⟨σ', H', J'.ofTry ok, q⟩
    | brk =>
      obtain ⟨σ', H', J', q⟩ := hsp
      exact ⟨σ', H', J'.ofTry ok, q⟩
    | cont =>
      obtain ⟨σ', H', J', q⟩ := hsp
      exact ⟨σ', H', J'.ofTry ok, q⟩
    | ret u =>
      obtain ⟨v, σ', H', J', r, q⟩ := hsp
      exact ⟨v, σ', H', J'.ofTry ok, r, q⟩
end
/-! ### what a suite says -/
structure XF (K : PySem.W.Frag) (xi : XI) : Prop where
  exm : ∀ x y, x < xi.num → y < xi.num → PySem.W.exmOne K (.ref (xi.cls x)) (.ref (xi.cls y)) = some (subC x y)
  kit : ∀ x y, x < xi.num → y < xi.num → PySem.W.kitOne K (.ref (xi.cls x)) (.ref (xi.cls y)) = some (subC x y)
  cl : ∀ x, x < xi.num → (PySem.W.clsIn K (xi.cls x)).isSome = true
  xfc : ∀ x, x < xi.num → XfC K (xi.cls x)
  exc : ∀ x, x < xi.num → ExcC K (xi.cls x)
  nof : ∀ x, x < xi.num → ∀ f ∈ xi.fld x, PySem.W.findIn K (.ref (xi.cls x)) f = some none
/-- the caught error: at a, in the slot o's -/
def Caught (K : PySem.W.Frag) (R : Rc) (H : Hp) (σ : Sg) (st : Sl) (a : Addr) (cls : Value) (d : Option Addr) (o : Option Nat) (y x : Nat) (as : List D) : Prop :=
  RelS K R.L R.B H σ st ∧ (∀ k, o = some k → σ[k]? = some (some (.ref a))) ∧ ExcR K R.xi H cls d x as ∧ subC x y = true
def RdH (K : PySem.W.Frag) (R : Rc) (a : Addr) (cls : Value) (d : Option Addr) (o : Option Nat) (y : Nat) (e : HE) : TE := fun σ H Q => ∃ st x as dt, Caught K R H σ st a cls d o y x as ∧ he x as st e = some dt ∧ ∀ v H', NewS H H' → DF K H' v dt → Q v H'
def RdHs (K : PySem.W.Frag) (R : Rc) (a : Addr) (cls : Value) (d : Option Addr) (o : Option Nat) (y : Nat) (ps : List HP) : TA := fun σ H Q => ∃ st x as ds, Caught K R H σ st a cls d o y x as ∧ hps x as ps = some ds ∧ ∀ vs, DFs K H vs ds → Q vs H
def tSu (K : PySem.W.Frag) (R : Rc) (o : Option Nat) (y : Nat) (su : HSu) (a : Addr) (cls : Value) (d : Option Addr) : TS := fun D σ H => ∃ st x as, Caught K R H σ st a cls d o y x as ∧
  match su with
  | .asg j e => ∃ dt, he x as st e = some dt ∧ ∀ σ' H', Imm H H' → RelS K R.L R.B H' σ' (st.set j (some (.sh dt))) → D.nx σ' H'
  | .ret e => ∃ dt, he x as st e = some dt ∧ ∀ v H', Imm H H' → RelS K R.L R.B H' σ st → DF K H' v dt → D.rt v H'
theorem opt_bind {α β : Type} {o : Option α} {f : α → Option β} {b : β} (h : o.bind f = some b) : ∃ a, o = some a ∧ f a = some b := by
  cases o with
  | none => cases h
  | some a => exact ⟨a, rfl, h⟩
section
variable {X : Cx} {R : Rc} {a : Addr} {oe : Obj} {cls : Value} {d : Option Addr} {pn : List (Addr × Obj)} {o : Option Nat} {y : Nat} {e : Expr} {es : List Expr} {pos : Pos}
/-- a part as a value: the heap as it was -/
def RdP1 (K : PySem.W.Frag) (R : Rc) (a : Addr) (cls : Value) (d : Option Addr) (o : Option Nat) (y : Nat) (p : HP) : TE := fun σ H Q => ∃ st x as dt, Caught K R H σ st a cls d o y x as ∧ hp x as p = some dt ∧ ∀ v, DF K H v dt → Q v H
theorem ph_con {c : D} {v : V} (h : PE (X.suite a ((a, oe) :: pn)) e (tC v)) (hv : ∀ H, DF X.K H v c) : PE (X.suite a ((a, oe) :: pn)) e (RdP1 X.K R a cls d o y (.con c)) := PE.imp h fun σ H Q ⟨st, x, as, dt, hC, e, q⟩ => by
  cases e
  exact q v (hv H)
theorem zip_lookup : ∀ {fs : List Str} {vs : List V} {n : Nat} {f : Str} {v : V}, fs.Nodup → fs[n]? = some f → vs[n]? = some v → (fs.zip vs).lookup f = some v
  | [], _, _, _, _, _, h, _ => by simp at h
  | _ :: _, [], _, _, _, _, _, h => by simp at h
  | g :: fs, w :: vs, 0, f, v, nd, h1, h2 => by
    simp at h1 h2; subst h1 h2
    simp
  | g :: fs, w :: vs, n + 1, f, v, nd, h1, h2 => by
    obtain ⟨n1, n2⟩ := List.nodup_cons.mp nd
    have h1' : fs[n]? = some f := by simpa using h1
    have : (f == g) = false := by
      have : f ≠ g := fun z => n1 (z ▸ List.mem_of_getElem? h1')
      simpa using this
    rw [List.zip_cons_cons, List.lookup_cons, this]
    exact zip_lookup n2 h1' (by simpa using h2)
theorem ph_fld {n : Nat} {f nm : Str} {k : Nat} {p1 : Pos} (F : XF X.K R.xi) (hy : y < R.xi.num) (hy0 : y ≠ 0) (hf : (R.xi.fld y)[n]? = some f) (nd : (R.xi.fld y).Nodup) (hz : Zc cls d oe) (hd : ∃ vs, oe.data = .fields vs) (ho : o = some k) (hN : X.N[k]? = some nm) (hv : Vis X.env.scope nm) (hdb : (nm == ("__debug__" : Str)) = false) (hcd : (nm == ("__classdict__" : Str)) = false)
    (hb : attributeBase (.Name nm p1) f X.env (eval (.Name nm p1) X.env) = eval (.Name nm p1) X.env) : PE (X.suite a ((a, oe) :: pn)) (.Attribute (.Name nm p1) f pos) (RdP1 X.K R a cls d o y (.fld n)) :=
  PE.imp (pe_xf (C := R.xi.cls y) (F.xfc y hy) (F.nof y hy f (List.mem_of_getElem? hf)) hz hd (pe_var (X := X.suite a ((a, oe) :: pn)) hN hv hdb hcd) hb) fun σ H Q ⟨st, x, as, dt, ⟨hr, hn, hx, hs⟩, e, q⟩ => by
  have exy : x = y := by
    unfold subC at hs
    rcases Bool.or_eq_true_iff.mp hs with z | z
    · exact beq_iff_eq.mp z
    · exact absurd (beq_iff_eq.mp z) hy0
  subst exy
  obtain ⟨hlt, hc, hx | ⟨dd, vs, h1, h2, h3, h4⟩⟩ := hx
  · rw [hx.1] at hf
    simp at hf
  · have e' : as[n]? = some dt := e
    obtain ⟨v, ev, dv⟩ := h4.get e'
    exact ⟨.ref a, hn k ho, rfl, hc, dd, _, v, h1, h2, zip_lookup nd hf ev, q v dv⟩
/-- isinstance(e, c) of an error with a dict or without -/
theorem call_isX {D : Addr} {od : Option Addr} (C : ExcC X.K D) (hcl : (PySem.W.clsIn X.K D).isSome = true) (hz : Zc (.ref D) od oe) (hf : ∃ vs, oe.data = .fields vs) :
    CallR (X.suite a ((a, oe) :: pn)) (.builtin "isinstance") (fun xs H Q => ∃ (c : V) (cv : Value) (b : Bool), xs = [.ref a, c] ∧ (∀ u, RelV c u → u = cv) ∧ PySem.W.kitOne X.K (.ref D) cv = some b ∧ (∀ dd, od = some dd → ∃ fs, H dd = some (.xd fs)) ∧ Q (.bl b) H) := by
  intro pins s σ H xs us Q I r h
  obtain ⟨c, cv, b, rfl, hcv, e, hod, q⟩ := h
  cases r with
  | cons rx rr =>
    cases rr with
    | cons rt rr =>
      cases rr
      cases rx
      have ec := hcv _ rt
      subst ec
      obtain ⟨hget, _⟩ := I.pin (a, oe) (List.mem_append.mpr (.inl List.mem_cons_self))
      obtain ⟨vs, hv⟩ := hf
      have J : ∃ odo, PySem.W.InstAt s.heap a oe D odo := by
        cases od with
        | none => exact ⟨none, hget, hz.1, by unfold PySem.W.notCls; rw [hv] <;> rfl, by rw [hz.2]; trivial⟩
        | some dd =>
          obtain ⟨fs, hfs⟩ := hod dd rfl
          have hx : ObjOk X.prog X.w H s.heap dd (.xd fs) := I.hok dd _ hfs
          obtain ⟨mA, hns, hr⟩ := hx
          obtain ⟨ob, ho, hl⟩ := lookIn_ns hns
          exact ⟨some ob, hget, hz.1, by unfold PySem.W.notCls; rw [hv] <;> rfl, by rw [hz.2]; exact ho⟩
      obtain ⟨odo, J⟩ := J
      exact PySem.W.kia_one (PySem.W.kitx_exc hcl C.hg C.hk C.hs C.ha C.hn C.ht C.hm) I.kIn J e (fun z => nomatch z) fun tk => ⟨.bl b, H, I.kept (t' := tk) fun _ _ z => z, rfl, q⟩
theorem ph_isi {c : Nat} {nm cn : Str} {k : Nat} {p1 p2 p3 : Pos} (F : XF X.K R.xi) (hy : y < R.xi.num) (hc : c < R.xi.num) (hz : Zc cls d oe) (hd : ∃ vs, oe.data = .fields vs) (ho : o = some k) (hN : X.N[k]? = some nm) (hv : Vis X.env.scope nm) (hdb : (nm == ("__debug__" : Str)) = false) (hcd : (nm == ("__classdict__" : Str)) = false)
    (hg : Gl X "isinstance") (hm : X.mg "isinstance" = none) (hg2 : Gl X cn) (hm2 : X.mg cn = some (.ref (R.xi.cls c))) (hdb2 : (cn == ("__debug__" : Str)) = false)
    (he : starEach [.Name nm p1, .Name cn p2] X.env = (false, eval (.Name nm p1) X.env) :: starEach [.Name cn p2] X.env) :
    PE (X.suite a ((a, oe) :: pn)) (.Call (.Name "isinstance" p3) [.Name nm p1, .Name cn p2] [] pos) (RdP1 X.K R a cls d o y (.isi c)) := by
  have h1 : PA (X.suite a ((a, oe) :: pn)) [.Name nm p1, .Name cn p2] _ := pa_cons (pe_var (X := X.suite a ((a, oe) :: pn)) hN hv hdb hcd) (pa_cons (pe_glob (X := X.suite a ((a, oe) :: pn)) (v := .ref (R.xi.cls c)) hg2 hm2 rfl hdb2) pa_nil) he
  refine ⟨fun pins s σ H Q I ⟨st, x, as, dt, ⟨hr, hn, hx, hs⟩, e, q⟩ => ?_⟩
  obtain ⟨hlt, ec, hx⟩ := hx
  subst ec
  have e' : some (PyData.bool (subC x c)) = some dt := e
  cases e'
  refine (pe_callB (X := X.suite a ((a, oe) :: pn)) (call_isX (F.exc x hlt) (F.cl x hlt) hz hd) hg hm (by decide +kernel) h1 (by decide) (by decide) he rfl).run pins s σ H Q I ?_
  refine ⟨.ref a, hn k ho, .ref (R.xi.cls c), .ref (R.xi.cls c), subC x c, rfl, fun u hu => hu, F.kit x c hlt hc, fun dd hdd => ?_, q _ (.bl _)⟩
  rcases hx with hx | ⟨dd', vs, g1, g2, _⟩
  · rw [hx.2.1] at hdd; cases hdd
  · rw [g1] at hdd
    cases hdd
    exact ⟨_, g2⟩
end
end Rf
set_option Elab.async false
set_option linter.all false
set_option maxRecDepth 100000
set_option maxHeartbeats 1000000
/-! Rf18: suites, try. -/
namespace Rf
open PySem PySem.Spec PyProof.Rows
open L2 hiding St

section
variable {X : Cx} {R : Rc} {a : Addr} {oe : Obj} {cls : Value} {d : Option Addr} {pn : List (Addr × Obj)} {o : Option Nat} {y : Nat} {e : Expr} {es : List Expr} {pos : Pos}
theorem pe_oneH {p : HP} (h : PE (X.suite a ((a, oe) :: pn)) e (RdP1 X.K R a cls d o y p)) : PE (X.suite a ((a, oe) :: pn)) e (RdH X.K R a cls d o y (.one p)) := PE.imp h fun σ H Q ⟨st, x, as, dt, hC, e, q⟩ => ⟨st, x, as, dt, hC, e, fun v dv => q v H .same dv⟩
theorem pe_varH {k : Nat} {nm : Str} (hN : X.N[k]? = some nm) (hv : Vis X.env.scope nm) (hdb : (nm == ("__debug__" : Str)) = false) (hcd : (nm == ("__classdict__" : Str)) = false) : PE (X.suite a ((a, oe) :: pn)) (.Name nm pos) (RdH X.K R a cls d o y (.var k)) :=
  PE.imp (pe_var (X := X.suite a ((a, oe) :: pn)) hN hv hdb hcd) fun σ H Q ⟨st, x, as, dt, hC, e, q⟩ => by
  have e' : (slot? st k).bind Cell.sh? = some dt := e
  obtain ⟨c, h1, h2⟩ := opt_bind e'
  obtain ⟨v, hs, rv⟩ := hC.1.slot k c (slot_some h1)
  rw [sh_some h2] at rv
  exact ⟨v, hs, q v H .same rv⟩
theorem pa_nilH : PA (X.suite a ((a, oe) :: pn)) [] (RdHs X.K R a cls d o y []) := PA.imp pa_nil fun σ H Q ⟨st, x, as, ds, hC, e, q⟩ => by
  cases e
  exact q [] .nil
theorem pa_consH {p : HP} {ps : List HP} (h : PE (X.suite a ((a, oe) :: pn)) e (RdP1 X.K R a cls d o y p)) (hs : PA (X.suite a ((a, oe) :: pn)) es (RdHs X.K R a cls d o y ps)) (he : starEach (e :: es) X.env = (false, eval e X.env) :: starEach es X.env) :
    PA (X.suite a ((a, oe) :: pn)) (e :: es) (RdHs X.K R a cls d o y (p :: ps)) := PA.imp (pa_cons h hs he) fun σ H Q ⟨st, x, as, ds, hC, e, q⟩ => by
  have e' : (hp x as p).bind (fun d => (hps x as ps).bind fun ds => some (d :: ds)) = some ds := e
  obtain ⟨d1, h1, h2⟩ := opt_bind e'
  obtain ⟨ds1, h3, h4⟩ := opt_bind h2
  cases h4
  exact ⟨st, x, as, d1, hC, h1, fun v dv => ⟨st, x, as, ds1, hC, h3, fun vs g => q (v :: vs) (.cons dv g)⟩⟩
theorem hps_len {x : Nat} {as : List D} : ∀ {ps : List HP} {ds : List D}, hps x as ps = some ds → ds.length = ps.length
  | [], _, e => by cases e; rfl
  | p :: ps, ds, e => by
    have e' : (hp x as p).bind (fun d => (hps x as ps).bind fun ds => some (d :: ds)) = some ds := e
    obtain ⟨d1, h1, h2⟩ := opt_bind e'
    obtain ⟨ds1, h3, h4⟩ := opt_bind h2
    cases h4
    rw [List.length_cons, List.length_cons, hps_len h3]
theorem pe_tupH {ps : List HP} {k : Nat} (h : PA (X.suite a ((a, oe) :: pn)) es (RdHs X.K R a cls d o y ps)) (hz : ps.length ≤ sizeLine) : PE (X.suite a ((a, oe) :: pn)) (.Tuple es k pos) (RdH X.K R a cls d o y (.tup ps)) := PE.imp (pe_tup h) fun σ H Q ⟨st, x, as, dt, hC, e, q⟩ => by
  have e' : (hps x as ps).map PyData.tuple = some dt := e
  cases h1 : hps x as ps with
  | none => rw [h1] at e'; cases e'
  | some ds =>
    rw [h1] at e'
    cases e'
    refine ⟨st, x, as, ds, hC, h1, fun vs g => ⟨by rw [g.length, hps_len h1]; exact hz, fun p hp => q _ _ (.new p _ hp) (.tup (SqT.of upd_same) (DFs.imm (Imm.upd hp) _ _ g))⟩⟩
theorem ps_asgH {j : Nat} {n : Str} {p1 : Pos} {he : HE} (hN : X.N.Nodup) (hi : X.N[j]? = some n) (hx : Loc X.env.scope n) (h : PE (X.suite a ((a, oe) :: pn)) e (RdH X.K R a cls d o y he)) (hs : swapsWith e (some (.Name n p1)) pos.line X.env = pure false) (hf : X.fn n = true ∨ X.env.scope.names.lookup n = some .local) :
    PS (X.suite a ((a, oe) :: pn)) (.Assign [.Name n p1] e pos) (tSu X.K R o y (.asg j he) a cls d) := PS.imp (ps_set (X := X.suite a ((a, oe) :: pn)) hN hi hx h hs hf) fun D σ H ⟨st, x, as, hC, dt, e, q⟩ =>
  ⟨st, x, as, dt, hC, e, fun v H' n dv => q _ H' n.imm (set_rel (n.rel hC.1) dv fun ds e => by cases e)⟩
theorem ps_retH {he : HE} (h : PE (X.suite a ((a, oe) :: pn)) e (RdH X.K R a cls d o y he)) : PS (X.suite a ((a, oe) :: pn)) (.Return (some e) pos) (tSu X.K R o y (.ret he) a cls d) := PS.imp (ps_ret h) fun D σ H ⟨st, x, as, hC, dt, e, q⟩ =>
  ⟨st, x, as, dt, hC, e, fun v H' n dv => q v H' n.imm (n.rel hC.1) dv⟩
end

/-! ### try -/
theorem T.all_try {P : Out × Sl → Prop} {E : Nat → List D → Sl → Prop} {h : Nat → List D → Sl → T (Out × Sl)} : ∀ t : T (Out × Sl), (tryT h t).All P E → t.All P (fun x as st => (h x as st).All P E)
  | .ok _, q => q
  | .ex _ _ _, q => q
  | .bad, q => q
  | .draw _ k, q => fun n hn => T.all_try (k n) (q n hn)
section
variable {K : PySem.W.Frag} {L : Lw} {B H : Hp} {σ : Sg} {st : Sl}
theorem unset_rel {i : Nat} {x : Option V} (r : RelS K L B H σ st) : RelS K L B H (σ.set i x) (st.set i none) := by
  have back : ∀ {j : Nat} {c : Cell}, (st.set i none).cs[j]? = some (some c) → j ≠ i ∧ st.cs[j]? = some (some c) := fun {j c} e => by
    by_cases hj : j = i
    · subst hj
      by_cases hl : j < st.length
      · rw [List.getElem?_set_self hl] at e; cases e
      · rw [List.getElem?_eq_none (by rw [List.length_set]; exact Nat.le_of_not_lt hl)] at e; cases e
    · rw [List.getElem?_set_ne (Ne.symm hj)] at e
      exact ⟨hj, e⟩
  exact ⟨r.ext, r.law, by rw [Sl.length_set, List.length_set]; exact r.len, fun j c e => let ⟨h1, h2⟩ := back e; let ⟨v, e1, q⟩ := r.slot j c h2; ⟨v, by rwa [List.getElem?_set_ne (Ne.symm h1)], q⟩,
    fun b ⟨j, ds, e1, e2⟩ => let ⟨h1, h2⟩ := back e1; r.own b ⟨j, ds, h2, by rwa [List.getElem?_set_ne (Ne.symm h1)] at e2⟩,
    fun j k ds es b e1 e2 e3 e4 => let ⟨h1, h2⟩ := back e1; let ⟨g1, g2⟩ := back e2; r.dist j k ds es b h2 g2 (by rwa [List.getElem?_set_ne (Ne.symm h1)] at e3) (by rwa [List.getElem?_set_ne (Ne.symm g1)] at e4)⟩
end
def IHs.list (K : PySem.W.Frag) (R : Rc) : IHs → List Hd
  | .nil => []
  | .cons y o su hs => (.ref (R.xi.cls y), o, tSu K R o y su) :: IHs.list K R hs
def IHs.ok (n : Nat) : IHs → Bool
  | .nil => true
  | .cons y _ _ hs => decide (y < n) && IHs.ok n hs
theorem hds_rd {X : Cx} {R : Rc} (F : XF X.K R.xi) {Dn : Ends} {H : Hp} {x : Nat} {as : List PyData} {cls : Value} {d : Option Addr} {σ : Sg} {H' : Hp} {st : Sl} (hi : Imm H H') (hr : RelS X.K R.L R.B H' σ st) (hx : ExcR X.K R.xi H' cls d x as) :
    ∀ hs : IHs, hs.ok R.xi.num = true → (exh hs x as st).All (FE X.K R Dn H) (ES X.K R H) → wHds X.K R.W Dn (hs.list X.K R) cls d σ H'
  | .nil, _, h => h cls d σ H' hi hr hx
  | .cons y o su hs, hok, h => by
    unfold IHs.ok at hok
    rw [Bool.and_eq_true] at hok
    obtain ⟨k1, k3⟩ := hok
    have hy := of_decide_eq_true k1
    refine ⟨subC x y, by rw [hx.2.1]; exact F.exm x y hx.1 hy, fun hb a ha => ?_, fun hb => ?_⟩
    · unfold exh at h
      rw [hb] at h
      have h : (cond (okIx o st) (hsu x as (gone st o) o su) T.bad).All (FE X.K R Dn H) (ES X.K R H) := h
      cases hix : okIx o st with
      | false => rw [hix] at h; exact h.elim
      | true =>
        rw [hix] at h
        have h : (hsu x as (gone st o) o su).All (FE X.K R Dn H) (ES X.K R H) := h
        have hr' : RelS X.K R.L R.B H' (namE σ a o) (gone st o) := by
          cases o with
          | none => exact hr
          | some i => exact unset_rel hr
        refine ⟨gone st o, x, as, ⟨hr', fun k ek => ?_, hx, hb⟩, ?_⟩
        · subst ek
          have hlt : k < σ.length := by
            have := of_decide_eq_true hix
            rw [← hr.len]
            exact this
          exact List.getElem?_set_self hlt
        · cases su with
          | asg j e =>
            obtain ⟨dt, e1, h2⟩ := T.all_none (show ((T.opt (he x as (gone st o) e)).bind fun d => T.ok (Out.nx, gone ((gone st o).set j (some (.sh d))) o)).All _ _ from h)
            refine ⟨dt, e1, fun σ' H2 i2 r2 => ?_⟩
            cases o with
            | none => exact h2 σ' H2 (hi.trans i2) r2
            | some i => exact h2 (σ'.set i none) H2 (hi.trans i2) (unset_rel r2)
          | ret e =>
            obtain ⟨dt, e1, h2⟩ := T.all_none (show ((T.opt (he x as (gone st o) e)).bind fun d => T.ok (Out.ret (.sh d), gone st o)).All _ _ from h)
            refine ⟨dt, e1, fun v H2 i2 r2 dv => ?_⟩
            cases o with
            | none => exact h2 _ H2 (hi.trans i2) r2 v dv trivial
            | some i => exact h2 _ H2 (hi.trans i2) r2 v dv trivial
    · unfold exh at h
      rw [hb] at h
      exact hds_rd F hi hr hx hs k3 h
section
variable {X : Cx} {R : Rc} {G : Env} {body : List Stmt} {h₀ : ExceptHandler} {hds : List ExceptHandler} {pos : Pos} {ss : ISs} {hs : IHs}
def Rc.wish (R : Rc) (W : WX) : Rc := ⟨R.L, R.B, R.xi, W⟩
theorem ps_tryR (hst : X.stack = X.env :: X.outer) (hf : X.env.frame = some X.env.locals) (hN : X.N.Nodup) (tk : Takes X R.W) (F : XF X.K R.xi)
    (hb : ∀ (W : WX) (pn : List (Addr × Obj)) (xe : Value → Shared → Prop), Takes (X.tr pn xe) W → PassesOwn (model X.prog X.w) X.A X.env xe → PSs (X.tr pn xe) body (RdS X.K (R.wish W) (exs G ss)))
    (hh : HdsX X (h₀ :: hds) (hs.list X.K R)) (hok : hs.ok R.xi.num = true) : PS X (.Try body (h₀ :: hds) [] [] pos) (RdS X.K R (ex G (.try_ ss hs))) := by
  refine ⟨fun pins s σ H D I ⟨st, hr, h⟩ => ?_⟩
  unfold ex at h
  refine (ps_try_hds hst hf hN tk (tb := fun W => RdS X.K (R.wish W) (exs G ss)) hb hh).run pins s σ H D I ?_
  exact ⟨st, hr, T.all_mono (fun p hp => hp) (fun x as st' hx cls d σ' H' i r ex => hds_rd F i r ex hs hok hx) _ (T.all_try _ h)⟩
end
end Rf
set_option Elab.async false
set_option linter.all false
set_option maxRecDepth 100000
set_option maxHeartbeats 1000000
/-! Rf25: a lambda handed to a def. -/
namespace Rf
open PySem PySem.Spec PyProof.Rows
open L2 hiding St
open LamX

section
variable {X : Cx} {pins : List (Addr × Obj)} {σ : Sg} {H : Hp} {s : Shared}
/-- a lambda is made: all but its table is kept -/
theorem lam_makeR {Tb : List (Addr × Str)} {c P : Addr} {params : Arguments} {body : Expr} {scope : Scope} {pos : Pos} {E : Value → Shared → Prop} {Q : Value → Shared → Prop} (I : Inv X pins σ H s) (TB : TabB X.base X.mg c P) (hcode : X.env.code = .ref c)
    (hm : (P, X.env.qual ++ "<lambda>") ∈ Tb) (hu : ∀ p ∈ Tb, p.1 = P → p.2 = X.env.qual ++ "<lambda>") (hT : Tabs Tb H) (hdef : defaultsOf params X.env = ([], [])) (hfree : ∀ y ∈ scope.names, y.2 = .free → ∃ c, X.env.cells.lookup y.1 = some c)
    (h : ∀ (f c' : Addr) (pm ctv : Value) (H1 : Hp) (s' : Shared), Inv X pins σ H1 s' → (∀ b o, b ≠ P → H b = some o → H1 b = some o) → Tabs Tb H1 →
      s'.heap.get? f = some (PySem.W.kla_obj "<lambda>" (X.env.qual ++ "<lambda>") params body scope (cloFrom X.env.cells scope.names []) pm c' ctv) → H1 f = none → f ∉ frs X.stack → H1 c' = some (CodeO c' (X.env.qual ++ "<lambda>")) → Q (.ref f) s') :
    wpAny (model X.prog X.w) X.A (eval (.Lambda params body scope pos) X.env) Q E s := by
  obtain ⟨ps, hP, ht, ha⟩ := hT _ hm
  refine PySem.W.kla_eval hdef ?_
  have bP : s.heap.BuiltinsAt X.mg P := TB.bm.keeps I.bk
  have hP' : s.heap.get? P = some { cls := .none, data := .fields ps } := I.hok P _ hP
  have nofr : ∀ f, s.heap.objs.size ≤ f → f ∉ frs X.stack := fun f hf z => by
    rcases List.mem_cons.mp (I.stkSub _ z) with e | e
    · have h1 := I.lt
      rw [← e] at h1
      exact Nat.lt_irrefl _ (Nat.lt_of_lt_of_le h1 hf)
    · exact I.nofs hf e
  cases hc : codeAmong pos ps.toList with
  | none =>
    refine PySem.W.kla_makeFunction (mg := X.mg) (c := c) (P := P) (ps := ps) (closure_ok hfree) I.ok.glob (I.mod.glob.keeps I.bk) hcode (TB.code.keeps I.bk) hP' ht hc TB.gP bP fun c' ctv h' tk hx hge hlt hrec htb => ?_
    obtain ⟨c2, oc, vs, t, e2, hoc, hd, hv⟩ := hrec
    cases e2
    have hsz : s.heap.objs.size ≤ h'.objs.size := Nat.le_trans hge (Nat.le_of_lt hlt)
    have nC : H c' = none := I.hok.fresh hge
    have I1 := inv_table (t' := tk) (more := #[rawInt pos.line, rawInt pos.col, .ref c']) (h' := h'.push (PySem.W.kla_obj "<lambda>" (X.env.qual ++ "<lambda>") params body scope (cloFrom X.env.cells scope.names []) ((X.mg "__name__").getD .none) c' ctv)) I hP
      (fun b o hb e => Heap.get?_push_of_some _ (hx b o hb e)) (Heap.get?_push_of_some _ htb) hge ⟨oc, vs, t, Heap.get?_push_of_some _ hoc, hd, hv⟩
    have hE : ∀ b o, b ≠ P → H b = some o → (upd (upd H P (.tbl (ps ++ #[rawInt pos.line, rawInt pos.col, .ref c']))) c' (CodeO c' (X.env.qual ++ "<lambda>"))) b = some o := fun b o hb e => by
      rw [upd_ne (ne_of_none e nC), upd_ne hb]
      exact e
    have hco : ∀ c0, H c0 = some (CodeO c0 (X.env.qual ++ "<lambda>")) → c0 ≠ P := fun c0 e z => by
      rw [z, hP] at e
      exact codeO_ne ps (Option.some.inj e).symm
    have eL : (ps ++ #[rawInt pos.line, rawInt pos.col, .ref c']).toList = ps.toList ++ [rawInt pos.line, rawInt pos.col, .ref c'] := by simp
    refine h h'.objs.size c' ((X.mg "__name__").getD .none) ctv _ _ I1 hE (fun p hp => ?_) (Heap.get?_push_size _ rfl) ?_ (nofr _ hsz) upd_same
    · by_cases hb : p.1 = P
      · rw [hu p hp hb, hb]
        refine ⟨_, by rw [upd_ne (ne_of_none hP nC), upd_same], by rw [eL]; exact PySem.TriplesOk_snoc _ _ _ _ ht, fun p' cv hcv => ?_⟩
        rw [eL] at hcv
        rcases among_app _ ht hcv with z | z
        · obtain ⟨c0, e1, e2⟩ := ha p' cv z
          exact ⟨c0, e1, hE _ _ (hco c0 e2) e2⟩
        · exact ⟨c', z, upd_same⟩
      · obtain ⟨ps', a1, a2, a3⟩ := hT p hp
        refine ⟨ps', by rw [upd_ne (ne_of_none a1 nC), upd_ne hb]; exact a1, a2, fun p' cv hcv => ?_⟩
        obtain ⟨c0, e1, e2⟩ := a3 p' cv hcv
        refine ⟨c0, e1, hE _ _ (fun z => ?_) e2⟩
        rw [z, hP] at e2
        exact codeO_ne ps (Option.some.inj e2).symm
    · have n1 : h'.objs.size ≠ c' := Nat.ne_of_gt hlt
      have n2 : h'.objs.size ≠ P := Nat.ne_of_gt (Nat.lt_of_lt_of_le (Heap.lt_size hP') hsz)
      rw [upd_ne n1, upd_ne n2]
      exact I.hok.fresh hsz
  | some cv =>
    obtain ⟨c', e, hco⟩ := ha pos cv hc
    subst e
    refine PySem.W.kla_makeFunctionHit (mg := X.mg) (c := c) (P := P) (ps := ps) (closure_ok hfree) I.ok.glob (I.mod.glob.keeps I.bk) hcode (TB.code.keeps I.bk) hP' ht hc bP fun ctv h' tk hx hsz => ?_
    have I1 : Inv X pins σ H { s with heap := h'.push (PySem.W.kla_obj "<lambda>" (X.env.qual ++ "<lambda>") params body scope (cloFrom X.env.cells scope.names []) ((X.mg "__name__").getD .none) c' ctv), toks := tk } := I.kept fun b o e => Heap.get?_push_of_some _ (hx b o e)
    exact h h'.objs.size c' ((X.mg "__name__").getD .none) ctv H _ I1 (fun b o _ e => e) hT (Heap.get?_push_size _ rfl) (I.hok.fresh hsz) (nofr _ hsz) hco
/-- x(), in the def that got the lambda: its errors as this place wants them -/
theorem pe_actS {CXg : CXT} {Eg : XK} {Ng : List Str} {qg : Str} {sg : Scope} {g f c' : Addr} {cdg pm ctv : Value} {params : Arguments} {body : Expr} {scope : Scope} {k i : Nat} {a : Str} {pn : List (Addr × Obj)} {xe : Value → Shared → Prop} {W : WX} {tb : XK → TE} {p1 p2 : Pos}
    (I : Inv X pins σ H s) (L : LamS X.env.scope scope) (hf : s.heap.get? f = some (PySem.W.kla_obj "<lambda>" (X.env.qual ++ "<lambda>") params body scope (cloFrom X.env.cells scope.names []) pm c' ctv)) (hfn : H f = none) (hfr : f ∉ frs X.stack)
    (hbind : bindArgs (PySem.W.kla_fn "<lambda>" (X.env.qual ++ "<lambda>") params body scope (cloFrom X.env.cells scope.names []) pm (.ref c') ctv) ⟨[], []⟩ = pure [])
    (tk : Takes ((cxOf CXg X.prog X.w X.K X.mg X.base Ng qg sg g cdg X.A X.stack s H Eg).tr pn xe) W) (hr : Room (k + 1) (X.A.deeper (envOfC qg sg s.heap.objs.size g cdg)))
    (hbody : ∀ (A : Around) (outer : List PySem.Env) (s : Shared) (H : Hp) (E : XK), A.guards = X.A.guards → Room k (A.deeper (lamEnv X scope s.heap.objs.size f c')) → PE (lamCx X A outer s H E scope f c') body (tb E))
    (hN : Ng[i]? = some a) (hv : Vis sg a) (hd : (a == ("__debug__" : Str)) = false) (hcd : (a == ("__classdict__" : Str)) = false) :
    PE ((cxOf CXg X.prog X.w X.K X.mg X.base Ng qg sg g cdg X.A X.stack s H Eg).tr pn xe) (.Call (.Name a p1) [] [] p2)
      (fun σZ HZ Q => σZ[i]? = some (some (.ref f)) ∧ HZ c' = some (CodeO c' (X.env.qual ++ "<lambda>")) ∧ tb (fun cls d H' => W cls d σZ H') σ HZ Q) := by
  refine ⟨fun pinsZ sZ σZ HZ Q IZ h => ?_⟩
  obtain ⟨hs, hc, ht⟩ := h
  refine wpAny_Call_Name_kw (thn ((pe_var (pos := p1) (i := i) hN hv hd hcd).run pinsZ sZ σZ HZ (fun v H1 => v = .ref f ∧ H1 = HZ) IZ ⟨.ref f, hs, rfl, rfl⟩) fun u s1 ⟨v, H1, I1, r1, q1⟩ => ?_)
  obtain ⟨ev, eH⟩ := q1
  subst ev
  rw [eH] at I1
  obtain rfl : u = Value.ref f := r1
  have of1 : s1.heap.get? f = some (PySem.W.kla_obj "<lambda>" (X.env.qual ++ "<lambda>") params body scope (cloFrom X.env.cells scope.names []) pm c' ctv) := I1.base.keep f _ hf hfn hfr (fun z => nomatch (show f ∈ ([] : List Addr) from z))
  refine PySem.W.callWith_F0 ⟨_, _, _, _, of1⟩ ?_
  have un : Un (frs X.stack) [] H HZ s.heap s1.heap := I1.base
  obtain ⟨⟨oc, vs, t, hoc, hdc, hvc⟩, _, _⟩ := I1.hok c' _ hc
  have rc : codeAny (model X.prog X.w) (X.A.deeper (envOfC qg sg s.heap.objs.size g cdg)) (.call (.ref f) ⟨[], []⟩) (CR (L2.CX X.prog X.w) (envOfC qg sg s.heap.objs.size g cdg :: X.stack) X.prog X.w HZ s1 Q (fun cls d H' => W cls d σZ H')) s1 := by
    refine PySem.W.kla_callFunE hr.depth of1 rfl L.co L.gen rfl ⟨c', oc, vs, t, rfl, hoc, hdc, hvc⟩ ?_
    rw [hbind]
    refine wpAny_pure (wpAny_newFunctionEnv (fun y hy => (L.own y hy).2) (fun y hy => absurd hy (by simp)) (fun h₁ hns hsb => ⟨I1.nolimit.fresh _ hsb, ?_⟩) L.kind)
    show codeAny _ _ (.expr body (lamEnv X scope s1.heap.objs.size f c')) _ _
    have kp : ∀ b o, s1.heap.get? b = some o → h₁.get? b = some o := fun b o e => hsb.extBut b o (Nat.ne_of_lt (Heap.lt_size e)) (Heap.get?_push_of_some _ e)
    have J : Inv (lamCx X (X.A.deeper (envOfC qg sg s.heap.objs.size g cdg)) (envOfC qg sg s.heap.objs.size g cdg :: X.stack) s1 HZ (fun cls d H' => W cls d σZ H') scope f c') [] σ HZ { s1 with heap := h₁, toks := s1.toks + ([] : List (Str × Value)).length } :=
      lam_start2 I L I1.env0 hr.hd un hns kp
    refine PySem.W.kla_codeExpr (wpAny_mono ((hbody (X.A.deeper (envOfC qg sg s.heap.objs.size g cdg)) _ s1 HZ _ rfl (hr.deeper _)).run [] _ _ HZ Q J ht) (fun v s' hq => ?_) fun e s' hq => hq)
    obtain ⟨w', H', J', rv, q⟩ := hq
    exact ⟨w', H', J'.os, J'.bare, J'.base, J'.hok, rv, q⟩
  have hx : PassesAt (L2.CX X.prog X.w) ((cxOf CXg X.prog X.w X.K X.mg X.base Ng qg sg g cdg X.A X.stack s H Eg).tr pn xe) σZ (fun cls d H' => W cls d σZ H') := passAt tk σZ
  refine wpAny_call (codeAny_mono rc fun r s' hq => ?_)
  cases r with
  | error e => exact hx pinsZ HZ s1 e s' I1 hq
  | ok fl =>
    cases fl with
    | ret u => exact I1.after hq
    | next => exact False.elim hq
    | brk => exact False.elim hq
    | cont => exact False.elim hq
end
/-- the law of a frame that got the lambda at f -/
def Lw.amb (L : Lw) (f : Addr) : Lw := { L with am := f }
theorem shL_get : ∀ {l : List (Option Cell)} {i : Nat} {c : Cell}, (shL l)[i]? = some (some c) → l[i]? = some (some c) ∧ ∀ ds, c ≠ .ow ds
  | [], i, c, h => by simp [shL] at h
  | x :: r, 0, c, h => by
    cases x with
    | none => simp [shL] at h
    | some y => cases y <;> simp_all [shL] <;> (subst h; exact fun _ z => by cases z)
  | x :: r, i + 1, c, h => by
    have e : shL (x :: r) = (shL [x]) ++ shL r := by
      cases x with
      | none => rfl
      | some y => cases y <;> rfl
    have l : (shL [x]).length = 1 := by
      cases x with
      | none => rfl
      | some y => cases y <;> rfl
    rw [e, List.getElem?_append_right (by omega), l] at h
    exact shL_get (l := r) (i := i) (by simpa using h)
theorem shL_len : ∀ l : List (Option Cell), (shL l).length = l.length
  | [] => rfl
  | x :: r => by
    have : (shL (x :: r)).length = (shL r).length + 1 := by
      cases x with
      | none => rfl
      | some y => cases y <;> rfl
    rw [this, shL_len r]
    rfl
theorem Sl.shared_get {st : Sl} {i : Nat} {c : Cell} (h : (Sl.shared st).cs[i]? = some (some c)) : st.cs[i]? = some (some c) ∧ ∀ ds, c ≠ .ow ds := shL_get h
theorem Sl.shared_len (st : Sl) : (Sl.shared st).length = st.length := shL_len st.cs
theorem Sl.shared_own {σ : Sg} {st : Sl} {a : Addr} : ¬ Owns σ (Sl.shared st) a := fun ⟨i, ds, e, _⟩ => (Sl.shared_get e).2 ds rfl
theorem RelS.shared {K : PySem.W.Frag} {L : Lw} {B H : Hp} {σ : Sg} {st : Sl} (r : RelS K L B H σ st) (k0 : L.ok 0 H) : RelS K L B H σ (Sl.shared st) :=
  ⟨r.ext, k0, by rw [Sl.shared_len]; exact r.len, fun i c e => r.slot i c (Sl.shared_get e).1, fun a h => (Sl.shared_own h).elim, fun i j ds es a e _ _ _ => ((Sl.shared_get e).2 ds rfl).elim⟩
/-- the lambda's answer, as the def that got it reads it -/
def amOf (G : Env) (ie : IE) (st : Sl) : T Cell := (ev G ie (Sl.shared st)).bind fun p => (T.opt p.1.fz.sh?).bind fun d => .ok (.sh d)
/-- how the def that gets a lambda keeps its word -/
def CalleeOk (X : Cx) (R : Rc) (x : Str) (Ng : List Str) (sg : Scope) (g : Addr) (cdv : Value) (bg : List Stmt) (cl' : Nat → List Cell → Nat → T (Cell × Nat)) (cm' : Nat → T Cell → T Cell) (gl : List D) (fuel : Nat) (cmf : T Cell → T Cell) (k : Nat) : Prop :=
  ∀ (fa : Addr) (am : T Cell) (s' : Shared) (H1 : Hp) (Q : VK) (E : XK), Room (k + 1) (X.A.deeper (envOfC x sg s'.heap.objs.size g cdv)) → R.L.ok 0 H1 →
    (∀ (pn : List (Addr × Obj)) (xe : Value → Shared → Prop) (W : WX), Takes ((cxOf (L2.CX X.prog X.w) X.prog X.w X.K X.mg X.base Ng x sg g cdv X.A X.stack s' H1 E).tr pn xe) W → ∀ (i : Nat) (n : Str) (p1 p2 : Pos), Ng[i]? = some n → Vis sg n → (n == ("__debug__" : Str)) = false → (n == ("__classdict__" : Str)) = false →
      PE ((cxOf (L2.CX X.prog X.w) X.prog X.w X.K X.mg X.base Ng x sg g cdv X.A X.stack s' H1 E).tr pn xe) (.Call (.Name n p1) [] [] p2) (Rd X.K ⟨R.L.amb fa, H1, R.xi, W⟩ (ev ⟨cl', cm', am, gl, fuel⟩ (.act i)))) →
    (cmf am).All (fun c => ∀ v H', Ext R.L H1 H' → R.L.ok 0 H' → RepV X.K (R.L.amb fa) H' v c → OwnN H1 v c → Q v H') (fun _ _ _ => False) →
    ∃ t, PSs (cxOf (L2.CX X.prog X.w) X.prog X.w X.K X.mg X.base Ng x sg g cdv X.A X.stack s' H1 E) bg t ∧ t { nx := fun _ H' => Q .non H', rt := Q } (L2.start Ng [.ref fa]) H1
section
variable {X : Cx} {R : Rc} {G : Env}
/-- x(lambda: body) -/
theorem pe_lamR {x a : Str} {g c P : Addr} {k f : Nat} {pg : Arguments} {bg : List Stmt} {sg : Scope} {dV kV doc pm cdv ct oc : Value} {an od : Option Addr} {osl : Array (Option Value)} {Ng : List Str}
    {params : Arguments} {body : Expr} {scope : Scope} {ie : IE} {p lpos pos : Pos} {cl' : Nat → List Cell → Nat → T (Cell × Nat)} {cm' : Nat → T Cell → T Cell} {gl : List D} {fuel : Nat} (tk : Takes X R.W) (hg : Gl X x) (hm : X.mg x = some (.ref g)) (hk : PySem.W.keepIn X.K (.ref g) = true)
    (lk : X.K.lookup g = some ⟨oc, od, .func (PySem.W.fnOf x x pg bg sg dV kV doc pm an cdv ct), osl⟩) (hcg : PySem.W.codeIn X.K cdv x = true) (hb : L2.Binds X.K (PySem.W.fnOf x x pg bg sg dV kV doc pm an cdv ct) [a] []) (Sg : FnScope Ng [a] sg)
    (hG : ∀ m, CalleeOk X ⟨R.L.shift m, R.B, R.xi, R.W⟩ x Ng sg g cdv bg cl' cm' gl fuel (G.cm f) k)
    (TB : TabB X.base X.mg c P) (hcode : X.env.code = .ref c) (hmT : (P, X.env.qual ++ "<lambda>") ∈ R.L.T) (hu : ∀ p ∈ R.L.T, p.1 = P → p.2 = X.env.qual ++ "<lambda>") (hr : Room (k + 2) X.A) (L : LamS X.env.scope scope) (hdef : defaultsOf params X.env = ([], []))
    (hbind : ∀ (q : Str) (cl : List (Str × Addr)) (pm cv ctv : Value), bindArgs (PySem.W.kla_fn "<lambda>" q params body scope cl pm cv ctv) ⟨[], []⟩ = pure [])
    (hbody : ∀ (m : Nat) (A : Around) (outer : List PySem.Env) (s : Shared) (H : Hp) (E : XK) (f c' : Addr), A.guards = X.A.guards → Room k (A.deeper (lamEnv X scope s.heap.objs.size f c')) → PE (lamCx X A outer s H E scope f c') body (Rd X.K ⟨R.L.shift m, R.B, R.xi, fun cls d _ H => E cls d H⟩ (ev G ie)))
    (hdb : (x == ("__debug__" : Str)) = false) :
    PE X (.Call (.Name x p) [.Lambda params body scope lpos] [] pos) (Rd X.K R (ev G (.lam f ie))) := by
  refine ⟨fun pins s σ H Q I h => ?_⟩
  obtain ⟨st, hr0, q⟩ := h
  unfold ev at q
  have qa : (G.cm f (amOf G ie st)).All _ (fun _ _ _ => False) := T.all_noex _ (T.all_bind _ q)
  refine wpAny_Call_Name_kw (ld_glob I hg hm ?_ hdb)
  refine PySem.W.callWith_K (h₀ := X.base) I.ok.mod.kin hk ?_ (by rfl) (by rfl)
  show wpAny _ _ (spliced ((false, eval (.Lambda params body scope lpos) X.env) :: backTo pos (starEach [] X.env))) _ _ s
  refine Calls.spliced_cons (lam_makeR I TB hcode hmT hu (R.L.tabs _ H hr0.law) hdef (L.has I.ok) fun fa c' pm' ctv H1 s' I1 eP T1 hf hfn hfr hco => ?_)
  refine Calls.spliced_nil ⟨I1.kIn, ?_⟩
  have k1 : R.L.ok st.n H1 := R.L.tabk _ H H1 _ hr0.law hmT eP T1
  have e1 : Ext R.L H H1 := fun b o e n => eP b o (fun z => n (by rw [z]; exact R.L.tA _ hmT)) e
  have r1 : RelS X.K R.L R.B H1 σ st := ext_rel hr0 e1 k1
  have s1 : Stp R.L σ st st H H1 := ext_stp e1 hr0.law k1
  have rc : codeAny (model X.prog X.w) X.A (.call (.ref g) ⟨[.ref fa], []⟩) (CR (L2.CX X.prog X.w) X.stack X.prog X.w H1 s' Q (WE R.W σ)) s' := by
    refine run_ofS (N := Ng) (ps := [a]) (us := [.ref fa]) (vs := [.ref fa]) lk hcg Sg hr I1.env0 (hb s' [.ref fa] I1.kIn rfl) (.cons rfl .nil) rfl fun hr' => ?_
    refine hG st.n fa (amOf G ie st) s' H1 Q (WE R.W σ) hr' k1 (fun pn xe W tkW i n p1 p2 hN hv hd hcd => ?_) (T.all_mono (fun cv hp v H' e2 k2 rv ow => ?_) (fun _ _ _ h => h) _ qa)
    · refine PE.imp (pe_actS (tb := fun E => RdF X.K ⟨R.L.shift st.n, R.B, R.xi, fun cls d _ H => E cls d H⟩ (ev G ie)) I1 L hf hfn hfr (hbind _ _ _ _ _) tkW hr' (fun A outer s H E gu hr2 => pe_fz (hbody st.n A outer s H E fa c' gu hr2)) hN hv hd hcd) fun σZ HZ QZ hZ => ?_
      obtain ⟨stZ, rZ, qZ⟩ := hZ
      unfold ev at qZ
      obtain ⟨u, eu, qZ⟩ := T.all_none qZ
      obtain ⟨cz, ez1, ez2⟩ := opt_bind eu
      obtain ⟨vz, es, rvz⟩ := rZ.slot i cz (slot_some ez1)
      have ec : cz = .amb := by cases cz <;> first | rfl | cases ez2
      subst ec
      have rvz : vz = .ref fa := rvz
      subst rvz
      have eZ : Ext R.L H1 HZ := rZ.ext
      have kZ : (R.L.shift st.n).ok 0 HZ := (R.L.shift st.n).mono _ _ _ rZ.law (Nat.zero_le _)
      refine ⟨es, eZ c' _ hco (fun z => ?_), Sl.shared st, (ext_rel (L := R.L.shift st.n) (m := 0) (st := st.spent 0) ⟨r1.ext, k1, r1.len, r1.slot, r1.own, r1.dist⟩ eZ kZ).shared kZ, ?_⟩
      · obtain ⟨o, e3, n3⟩ := R.L.there _ H1 c' k1 z
        rw [hco] at e3
        cases e3
        exact n3 trivial
      · have qb := T.all_at _ (T.all_bind _ qZ)
        have qc := T.all_bind _ qb
        have toE : ∀ {st' : Sl} {H' : Hp}, Stp (R.L.shift st.n) σ (Sl.shared st) st' HZ H' → Ext (R.L.shift st.n) HZ H' := fun {st' H'} s3 b o e n => s3.fr b o e n Sl.shared_own
        refine T.all_mono (fun pr hp v H' s3 r3 rv => ?_) (fun x as st' he cls d H' s3 r3 ex => ?_) _ qc
        · obtain ⟨d, e4, h4⟩ := T.all_none hp
          rw [sh_some e4] at rv
          have z0 := (R.L.shift st.n).mono _ 0 _ r3.law (Nat.zero_le _)
          exact h4 v H' (ext_stp (toE s3) kZ z0) (ext_rel rZ (toE s3) z0) rv trivial
        · exact he cls d H' (ext_stp (toE s3) kZ r3.law) (ext_rel rZ (toE s3) r3.law) ex
    · obtain ⟨c2, e3, h3⟩ := T.all_none hp
      have ec : c2 = cv := by cases cv <;> first | (cases e3; rfl) | cases e3
      subst ec
      refine h3 v H' (s1.trans (ext_stp e2 k1 k2)) (ext_rel r1 e2 k2) (by cases c2 <;> first | exact rv | cases e3) ?_
      cases c2 with
      | ow ds => exact fun b e4 => ⟨s1.none (ow b e4), r1.freeA (ow b e4)⟩
      | _ => trivial
  refine wpAny_call (codeAny_mono rc fun r s2 hq => ?_)
  cases r with
  | error e => exact passAt tk σ pins H1 s' e s2 I1 hq
  | ok fl =>
    cases fl with
    | ret u => exact I1.after hq
    | next => exact False.elim hq
    | brk => exact False.elim hq
    | cont => exact False.elim hq
end
end Rf
set_option Elab.async false
set_option linter.all false
set_option maxRecDepth 100000
set_option maxHeartbeats 1000000
/-! Rf26: repr(a) == repr(b). -/
namespace Rf
open PySem PySem.Spec PyProof.Rows
open L2 hiding St

def rRepr (K : PySem.W.Frag) : List V → Hp → VK → Prop := fun vs H Q => ∃ v d, vs = [v] ∧ Dp K H v d ∧ showOk d = true ∧ Q (.str d.shown) H
theorem showOk_ok {d : PyData} (h : showOk d = true) : (∀ v K H u, Dp K H v d → RelV v u → ∃ a, u = .ref a) ∧ d.showable = true ∧ d.hasDict = false ∧ d.depth ≤ 60 ∧ d.shown.length ≤ sizeLine := by
  unfold showOk at h
  simp only [Bool.and_eq_true, Bool.not_eq_true', decide_eq_true_eq] at h
  obtain ⟨⟨⟨⟨h1, h2⟩, h3⟩, h4⟩, h5⟩ := h
  refine ⟨fun v K H u dp r => ?_, h2, h3, h4, by rw [← line_eq]; exact h5⟩
  cases d with
  | list ds =>
    cases dp
    cases r
    exact ⟨_, rfl⟩
  | tuple ds =>
    cases dp
    cases r
    exact ⟨_, rfl⟩
  | _ => cases h1
section
variable {X : Cx} {R : Rc} {G : Env}
theorem call_reprR (gu : X.A.guards = some []) (hu : X.A.units + 65 < cLine) : CallR X (.builtin "repr") (rRepr X.K) := by
  intro pins s σ H xs us Q I r h
  obtain ⟨v, d, rfl, dp, ok, q⟩ := h
  obtain ⟨u, rfl, rv⟩ := vals1 r
  obtain ⟨k1, k2, k3, k4, k5⟩ := showOk_ok ok
  obtain ⟨a, rfl⟩ := k1 v _ _ u dp rv
  obtain ⟨as, rd⟩ := Dp.reads I d v _ dp rv
  exact repr_of_reads' rd k2 (fun z => by rw [k3] at z; cases z) gu (by omega) (fun b o e => e) (fun h' u tk hk => ⟨.str d.shown, H, I.kept hk, ⟨u, rfl⟩, q⟩) k5
theorem req_read {K : PySem.W.Frag} {i j : Nat} {σ : Sg} {st : Sl} {H : Hp} {b : Bool} {c d : Cell} {Q : VK} (hr : RelS K R.L R.B H σ st) (e1 : slot? st i = some c) (e2 : slot? st j = some d) (e3 : reqOf c d = some b) (q : Q (.bl b) H) :
    tOp rEq (tCB (rRepr K) (tCons (tVar i) tNil)) (tCB (rRepr K) (tCons (tVar j) tNil)) σ H Q := by
  obtain ⟨v, hs, rv⟩ := hr.slot i c (slot_some e1)
  obtain ⟨v2, hs2, rv2⟩ := hr.slot j d (slot_some e2)
  unfold reqOf at e3
  cases h1 : c.d? with
  | none => rw [h1] at e3; cases e3
  | some x =>
    cases h2 : d.d? with
    | none => rw [h1, h2] at e3; cases e3
    | some y =>
      rw [h1, h2] at e3
      dsimp only at e3
      split at e3
      · rename_i hz
        cases e3
        rw [Bool.and_eq_true] at hz
        refine ⟨v, hs, v, x, rfl, rv.dp h1, hz.1, v2, hs2, v2, y, rfl, rv2.dp h2, hz.2, rfl, ?_⟩
        rw [show decide (V.str x.shown = V.str y.shown) = decide (x.shown = y.shown) from by rw [Bool.eq_iff_iff]; simp]
        exact q
      · cases e3
theorem pe_reqR {i j : Nat} {n m : Str} {p1 p2 p3 p4 p5 p6 pos : Pos} (gu : X.A.guards = some []) (hu : X.A.units + 65 < cLine) (hg : Gl X "repr") (hm : X.mg "repr" = none)
    (hN : X.N[i]? = some n) (hv : Vis X.env.scope n) (hd : (n == ("__debug__" : Str)) = false) (hcd : (n == ("__classdict__" : Str)) = false)
    (hN2 : X.N[j]? = some m) (hv2 : Vis X.env.scope m) (hd2 : (m == ("__debug__" : Str)) = false) (hcd2 : (m == ("__classdict__" : Str)) = false) :
    PE X (.Compare (.Call (.Name "repr" p1) [.Name n p2] [] p3) [.Eq] [.Call (.Name "repr" p4) [.Name m p5] [] p6] pos) (Rd X.K R (ev G (.req i j))) ∧ PT X (.Compare (.Call (.Name "repr" p1) [.Name n p2] [] p3) [.Eq] [.Call (.Name "repr" p4) [.Name m p5] [] p6] pos) (RdT X.K R (ev G (.req i j))) := by
  have c1 := pe_callB (pos := p3) (p := p1) (call_reprR gu hu) hg hm (by decide +kernel) (pa_cons (pe_var (pos := p2) hN hv hd hcd) pa_nil (by rfl))
  have c2 := pe_callB (pos := p6) (p := p4) (call_reprR gu hu) hg hm (by decide +kernel) (pa_cons (pe_var (pos := p5) hN2 hv2 hd2 hcd2) pa_nil (by rfl))
  refine ⟨PE.imp (pe_cmpR (pos := pos) op_eq c1 c2 (by rfl)) fun σ H Q ⟨st, hr, q⟩ => ?_, PT.imp (pt_cmpR (pos := pos) op_eq c1 c2 (by rfl)) fun σ H Q ⟨st, hr, q⟩ => ?_⟩
  · unfold ev at q
    obtain ⟨c, e1, q⟩ := T.all_none q
    obtain ⟨d, e2, q⟩ := T.all_none q
    obtain ⟨b, e3, q⟩ := T.all_none q
    exact req_read hr e1 e2 e3 (q (.bl _) H Stp.refl hr (.bl _) trivial)
  · unfold ev at q
    simp only [T.bind_assoc, T.bind_ok, bool_sh, T.opt_some] at q
    obtain ⟨c, e1, q⟩ := T.all_none q
    obtain ⟨d, e2, q⟩ := T.all_none q
    obtain ⟨b, e3, q⟩ := T.all_none q
    exact req_read hr e1 e2 e3 ⟨_, rfl, q H Stp.refl hr⟩
/-! ### join -/
theorem strs_ok {K : PySem.W.Frag} {H : Hp} : ∀ {ds : List PyData} {vs : List V} {ys : List Str}, DFs K H vs ds → strs? ds = some ys → vs = ys.map V.str
  | [], _, ys, g, e => by
    cases g
    cases e
    rfl
  | d :: ds, _, ys, g, e => by
    cases g with
    | cons g1 g2 =>
      cases d with
      | str x =>
        unfold strs? at e
        cases q : strs? ds with
        | none => rw [q] at e; cases e
        | some zs =>
          rw [q] at e
          cases e
          cases g1
          rw [strs_ok g2 q]
          rfl
      | _ => cases e
theorem pe_joinR {sep : Str} {j : Nat} {x : Expr} {a : IE} {p1 apos pos : Pos} (ha : PE X x (RdP X.K R G a)) (hs : starEach [x] X.env = [(false, eval x X.env)]) (hline : (apos.endLine == pos.line) = true) :
    PE X (.Call (.Attribute (.Constant (.str sep) j p1) "join" apos) [x] [] pos) (Rd X.K R (ev G (.join sep a))) := PE.imp (pe_join (pe_str (x := sep)) ha hs (by rfl) hline) fun σ H Q ⟨st, hr, q⟩ => by
  unfold ev at q
  refine ⟨⟨sep, rfl⟩, ?_⟩
  refine rdP_bind hr q fun p v H1 s1 r1 k1 h1 => ?_
  obtain ⟨ds, e1, h1⟩ := T.all_none h1
  obtain ⟨ys, e2, h1⟩ := T.all_none h1
  have rv := kept_rep k1 r1
  obtain ⟨b, xs, rfl, hq, g⟩ := rv.items e1
  have e3 := strs_ok g e2
  subst e3
  split at h1
  · rename_i hz
    refine ⟨sep, b, ys, rfl, rfl, hq, hz, ?_⟩
    rw [TL.join_eq]
    exact h1 (.str _) H1 s1 r1 (.str _) trivial
  · exact h1.elim
end
end Rf
set_option Elab.async false
set_option linter.all false
set_option maxRecDepth 100000
set_option maxHeartbeats 1000000
namespace RfX
open PySem PySem.Spec PyProof.Rows
open L2 hiding St
/-- the names may stand as keywords behind these slots -/
def KwOk (ps : List Str) : List (Str × Value) → List (Str × Value) → Prop
  | _, [] => True
  | sl, (k, v) :: r => ps.contains k = true ∧ (sl.lookup k).isSome = false ∧ KwOk ps (sl ++ [(k, v)]) r
theorem kw_loop {ps : List Str} {f : Str × Value → List (Str × Value) × List (Str × Value) → Sem (ForInStep (List (Str × Value) × List (Str × Value)))} (hf : ∀ k v sl, ps.contains k = true → (sl.lookup k).isSome = false → f (k, v) (sl, []) = pure (.yield (sl ++ [(k, v)], []))) :
    ∀ (kw sl : List (Str × Value)), KwOk ps sl kw → forIn kw ((sl, []) : List (Str × Value) × List (Str × Value)) f = pure (sl ++ kw, [])
  | [], sl, _ => by simp
  | (k, v) :: r, sl, ⟨h1, h2, h3⟩ => by
    rw [List.forIn_cons, hf k v sl h1 h2, pure_bind]
    show forIn r _ f = _
    rw [kw_loop hf r _ h3, List.append_assoc]
    rfl
theorem bind_kw {fd : FuncData} {ps : List Str} (h : PlainPar fd ps) (us vs : List Value) (kw : List (Str × Value)) (hu : us.length ≤ ps.length) (hk : KwOk ps (ps.zip us) kw) (hm : ∀ n ∈ ps, ((ps.zip us ++ kw).lookup n).isSome = true)
    (hv : (ps.filterMap fun n => ((ps.zip us ++ kw).lookup n).map (n, ·)) = ps.zip vs) : bindArgs fd ⟨us, kw⟩ = pure (ps.zip vs) := by
  have e1 : (ps.filter fun n => ((ps.zip us ++ kw).lookup n).isNone) = [] := List.filter_eq_nil_iff.mpr fun n hn => by
    have := hm n hn
    cases q : (ps.zip us ++ kw).lookup n with
    | none => rw [q] at this; cases this
    | some x => simp
  have e2 : seqItems? Value.none = pure none := by rfl
  have e3 : (decide (us.length > ps.length)) = false := decide_eq_false (by omega)
  unfold bindArgs
  simp only [h.pos, h.args, h.va, h.ko, h.kw, h.dv, List.map_nil, List.nil_append, List.append_nil]
  rw [kw_loop (ps := ps) (fun k v sl h1 h2 => by rw [if_pos (by rw [h1]; rfl), if_neg (by rw [h2]; exact Bool.false_ne_true)]) kw _ hk]
  simp only [List.forIn_nil, pure_bind, e2, Option.getD_none, e3, Bool.false_and, Bool.false_eq_true, if_false, Array.toList_empty, List.drop_nil, List.length_nil, Nat.sub_zero, List.take_length, e1, List.isEmpty_nil, Bool.not_true, List.drop_length, List.zip_nil_right, hv]
/-- the values in the parameters' order -/
def permV {α : Type} (l : List α) (ks : List Nat) : List α := ks.filterMap fun i => l[i]?
def kwB (ps : List Str) (n : Nat) (kn : List Str) (ks : List Nat) : Bool :=
  decide (n ≤ ps.length) && kn.all (fun k => ps.contains k) && decide ((ps.take n ++ kn).Nodup) && decide (ks.map (fun i => (ps.take n ++ kn)[i]?) = ps.map some)
theorem kw_ok {ps : List Str} : ∀ (kn : List Str) (ws : List Value) (sl : List (Str × Value)), kn.all (fun k => ps.contains k) = true → (sl.map (·.1) ++ kn).Nodup → KwOk ps sl (kn.zip ws)
  | [], _, _, _, _ => by simp [KwOk]
  | _ :: _, [], _, _, _ => by simp [KwOk]
  | k :: kn, w :: ws, sl, h1, h2 => by
    rw [List.all_cons, Bool.and_eq_true] at h1
    have hk : k ∉ sl.map (·.1) := fun z => by
      have := List.nodup_append.mp h2
      exact this.2.2 k z k (List.mem_cons_self ..) rfl
    refine ⟨h1.1, ?_, kw_ok kn ws _ h1.2 (by rw [List.map_append, List.append_assoc]; exact h2)⟩
    cases q : sl.lookup k with
    | none => rfl
    | some v =>
      refine (hk ?_).elim
      obtain ⟨l1, l2, e, _⟩ := List.lookup_eq_some_iff.mp q
      rw [e, List.map_append, List.map_cons]
      exact List.mem_append_right _ (List.mem_cons_self ..)
theorem zip_pre {β : Type} : ∀ (ps : List Str) (us : List β), ps.zip us = (ps.take us.length).zip us
  | [], us => by simp
  | p :: ps, [] => by simp
  | p :: ps, u :: us => by
    rw [List.length_cons, List.take_succ_cons, List.zip_cons_cons, List.zip_cons_cons, zip_pre ps us]
theorem look_at {β : Type} : ∀ {ns : List Str} {vs : List β} {i : Nat} {p : Str} {v : β}, ns.Nodup → ns[i]? = some p → vs[i]? = some v → (ns.zip vs).lookup p = some v
  | [], _, i, p, v, _, h, _ => by simp at h
  | _ :: _, [], i, p, v, _, _, h => by simp at h
  | n :: ns, w :: vs, 0, p, v, _, h1, h2 => by
    simp at h1 h2
    subst h1 h2
    rw [List.zip_cons_cons, List.lookup_cons, beq_self_eq_true]
  | n :: ns, w :: vs, i + 1, p, v, nd, h1, h2 => by
    have h1 : ns[i]? = some p := by simpa using h1
    have h2 : vs[i]? = some v := by simpa using h2
    obtain ⟨a, b⟩ := List.nodup_cons.mp nd
    have ne : (p == n) = false := beq_eq_false_iff_ne.mpr fun z => a (by rw [← z]; exact List.mem_of_getElem? h1)
    rw [List.zip_cons_cons, List.lookup_cons, ne]
    exact look_at b h1 h2
theorem perm_zip {names : List Str} {vals : List Value} (nd : names.Nodup) (hl : names.length = vals.length) : ∀ (ps : List Str) (ks : List Nat), ks.map (fun i => names[i]?) = ps.map some →
    (∀ p ∈ ps, ((names.zip vals).lookup p).isSome = true) ∧ (ps.filterMap fun n => ((names.zip vals).lookup n).map (n, ·)) = ps.zip (permV vals ks) ∧ (permV vals ks).length = ps.length
  | [], [], _ => ⟨fun p hp => (List.not_mem_nil hp).elim, rfl, rfl⟩
  | [], _ :: _, h => by simp at h
  | _ :: _, [], h => by simp at h
  | p :: ps, i :: ks, h => by
    rw [List.map_cons, List.map_cons] at h
    obtain ⟨h1, h2⟩ := List.cons.inj h
    obtain ⟨a, b, c⟩ := perm_zip nd hl ps ks h2
    have hi : i < vals.length := by
      rw [← hl]
      exact (List.getElem?_eq_some_iff.mp h1).1
    have e : vals[i]? = some vals[i] := List.getElem?_eq_getElem hi
    have lk := look_at nd h1 e
    have ep : permV vals (i :: ks) = vals[i] :: permV vals ks := by
      unfold permV
      rw [List.filterMap_cons, e]
    refine ⟨fun q hq => ?_, ?_, by rw [ep, List.length_cons, List.length_cons, c]⟩
    · rcases List.mem_cons.mp hq with rfl | hq
      · rw [lk]; rfl
      · exact a q hq
    · rw [List.filterMap_cons, lk, ep, List.zip_cons_cons, ← b]
      rfl
theorem names_bind {fd : FuncData} {ps : List Str} (h : PlainPar fd ps) {n : Nat} {kn : List Str} {ks : List Nat} (ck : kwB ps n kn ks = true) (us ws : List Value) (hu : us.length = n) (hw : ws.length = kn.length) :
    bindArgs fd ⟨us, kn.zip ws⟩ = pure (ps.zip (permV (us ++ ws) ks)) ∧ (permV (us ++ ws) ks).length = ps.length := by
  unfold kwB at ck
  simp only [Bool.and_eq_true, decide_eq_true_eq] at ck
  obtain ⟨⟨⟨c1, c2⟩, c3⟩, c4⟩ := ck
  subst hu
  have ez : ps.zip us ++ kn.zip ws = (ps.take us.length ++ kn).zip (us ++ ws) := by
    rw [zip_pre, List.zip_append (by rw [List.length_take]; omega)]
  have hl : (ps.take us.length ++ kn).length = (us ++ ws).length := by rw [List.length_append, List.length_append, List.length_take, hw]; omega
  obtain ⟨a, b, c⟩ := perm_zip c3 hl ps ks c4
  refine ⟨bind_kw h us _ _ c1 (kw_ok kn ws _ c2 ?_) (by rw [ez]; exact a) (by rw [ez]; exact b), c⟩
  rw [zip_pre, List.map_fst_zip (by rw [List.length_take]; omega)]
  exact c3
end RfX
set_option Elab.async false
set_option linter.all false
set_option maxRecDepth 100000
set_option maxHeartbeats 1000000
/-! Rf28: calls with keywords. -/
namespace Rf
open PySem PySem.Spec PyProof.Rows
open L2 hiding St

theorem NoOw.tail {c : Cell} {cs : List Cell} (n : NoOw (c :: cs)) : NoOw cs := fun b hb => n b (List.mem_cons_of_mem _ hb)
theorem Reps.imm {K : PySem.W.Frag} {L : Lw} {H H' : Hp} (i : Imm H H') : ∀ {cs : List Cell} {vs : List V}, NoOw cs → Reps K L H vs cs → Reps K L H' vs cs
  | [], _, _, h => by cases h; exact .nil
  | c :: cs, _, n, h => by
    cases h with
    | cons h1 h2 =>
      refine .cons ?_ (Reps.imm i n.tail h2)
      cases c with
      | sh d => exact DF.imm i d _ h1
      | ow ds => exact (n _ (List.mem_cons_self ..) ds rfl).elim
      | st => exact h1
      | amb => exact h1
theorem Reps.append {K : PySem.W.Frag} {L : Lw} {H : Hp} : ∀ {cs ds : List Cell} {vs us : List V}, Reps K L H vs cs → Reps K L H us ds → Reps K L H (vs ++ us) (cs ++ ds)
  | [], _, _, _, h, g => by cases h; exact g
  | _ :: cs, _, _, _, h, g => by
    cases h with
    | cons h1 h2 => exact .cons h1 (Reps.append h2 g)
theorem Reps.at {K : PySem.W.Frag} {L : Lw} {H : Hp} : ∀ {vs : List V} {cs : List Cell} {i : Nat} {c : Cell}, Reps K L H vs cs → cs[i]? = some c → ∃ v, vs[i]? = some v ∧ RepV K L H v c
  | _, _, i, c, .nil, h => by simp at h
  | _, _, 0, c, .cons r _, h => by
    simp at h
    subst h
    exact ⟨_, rfl, r⟩
  | _, _, i + 1, c, .cons _ rs, h => by
    obtain ⟨v, e, r⟩ := Reps.at rs (i := i) (by simpa using h)
    exact ⟨v, by simpa using e, r⟩
theorem Reps.perm {K : PySem.W.Frag} {L : Lw} {H : Hp} {vs : List V} {cs : List Cell} (r : Reps K L H vs cs) (n : NoOw cs) : ∀ (ks : List Nat) {cs' : List Cell}, permC cs ks = some cs' → Reps K L H (RfX.permV vs ks) cs' ∧ NoOw cs'
  | [], cs', e => by
    cases e
    exact ⟨.nil, fun c hc => (List.not_mem_nil hc).elim⟩
  | i :: ks, cs', e => by
    unfold permC at e
    cases h1 : cs[i]? with
    | none => rw [h1] at e; cases e
    | some c =>
      cases h2 : permC cs ks with
      | none => rw [h1, h2] at e; cases e
      | some r2 =>
        rw [h1, h2] at e
        cases e
        obtain ⟨v, ev, rv⟩ := r.at h1
        obtain ⟨a, b⟩ := r.perm n ks h2
        have ep : RfX.permV vs (i :: ks) = v :: RfX.permV vs ks := by
          unfold RfX.permV
          rw [List.filterMap_cons, ev]
        rw [ep]
        refine ⟨.cons rv a, fun c' hc => ?_⟩
        rcases List.mem_cons.mp hc with rfl | hc
        · exact n _ (List.mem_of_getElem? h1)
        · exact b c' hc
theorem vals_get : ∀ {vs : List V} {us : List Value} {i : Nat}, Vals vs us → (∀ v, vs[i]? = some v → ∃ u, us[i]? = some u ∧ RelV v u) ∧ (vs[i]? = none → us[i]? = none)
  | _, _, i, .nil => ⟨fun v h => by simp at h, fun _ => by simp⟩
  | _, _, 0, .cons h _ => ⟨fun v e => by simp at e; subst e; exact ⟨_, rfl, h⟩, fun e => by simp at e⟩
  | _, _, i + 1, .cons _ h => by
    obtain ⟨a, b⟩ := vals_get (i := i) h
    exact ⟨fun v e => by simpa using a v (by simpa using e), fun e => by simpa using b (by simpa using e)⟩
theorem vals_perm {vs : List V} {us : List Value} (r : Vals vs us) : ∀ ks : List Nat, Vals (RfX.permV vs ks) (RfX.permV us ks)
  | [] => .nil
  | i :: ks => by
    obtain ⟨a, b⟩ := vals_get (i := i) r
    unfold RfX.permV
    rw [List.filterMap_cons, List.filterMap_cons]
    cases h : vs[i]? with
    | none =>
      rw [b h]
      exact vals_perm r ks
    | some v =>
      obtain ⟨u, e, rv⟩ := a v h
      rw [e]
      exact .cons rv (vals_perm r ks)
section
variable {X : Cx} {R : Rc} {G : Env} {x : Expr} {xs : List Expr} {kws : List Keyword} {a : IE} {as bs : IEs} {pos : Pos}
theorem PK.imp {t t' : TA} (h : PK X kws t) (i : ∀ σ H Q, t' σ H Q → t σ H Q) : PK X kws t' := ⟨fun pos pins s σ H Q I q => h.run pos pins s σ H Q I (i σ H Q q)⟩
theorem pk_nilR : PK X [] (RdC X.K R (evc G .nil)) := PK.imp pk_nil fun σ H Q ⟨st, hr, q⟩ => by
  unfold evc at q
  exact q [] H Stp.refl hr .nil (fun c hc => by cases hc)
theorem pk_consR {nm : Option Str} {kp : Pos} (ha : PE X x (Rd X.K R (ev G a))) (hs : PK X kws (RdC X.K R (evc G as))) : PK X (⟨nm, x, kp⟩ :: kws) (RdC X.K R (evc G (.cons a as))) :=
  PK.imp (pk_cons (pe_fz ha) hs) fun σ H Q ⟨st, hr, q⟩ => by
  unfold evc at q
  refine rdF_bind (k := fun c st1 => (evc G as st1).bind fun q => T.ok (c :: q.1, q.2)) hr q fun c st1 v H1 s1 r1 rv nc h1 => ?_
  refine ⟨st1, r1, T.all_mono (fun p hp vs H' s2 r2 g no => hp (v :: vs) H' (s1.trans s2) r2 (.cons ?_ g) ?_) (fun _ _ _ h => h) _ (T.all_bind _ h1)⟩
  · exact (rv.stp (H0 := H1) (B := R.B) (by cases c <;> first | trivial | exact absurd rfl (nc _)) s2).1
  · intro b hb
    rcases List.mem_cons.mp hb with rfl | hb
    · exact nc
    · exact no b hb
/-- behind the arguments: the call -/
theorem kcall_tail {K : PySem.W.Frag} {f : Nat} {ks : List Nat} {σ : Sg} {st : Sl} {H : Hp} {Q : VK} (hr : RelS K R.L R.B H σ st) (h : (ev G (.kcall f ks as bs) st).All (fun p => ∀ v H', Stp R.L σ st p.2 H H' → RelS K R.L R.B H' σ p.2 → RepV K R.L H' v p.1 → Fresh R.L R.B H σ p.2 v p.1 → Q v H') (EW K R σ st H)) :
    RdC K R (evc G as) σ H fun vs H1 => RdC K R (evc G bs) σ H1 fun zs H2 => vs.length = as.len ∧ zs.length = bs.len ∧ Fp K R.L R.xi (G.cl f) (RfX.permV (vs ++ zs) ks) H2 Q (WE R.W σ) := by
  unfold ev at h
  refine ⟨st, hr, T.all_mono (fun p ⟨hp, l1⟩ vs H1 s1 r1 g no => ?_) (fun _ _ _ h => h) _ (evc_len as st (T.all_bind _ h))⟩
  refine ⟨p.2, r1, T.all_mono (fun q ⟨hq, l2⟩ zs H2 s2 r2 g2 no2 => ?_) (fun _ _ _ h => h) _ (evc_len bs p.2 (all_move s1 (T.all_bind _ hp)))⟩
  refine ⟨by rw [g.length, l1], by rw [g2.length, l2], ?_⟩
  obtain ⟨cs, e, h3⟩ := T.all_none hq
  obtain ⟨g3, no3⟩ := ((g.imm s2.imm no).append g2).perm (fun c hc => by
    rcases List.mem_append.mp hc with hc | hc
    · exact no c hc
    · exact no2 c hc) ks e
  have s12 := s1.trans s2
  refine ⟨cs, q.2.n, r2.law, g3, no3, T.all_mono (fun c hc v H' e k rv ow => ?_) (fun x as _ he cls d H' e k ex => ?_) _ (T.all_at _ (T.all_bind _ h3))⟩
  · have s3 := ext_stp (σ := σ) (st := q.2) e r2.law k
    have r3 := ext_rel r2 e k
    refine hc v H' (s12.trans s3) r3 rv ?_
    obtain ⟨c, m⟩ := c
    cases c with
    | ow ds =>
      intro a e2
      exact ⟨s12.none (ow a e2), r2.freeA (ow a e2)⟩
    | _ => trivial
  · exact he cls d H' (s12.trans (ext_stp e r2.law k)) (ext_rel r2 e k) ex
/-- such a def run, with keywords -/
theorem run_fnGK {W : WX} {pins : List (Addr × Obj)} {σ : Sg} {H : Hp} {s : Shared} {Q : VK} {us ws : List Value} {vs zs : List V} {k : Nat} {fa : Addr} {fd : FuncData} {ps kn : List Str} {ks : List Nat} {sp : Sp} (F : FnG X.prog X.w X.K X.mg X.base k fa fd ps sp) (gu : X.A.guards = some []) (hr : Room k X.A)
    (PP : RfX.PlainPar fd ps) (ck : RfX.kwB ps us.length kn ks = true) (hw : ws.length = kn.length) (tk : Takes X W) (I : Inv X pins σ H s) (r : Vals vs us) (rz : Vals zs ws) (h : sp (RfX.permV (vs ++ zs) ks) H Q (WE W σ)) :
    wpAny (model X.prog X.w) X.A (call (.ref fa) us (kn.zip ws)) (EP X pins σ Q) X.xe s := by
  obtain ⟨b, hl⟩ := RfX.names_bind PP ck us ws rfl hw
  refine wpAny_call (codeAny_mono (F.run X.A X.stack s H ⟨us, kn.zip ws⟩ (RfX.permV (us ++ ws) ks) (RfX.permV (vs ++ zs) ks) Q (WE W σ) gu hr I.env0 (.of_eq b) (vals_perm (r.append rz) ks) h) fun r s' hq => ?_)
  cases r with
  | error e => exact passAt tk σ pins H s e s' I hq
  | ok fl =>
    cases fl with
    | ret u => exact I.after hq
    | next => exact hq.elim
    | brk => exact hq.elim
    | cont => exact hq.elim
theorem kw_each {env : PySem.Env} : ∀ {kws : List Keyword} {kn : List Str}, kws.map (·.arg) = kn.map some → (backToKw pos (keywordEach kws env)).all (·.1.isSome) = true ∧ (backToKw pos (keywordEach kws env)).filterMap (·.1) = kn ∧ (backToKw pos (keywordEach kws env)).any (·.1.isNone) = false
  | [], [], _ => ⟨rfl, rfl, rfl⟩
  | [], _ :: _, h => by simp at h
  | _ :: _, [], h => by simp at h
  | ⟨nm, v, kp⟩ :: kws, k :: kn, h => by
    rw [List.map_cons, List.map_cons] at h
    obtain ⟨h1, h2⟩ := List.cons.inj h
    have h1 : nm = some k := h1
    subst h1
    obtain ⟨a, b, c⟩ := kw_each (env := env) h2
    refine ⟨?_, ?_, ?_⟩
    · show (true && (backToKw pos (keywordEach kws env)).all (·.1.isSome)) = true
      rw [a]; rfl
    · show k :: (backToKw pos (keywordEach kws env)).filterMap (·.1) = k :: kn
      rw [b]
    · show (false || (backToKw pos (keywordEach kws env)).any (·.1.isNone)) = false
      rw [c]; rfl
theorem pe_kcallR {k f : Nat} {fa : Addr} {fd : FuncData} {ps kn : List Str} {ks : List Nat} {n : Str} {p1 : Pos} (tk : Takes X R.W) (F : FnG X.prog X.w X.K X.mg X.base k fa fd ps (Fp X.K R.L R.xi (G.cl f))) (gu : X.A.guards = some []) (hr : Room k X.A) (hg : Gl X n) (hm : X.mg n = some (.ref fa)) (hk : PySem.W.keepIn X.K (.ref fa) = true)
    (PP : RfX.PlainPar fd ps) (ck : RfX.kwB ps as.len kn ks = true) (lb : bs.len = kn.length) (ha : PA X xs (RdC X.K R (evc G as))) (hkw : PK X kws (RdC X.K R (evc G bs))) (hkn : kws.map (·.arg) = kn.map some) (hdb : (n == ("__debug__" : Str)) = false)
    (he : ∀ x r, xs = x :: r → starEach (x :: r) X.env = (false, eval x X.env) :: starEach r X.env) (hpl : (backTo pos (starEach xs X.env)).any (·.1) = false) (h0 : xs = [] → as = .nil) :
    PE X (.Call (.Name n p1) xs kws pos) (Rd X.K R (ev G (.kcall f ks as bs))) := by
  obtain ⟨e1, e2, e3⟩ := kw_each (pos := pos) (env := X.env) hkn
  refine ⟨fun pins s σ H Q I ⟨st, hr', h⟩ => ?_⟩
  refine wpAny_Call_Name_kw (ld_glob I hg hm ?_ hdb)
  have t := kcall_tail hr' h
  have fin : ∀ {s2 : Shared} {H2 : Hp} {vs zs : List V} {us ws : List Value}, Inv X pins σ H2 s2 → Vals vs us → Vals zs ws → (vs.length = as.len ∧ zs.length = bs.len ∧ Fp X.K R.L R.xi (G.cl f) (RfX.permV (vs ++ zs) ks) H2 Q (WE R.W σ)) →
      wpAny (model X.prog X.w) X.A (call (.ref fa) us (kn.zip ws)) (EP X pins σ Q) X.xe s2 := fun I2 r rz ⟨l1, l2, q⟩ =>
    run_fnGK F gu hr PP (by rw [← r.length, l1]; exact ck) (by rw [← rz.length, l2, lb]) tk I2 r rz q
  cases xs with
  | nil =>
    have ea := h0 rfl
    subst ea
    refine PySem.W.callWith_KW0 (h₀ := X.base) I.ok.mod.kin hk e1 ?_ (by rw [e3]; rfl)
    obtain ⟨st2, hr2, q⟩ := t
    unfold evc at q
    refine thn (hkw.run pos pins s σ H _ I (q [] H Stp.refl hr2 .nil (fun c hc => by cases hc))) fun ws s2 ⟨zs, H2, I2, rz, q2⟩ => ⟨I2.kIn, ?_⟩
    rw [e2]
    exact fin (us := []) I2 .nil rz q2
  | cons x r =>
    refine PySem.W.callWith_KW (h₀ := X.base) I.ok.mod.kin hk e1 (thn (ha.run pos pins s σ H _ I t) fun us s1 ⟨vs, H1, I1, rv, q⟩ => ?_) (by rw [hpl, e3]; rfl) (he x r rfl)
    refine thn (hkw.run pos pins s1 σ H1 _ I1 q) fun ws s2 ⟨zs, H2, I2, rz, q2⟩ => ⟨I2.kIn, ?_⟩
    rw [e2]
    exact fin I2 rv rz q2
end
end Rf
set_option Elab.async false
set_option linter.all false
set_option maxRecDepth 100000
set_option maxHeartbeats 1000000
/-! Rf29: itertools.combinations. -/
namespace Rf
open PySem PySem.Spec PyProof.Rows

abbrev CB : String := "itertools.combinations"
theorem mro_comb : mroOf (.type CB) = pure [.type CB, .type "object"] := by rw [mroOf_type]; kernel_rfl
theorem lookup_comb_new : typeLookup (.type CB) "__new__" = pure (some (.builtin "itertools.combinations.__new__")) := by rw [typeLookup_type, builtinLookup_eq_fast]; kernel_rfl
theorem slot_comb_init : Slot CB "__init__" "object.__init__" :=
  .of (owner := "object") (n := "__init__") (by rw [typeLookup_type, builtinLookup_eq_fast]; kernel_rfl) (by decide +kernel) (by decide +kernel) (by decide +kernel)
    (by first | exact .inl (by decide +kernel) | exact .inr (by decide +kernel)) (by rw [isSubtype_type]; kernel_rfl)
theorem slot_comb_next : Slot CB "__next__" "itertools.combinations.__next__" :=
  .of (owner := CB) (n := "__next__") (by rw [typeLookup_type, builtinLookup_eq_fast]; kernel_rfl) (by decide +kernel) (by decide +kernel) (by decide +kernel)
    (by first | exact .inl (by decide +kernel) | exact .inr (by decide +kernel)) (by rw [isSubtype_type]; kernel_rfl)
theorem slot_comb_iter : Slot CB "__iter__" "itertools.combinations.__iter__" :=
  .of (owner := CB) (n := "__iter__") (by rw [typeLookup_type, builtinLookup_eq_fast]; kernel_rfl) (by decide +kernel) (by decide +kernel) (by decide +kernel)
    (by first | exact .inl (by decide +kernel) | exact .inr (by decide +kernel)) (by rw [isSubtype_type]; kernel_rfl)
theorem called_comb : TypeCalled CB "itertools.combinations.__new__" "object.__init__" :=
  ⟨by decide +kernel, by decide +kernel, ⟨_, _, mro_comb⟩, madeBy_type mro_comb lookup_comb_new (by decide +kernel), by decide +kernel, by rw [isSubtype_type]; kernel_rfl, slot_comb_init⟩
theorem typeCall_comb_2 (a b : Value) : checkTypeCall CB ⟨[a, b], []⟩ = pure () := by kernel_rfl
theorem newCall_comb_2 (a b : Value) : checkBuiltinCall "itertools.combinations.__new__" ⟨[.type CB, a, b], []⟩ = pure () := by kernel_rfl
theorem entry_comb_new : entryFor table "itertools.combinations.__new__" = some Builtin.«itertools.combinations.__new__» := entryFor_of_tree (by kernel_rfl)
theorem entry_comb_next : entryFor table "itertools.combinations.__next__" = some Builtin.«itertools.combinations.__next__» := entryFor_of_tree (by kernel_rfl)
theorem entry_comb_iter : entryFor table "itertools.combinations.__iter__" = some Builtin.«dict_keyiterator.__iter__» :=
  entryFor_alias (id' := "dict_keyiterator.__iter__") (by kernel_rfl) (by first | rfl | decide +kernel | (unfold String.splitOn; simp +decide [String.splitOnAux])) (by decide +kernel) (by kernel_rfl)
theorem sub_comb : isSubtype (.type CB) (.type CB) = pure true := by rw [isSubtype_type]; kernel_rfl
theorem dict_comb : typeHasDict (.type CB) = false := by decide +kernel
end Rf
set_option Elab.async false
set_option linter.all false
set_option maxRecDepth 100000
set_option maxHeartbeats 4000000
/-! Rf30: itertools.combinations made. -/
namespace Rf
open PySem PySem.Spec PyProof.Rows
open AutoSeq1 (wpAny_loadPart')
theorem meets_comb_new (l : Addr) (T : String) (hT : T = "list" ∨ T = "tuple") (o : Obj) (items : Array Value) (n : Nat) (t : Tok) (hc : o.cls = .type T) (hd : o.data = .seq items n) (hsz : items.size ≤ sizeLine) :
    Meets (Builtin.«itertools.combinations.__new__» ⟨[.type CB, .ref l, .int 2 t], []⟩)
      (fun _ R s => s.heap.get? l = some o ∧ ∀ h' : Heap, (∀ b o', s.heap.get? b = some o' → h'.get? b = some o') →
        R (.ok (.ret (.ref (h'.push { cls := .type "tuple", data := .seq items }).objs.size))) { s with heap := (h'.push { cls := .type "tuple", data := .seq items }).push { cls := .type CB, data := .fields #[.ref h'.objs.size, rawInt (if 2 > items.size then 2 else 0), .none, rawInt 0, rawInt 1] } }) :=
  .of_wp fun prog w A R s h => by
    obtain ⟨hp, g, d, tk, os⟩ := s; obtain ⟨ht, h⟩ := h
    have e0 : ("itertools." ++ "combinations" : String) = CB := by decide +kernel
    have hsub : isSubtype (.type CB) (.type ("itertools." ++ "combinations")) = pure true := by rw [e0]; exact sub_comb
    have hdd := dict_comb
    wp_walk using wpAny_loadPart' ht, wpAny_collect_seq (hsz := hsz) l hT ht hc hd
    intro h' hk
    have hl : items.toList.length = items.size := by simp
    rw [hl]
    wp_walk
    exact ⟨_, rfl, h h' hk⟩
end Rf
set_option Elab.async false
set_option linter.all false
set_option maxRecDepth 100000
set_option maxHeartbeats 4000000
/-! Rf31: the next pair of itertools.combinations. -/
namespace Rf
open PySem PySem.Spec PyProof.Rows
open AutoSeq1 (wpAny_loadPart')

/-- the places behind these, of n -/
def nxP (n : Nat) (p : Nat × Nat) : Option (Nat × Nat) := if p.2 + 1 < n then some (p.1, p.2 + 1) else if p.1 + 2 < n then some (p.1 + 1, p.1 + 2) else none
def prP (n : Nat) : Nat → Option (Nat × Nat)
  | 0 => if 2 ≤ n then some (0, 1) else none
  | i + 1 => (prP n i).bind (nxP n)
theorem prP_lt {n : Nat} : ∀ {i a b : Nat}, prP n i = some (a, b) → a < b ∧ b < n
  | 0, a, b, h => by
    unfold prP at h
    split at h
    · cases h; omega
    · cases h
  | i + 1, a, b, h => by
    unfold prP at h
    cases q : prP n i with
    | none => rw [q] at h; cases h
    | some p =>
      obtain ⟨c, d⟩ := p
      rw [q] at h
      have := prP_lt q
      have h : nxP n (c, d) = some (a, b) := h
      unfold nxP at h
      dsimp only at h
      split at h
      · cases h; omega
      · split at h
        · cases h; omega
        · cases h
/-- how the model steps -/
def ncP (n : Nat) (indices : List Nat) : Option (List Nat) :=
  let r := indices.length
  match (List.range r).reverse.find? fun i => indices.getD i 0 != i + n - r with
  | none => none
  | some i => some (indices.take i ++ (List.range (r - i)).map (indices.getD i 0 + 1 + ·))
theorem ncP_eq {n a b : Nat} (h1 : a < b) (h2 : b < n) : ncP n [a, b] = (nxP n (a, b)).map fun p => [p.1, p.2] := by
  unfold ncP nxP
  have e : (List.range ([a, b] : List Nat).length).reverse = [1, 0] := rfl
  dsimp only
  rw [e]
  by_cases q1 : b + 1 < n
  · rw [if_pos q1]
    have : (b != 1 + n - 2) = true := by simp; omega
    simp [List.find?_cons, this]
  · rw [if_neg q1]
    have z1 : (b != 1 + n - 2) = false := by simp; omega
    by_cases q2 : a + 2 < n
    · rw [if_pos q2]
      have z2 : (a != n - 2) = true := by simp; omega
      simp [List.find?_cons, z1, z2]
      rfl
    · rw [if_neg q2]
      have z2 : (a != n - 2) = false := by simp; omega
      simp [List.find?_cons, z1, z2]
abbrev IsCb (h : Heap) (z p : Addr) (k : Int) (r : Value) (a b : Nat) : Prop := h.get? z = some { cls := .type CB, data := .fields #[.ref p, rawInt k, r, rawInt a, rawInt b] }
abbrev IsPool (h : Heap) (p : Addr) (items : Array Value) : Prop := h.get? p = some { cls := .type "tuple", data := .seq items }
section
variable {prog : Program} {w : World} {A : Around} {E : Value → Shared → Prop} {s : Shared} {z p : Addr} {items : Array Value}
/-- a pair is handed out -/
theorem cb_out {k : Int} {r x y : Value} {a b : Nat} {Q : Value → Shared → Prop} (hz : IsCb s.heap z p k r a b) (hp : IsPool s.heap p items) (hx : items.getD a .none = x) (hy : items.getD b .none = y)
    (hQ : ∀ h', IsCb h' z p k (.ref s.heap.objs.size) a b → IsTupOf2 h' s.heap.objs.size x y → h'.objs.size = s.heap.objs.size + 1 → (∀ c o, c ≠ z → s.heap.get? c = some o → h'.get? c = some o) → Q (.ref s.heap.objs.size) { s with heap := h' }) :
    wpAny (model prog w) A (do
        let result ← (do
          let its ← Builtin.Itertools.itPoolItems (.ref p)
          newTuple (([a, b] : List Nat).map fun i => its.getD i .none))
        let before ← field (.ref z) 2
        setField (.ref z) 2 result
        letGo [before] [result]
        ret result) (fun fin s' => ∃ v, fin = .done (.ret v) ∧ Q v s') E s := by
  obtain ⟨hp0, g, d, tk0, os⟩ := s
  have hzl : z < hp0.objs.size := Heap.lt_size hz
  refine wpAny_bind (wpAny_bind ?_)
  unfold Builtin.Itertools.itPoolItems
  refine wpAny_bind (wpAny_seqItems hp rfl (wpAny_pure ?_))
  show wpAny _ _ (newTuple [items.getD a .none, items.getD b .none]) _ _ _
  rw [hx, hy]
  refine wpAny_newTuple ?_
  show wpAny _ _ _ _ _ ⟨hp0.push { cls := .type "tuple", data := .seq #[x, y] }, g, d, tk0, os⟩
  have hz1 : IsCb (hp0.push { cls := .type "tuple", data := .seq #[x, y] }) z p k r a b := Heap.get?_push_of_some _ hz
  refine wpAny_bind (wpAny_field hz1 rfl (x := r) rfl ?_)
  refine wpAny_bind (wpAny_setField_rec hz1 (by simp) fun h2 hz2 hs2 => ?_)
  replace hz2 : IsCb h2 z p k (.ref hp0.objs.size) a b := hz2
  replace hs2 : Heap.SameBut z (hp0.push { cls := .type "tuple", data := .seq #[x, y] }) h2 := hs2
  refine wpAny_bind (wpAny_letGo ?_)
  refine wpAny_pure ⟨_, rfl, ?_⟩
  refine hQ h2 hz2 (hs2.extBut _ _ (Nat.ne_of_gt hzl) (Heap.get?_push_size _ rfl)) (by rw [hs2.1, Heap.size_push]) fun c o hc e => hs2.extBut _ _ hc (Heap.get?_push_of_some _ e)
theorem cb_first {x y : Value} {Q : Value → Shared → Prop} (hz : IsCb s.heap z p 0 .none 0 1) (hp : IsPool s.heap p items) (hpz : p ≠ z) (hx : items.getD 0 .none = x) (hy : items.getD 1 .none = y)
    (hQ : ∀ h', IsCb h' z p 1 (.ref s.heap.objs.size) 0 1 → IsTupOf2 h' s.heap.objs.size x y → h'.objs.size = s.heap.objs.size + 1 → (∀ c o, c ≠ z → s.heap.get? c = some o → h'.get? c = some o) → Q (.ref s.heap.objs.size) { s with heap := h' }) :
    wpAny (model prog w) A (Builtin.«itertools.combinations.__next__» ⟨[.ref z], []⟩) (fun fin s' => ∃ v, fin = .done (.ret v) ∧ Q v s') E s := by
  obtain ⟨hp0, g, d, tk0, os⟩ := s
  show wpAny _ _ (field (.ref z) 0 >>= _) _ _ _
  refine wpAny_bind (wpAny_field hz rfl (x := .ref p) rfl ?_)
  show wpAny _ _ (Builtin.Itertools.itNumbersFrom (.ref z) 3 >>= _) _ _ _
  refine wpAny_bind ?_
  unfold Builtin.Itertools.itNumbersFrom
  refine wpAny_bind (wpAny_load hz (wpAny_pure ?_))
  show wpAny _ _ (Builtin.Itertools.itIntField (.ref z) 1 >>= _) _ _ _
  refine wpAny_bind ?_
  unfold Builtin.Itertools.itIntField
  refine wpAny_bind (wpAny_field hz rfl (x := rawInt 0) rfl (wpAny_pure ?_))
  show wpAny _ _ (setField (.ref z) 1 (rawInt 1) >>= _) _ _ _
  refine wpAny_bind (wpAny_setField_rec hz (by simp) fun g0 hz0 hs0 => ?_)
  replace hz0 : IsCb g0 z p 1 .none 0 1 := hz0
  replace hs0 : Heap.SameBut z hp0 g0 := hs0
  refine cb_out (s := ⟨g0, g, d, tk0, os⟩) hz0 (hs0.extBut _ _ hpz hp) hx hy fun h' e1 e2 e3 e4 => ?_
  have hsz : g0.objs.size = hp0.objs.size := hs0.1
  have e1 : IsCb h' z p 1 (.ref g0.objs.size) 0 1 := e1
  have e2 : IsTupOf2 h' g0.objs.size x y := e2
  have e3 : h'.objs.size = g0.objs.size + 1 := e3
  show Q (.ref g0.objs.size) _
  rw [hsz] at e1 e2 e3 ⊢
  exact hQ h' e1 e2 e3 fun c o hc e => e4 c o hc (hs0.extBut _ _ hc e)
theorem cb_next {r x y : Value} {a b a' b' : Nat} {Q : Value → Shared → Prop} (hz : IsCb s.heap z p 1 r a b) (hp : IsPool s.heap p items) (hpz : p ≠ z) (h1 : a < b) (h2 : b < items.size) (hn : nxP items.size (a, b) = some (a', b')) (hx : items.getD a' .none = x) (hy : items.getD b' .none = y)
    (hQ : ∀ h', IsCb h' z p 1 (.ref s.heap.objs.size) a' b' → IsTupOf2 h' s.heap.objs.size x y → h'.objs.size = s.heap.objs.size + 1 → (∀ c o, c ≠ z → s.heap.get? c = some o → h'.get? c = some o) → Q (.ref s.heap.objs.size) { s with heap := h' }) :
    wpAny (model prog w) A (Builtin.«itertools.combinations.__next__» ⟨[.ref z], []⟩) (fun fin s' => ∃ v, fin = .done (.ret v) ∧ Q v s') E s := by
  obtain ⟨hp0, g, d, tk0, os⟩ := s
  show wpAny _ _ (field (.ref z) 0 >>= _) _ _ _
  refine wpAny_bind (wpAny_field hz rfl (x := .ref p) rfl ?_)
  show wpAny _ _ (Builtin.Itertools.itNumbersFrom (.ref z) 3 >>= _) _ _ _
  refine wpAny_bind ?_
  unfold Builtin.Itertools.itNumbersFrom
  refine wpAny_bind (wpAny_load hz (wpAny_pure ?_))
  show wpAny _ _ (Builtin.Itertools.itIntField (.ref z) 1 >>= _) _ _ _
  refine wpAny_bind ?_
  unfold Builtin.Itertools.itIntField
  refine wpAny_bind (wpAny_field hz rfl (x := rawInt 1) rfl (wpAny_pure ?_))
  show wpAny _ _ (Builtin.Itertools.itPoolItems (.ref p) >>= _) _ _ _
  refine wpAny_bind ?_
  unfold Builtin.Itertools.itPoolItems
  refine wpAny_bind (wpAny_seqItems hp rfl (wpAny_pure ?_))
  dsimp only
  split
  · rename_i nx e
    have e : ncP items.size [a, b] = some nx := e
    rw [ncP_eq h1 h2, hn] at e
    obtain rfl : [a', b'] = nx := Option.some.inj e
    show wpAny _ _ (Builtin.Itertools.itSetNumbersFrom (.ref z) 3 [a', b'] >>= _) _ _ _
    refine wpAny_bind ?_
    unfold Builtin.Itertools.itSetNumbersFrom
    refine wpAny_updateFields hz rfl ?_ (by simp; decide)
    have hs0 : Heap.SameBut z hp0 (hp0.update z (Obj.mapFields fun fs => fs.extract 0 3 ++ (([a', b'] : List Nat).map fun (n : Nat) => rawInt n).toArray)) := Heap.SameBut.update ..
    have hz0 : IsCb (hp0.update z (Obj.mapFields fun fs => fs.extract 0 3 ++ (([a', b'] : List Nat).map fun (n : Nat) => rawInt n).toArray)) z p 1 r a' b' := Heap.get?_update_self _ hz rfl
    refine cb_out (s := ⟨_, g, d, tk0, os⟩) hz0 (hs0.extBut _ _ hpz hp) hx hy fun h' e1 e2 e3 e4 => ?_
    have hsz := hs0.1
    have e1 : IsCb h' z p 1 (.ref (hp0.update z (Obj.mapFields fun fs => fs.extract 0 3 ++ (([a', b'] : List Nat).map fun (n : Nat) => rawInt n).toArray)).objs.size) a' b' := e1
    have e2 : IsTupOf2 h' (hp0.update z (Obj.mapFields fun fs => fs.extract 0 3 ++ (([a', b'] : List Nat).map fun (n : Nat) => rawInt n).toArray)).objs.size x y := e2
    have e3 : h'.objs.size = (hp0.update z (Obj.mapFields fun fs => fs.extract 0 3 ++ (([a', b'] : List Nat).map fun (n : Nat) => rawInt n).toArray)).objs.size + 1 := e3
    show Q (.ref (hp0.update z (Obj.mapFields fun fs => fs.extract 0 3 ++ (([a', b'] : List Nat).map fun (n : Nat) => rawInt n).toArray)).objs.size) _
    rw [hsz] at e1 e2 e3 ⊢
    exact hQ h' e1 e2 e3 fun c o hc e => e4 c o hc (hs0.extBut _ _ hc e)
  · rename_i e
    have e : ncP items.size [a, b] = none := e
    rw [ncP_eq h1 h2, hn] at e
    cases e
end
end Rf
set_option Elab.async false
set_option linter.all false
set_option maxRecDepth 100000
set_option maxHeartbeats 4000000
/-! Rf32: a walk over itertools.combinations(x, 2). -/
namespace Rf
open PySem PySem.Spec PyProof.Rows

theorem owner_comb : Manifest.owners.lookup (String.ofList ['s', 'n', 'o', 'i', 't', 'a', 'n', 'i', 'b', 'm', 'o', 'c', '.', 's', 'l', 'o', 'o', 't', 'r', 'e', 't', 'i'].reverse) = some Manifest.sig_itertools_combinations := by kernel_rfl
theorem args_comb_next_1 (a : Value) : argsOk "itertools.combinations.__next__" ⟨[a], []⟩ := by
  unfold argsOk; rw [signature?_of (id := "itertools.combinations.__next__") (n := ['_', '_', 't', 'x', 'e', 'n', '_', '_']) (o := ['s', 'n', 'o', 'i', 't', 'a', 'n', 'i', 'b', 'm', 'o', 'c', '.', 's', 'l', 'o', 'o', 't', 'r', 'e', 't', 'i']) (by kernel_rfl) owner_comb]; kernel_rfl
theorem args_comb_iter_1 (a : Value) : argsOk "itertools.combinations.__iter__" ⟨[a], []⟩ := by
  unfold argsOk; rw [signature?_of (id := "itertools.combinations.__iter__") (n := ['_', '_', 'r', 'e', 't', 'i', '_', '_']) (o := ['s', 'n', 'o', 'i', 't', 'a', 'n', 'i', 'b', 'm', 'o', 'c', '.', 's', 'l', 'o', 'o', 't', 'r', 'e', 't', 'i']) (by kernel_rfl) owner_comb]; kernel_rfl
section
variable {prog : Program} {w : World} {A : Around} {E : Value → Shared → Prop} {s : Shared} {z p : Addr} {items : Array Value}
theorem cb_iter {k : Int} {r : Value} {a b : Nat} {Q : Value → Shared → Prop} (hz : IsCb s.heap z p k r a b) (h : Q (.ref z) s) : wpAny (model prog w) A (pyIter (.ref z)) Q E s := by
  have hT : s.TypeIs (.ref z) CB := ⟨_, hz, rfl⟩
  refine wpAny_pyIter_slot hT slot_comb_iter (wpAny_call_entry slot_comb_iter hT entry_comb_iter ?_ (args_comb_iter_1 _))
  show wpAny _ _ (ret (.ref z)) _ _ s
  exact wpAny_pure ⟨_, rfl, CB, _, hT, slot_comb_next.lookup, h⟩
theorem cb_pyNext {k : Int} {r : Value} {a b : Nat} {Q : Option Value → Shared → Prop} (hz : IsCb s.heap z p k r a b)
    (h : ∀ E' : Value → Shared → Prop, wpAny (model prog w) A.in1 (Builtin.«itertools.combinations.__next__» ⟨[.ref z], []⟩) (fun fin s' => ∃ v, fin = .done (.ret v) ∧ Q (some v) s') E' s) : wpAny (model prog w) A (pyNext (.ref z)) Q E s := by
  have hT : s.TypeIs (.ref z) CB := ⟨_, hz, rfl⟩
  unfold pyNext
  refine wpAny_bind (wpAny_attempt (wpAny_callSpecial?_slot (name := Str.ofString "__next__") hT slot_comb_next
    (wpAny_call_entry slot_comb_next hT entry_comb_next ?_ (args_comb_next_1 _))))
  exact wpAny_mono (h _) (fun fin s' ⟨v, e, q⟩ => ⟨v, e, wpAny_pure q⟩) fun _ _ q => q
/-- no pair is left -/
theorem cb_end {k : Int} {r : Value} {a b : Nat} {Q : Option Value → Shared → Prop} (hh : A.handled = none) (hz : IsCb s.heap z p k r a b) (hp : IsPool s.heap p items) (hpz : p ≠ z) (hk : k = 2 ∨ k = 1 ∧ a < b ∧ b < items.size ∧ nxP items.size (a, b) = none)
    (hQ : ∀ h', Heap.ExtBut z s.heap h' → Q none { s with heap := h' }) : wpAny (model prog w) A (pyNext (.ref z)) Q E s := by
  have hT : s.TypeIs (.ref z) CB := ⟨_, hz, rfl⟩
  unfold pyNext
  refine wpAny_bind (wpAny_attempt (wpAny_callSpecial?_slot (name := Str.ofString "__next__") hT slot_comb_next
    (wpAny_call_entry slot_comb_next hT entry_comb_next ?_ (args_comb_next_1 _))))
  have stop : ∀ {s1 : Shared} {Q1 : PySem.Fin → Shared → Prop}, Heap.ExtBut z s.heap s1.heap → s1 = { s with heap := s1.heap } → wpAny (model prog w) A.in1 (Builtin.Itertools.itStop : Sem PySem.Fin) Q1 (fun e s' =>
      wpAny (model prog w) A
        (match Except.error e with
        | Except.ok (some v) => pure (some v)
        | Except.ok none => unsupported "iter:the-iterator's-class-has-lost-its-__next__-amid-the-walk"
        | Except.error e => do
          if ← isInstance e (Value.type "StopIteration") then pure none else throw e)
        Q E s') s1 := by
    intro s1 Q1 hx es
    unfold Builtin.Itertools.itStop
    refine wpAny_bind ?_
    simp only [newExc, newTuple]
    refine wpAny_bind (wpAny_newObj_type ?_ (by size_fits))
    refine wpAny_bind (m := firstArgMember _ _) (wpAny_of_eq (a := Value.none) (by first | rfl | (simp only [firstArgMember]; rfl)) ?_)
    refine wpAny_newObj_type ?_ (by size_fits)
    simp only [raiseNew]
    refine wpAny_bind (wpAny_handled ?_)
    rw [show A.in1.handled = none from hh]
    refine wpAny_bind (wpAny_pure (wpAny_throw ?_))
    refine wpAny_bind (wpAny_isInstance (T := "StopIteration") (b := true) ⟨_, Heap.get?_push_size _ rfl, rfl⟩ isSubtype_stop ?_)
    rw [es]
    exact wpAny_pure (hQ _ ((hx.push _).push _))
  show wpAny _ _ (field (.ref z) 0 >>= _) _ _ _
  refine wpAny_bind (wpAny_field hz rfl (x := .ref p) rfl ?_)
  show wpAny _ _ (Builtin.Itertools.itNumbersFrom (.ref z) 3 >>= _) _ _ _
  refine wpAny_bind ?_
  unfold Builtin.Itertools.itNumbersFrom
  refine wpAny_bind (wpAny_load hz (wpAny_pure ?_))
  show wpAny _ _ (Builtin.Itertools.itIntField (.ref z) 1 >>= _) _ _ _
  refine wpAny_bind ?_
  unfold Builtin.Itertools.itIntField
  rcases hk with rfl | ⟨rfl, h1, h2, hn⟩
  · refine wpAny_bind (wpAny_field hz rfl (x := rawInt 2) rfl (wpAny_pure ?_))
    show wpAny _ _ (rule _ >>= _) _ _ _
    refine wpAny_bind (wpAny_rule ?_)
    exact stop (Heap.ExtBut.refl _ _) rfl
  · refine wpAny_bind (wpAny_field hz rfl (x := rawInt 1) rfl (wpAny_pure ?_))
    show wpAny _ _ (Builtin.Itertools.itPoolItems (.ref p) >>= _) _ _ _
    refine wpAny_bind ?_
    unfold Builtin.Itertools.itPoolItems
    refine wpAny_bind (wpAny_seqItems hp rfl (wpAny_pure ?_))
    dsimp only
    split
    · rename_i nx e
      have e : ncP items.size [a, b] = some nx := e
      rw [ncP_eq h1 h2, hn] at e
      cases e
    · refine wpAny_bind (wpAny_setField_rec hz (by simp) fun g0 hz0 hs0 => ?_)
      exact stop (s1 := { s with heap := g0 }) hs0.extBut rfl
end
end Rf
set_option Elab.async false
set_option linter.all false
set_option maxRecDepth 100000
set_option maxHeartbeats 1000000
/-! Rf33: combinations of two in the IR. -/
namespace Rf
open PySem PySem.Spec PyProof.Rows
open L2 hiding St

theorem init_obj3 (obj a b : Value) : argsOk "object.__init__" ⟨[obj, a, b], []⟩ := F.args_object_init_3 obj a b
theorem call_comb {prog : Program} {w : World} {A : Around} {E : Value → Shared → Prop} {s : Shared} {b : Bool} {l : Addr} {t : Tok} {items : Array Value} {Q : Value → Shared → Prop} (hL : SqAt b s.heap l items) (hsz : items.size ≤ sizeLine)
    (h : ∀ h' h2 : Heap, (∀ c o, s.heap.get? c = some o → h'.get? c = some o) → h2 = (h'.push { cls := .type "tuple", data := .seq items }).push { cls := .type CB, data := .fields #[.ref h'.objs.size, rawInt (if 2 > items.size then 2 else 0), .none, rawInt 0, rawInt 1] } →
      Q (.ref (h'.objs.size + 1)) { s with heap := h2 }) : wpAny (model prog w) A (call (.type CB) [.ref l, .int 2 t]) Q E s := by
  have key : ∃ T : String, ∃ o : Obj, ∃ n : Nat, (T = "list" ∨ T = "tuple") ∧ s.heap.get? l = some o ∧ o.cls = .type T ∧ o.data = .seq items n := by
    cases b with
    | false => obtain ⟨o, e1, e2, n, e3⟩ := hL; exact ⟨_, o, n, .inl rfl, e1, e2, e3⟩
    | true => obtain ⟨o, e1, e2, n, e3⟩ := hL; exact ⟨_, o, n, .inr rfl, e1, e2, e3⟩
  obtain ⟨T, o, n, hT, e1, e2, e3⟩ := key
  refine callType_new called_comb (by decide) (typeCall_comb_2 _ _) (newCall_comb_2 _ _) (fun obj => init_obj3 obj _ _) entry_comb_new (meets_comb_new l T hT o items n t e2 e3 hsz) ⟨e1, fun h' hk => ?_⟩
  have z1 : (h'.push { cls := .type "tuple", data := .seq items }).objs.size = h'.objs.size + 1 := Heap.size_push ..
  refine ⟨⟨_, Heap.get?_push_size _ rfl, rfl⟩, ?_⟩
  rw [z1]
  exact h h' _ hk rfl
/-- the pairs of vs -/
def ItCb (vs : List V) : It :=
  ⟨fun i _ => ∃ a b, prP vs.length i = some (a, b), fun i H v H' => ∃ T x y a b, v = .ref T ∧ H T = none ∧ H' = upd H T (.tup [x, y]) ∧ prP vs.length i = some (a, b) ∧ vs[a]? = some x ∧ vs[b]? = some y, fun i _ => prP vs.length i = none⟩
def CbAt (its : List Value) (z p : Addr) (i : Nat) (h : Heap) : Prop :=
  IsPool h p its.toArray ∧ ((i = 0 ∧ IsCb h z p (if 2 > its.length then 2 else 0) .none 0 1) ∨ ∃ j r a b, i = j + 1 ∧ prP its.length j = some (a, b) ∧ IsCb h z p 1 r a b)
theorem turn_cb {P : Program} {w : World} {K : PySem.W.Frag} {tg : Expr} {z p : Addr} {vs : List V} {its : List Value} (hv : Vals vs its) (hpz : p ≠ z) : Turn P w K tg (ItCb vs) [z, p] z (CbAt its z p) where
  mem := by simp
  obj := fun i h ⟨hp, hz⟩ c hc => by
    have e' : c = z ∨ c = p := by simpa using hc
    rcases e' with r | r
    · rw [r]
      rcases hz with ⟨_, hz⟩ | ⟨_, _, _, _, _, _, hz⟩
      · exact ⟨_, hz, fun v q => nomatch q⟩
      · exact ⟨_, hz, fun v q => nomatch q⟩
    · rw [r]; exact ⟨_, hp, fun v q => nomatch q⟩
  keep := fun i h h' ⟨hp, hz⟩ k => by
    refine ⟨k p (by simp) _ hp, ?_⟩
    rcases hz with ⟨e, hz⟩ | ⟨j, r, a, b, e, q, hz⟩
    · exact .inl ⟨e, k z (by simp) _ hz⟩
    · exact .inr ⟨j, r, a, b, e, q, k z (by simp) _ hz⟩
  item := by
    intro X hP hw hK hc i pins s σ H E I hf st hg
    subst hP hw hK
    obtain ⟨a, b, hab⟩ := hg
    have hl := hv.length
    obtain ⟨hp, hz⟩ := st
    have hlt := prP_lt hab
    obtain ⟨u, hu, ru⟩ := hv.get (i := a) (x := vs[a]'(by omega)) (by simp)
    obtain ⟨u2, hu2, ru2⟩ := hv.get (i := b) (x := vs[b]'(by omega)) (by simp)
    have g1 : its.toArray.getD a .none = u := by simp [Array.getD_eq_getD_getElem?, hu]
    have g2 : its.toArray.getD b .none = u2 := by simp [Array.getD_eq_getD_getElem?, hu2]
    have hzl : ∃ o, s.heap.get? z = some o := by
      rcases hz with ⟨_, hz⟩ | ⟨_, _, _, _, _, _, hz⟩
      · exact ⟨_, hz⟩
      · exact ⟨_, hz⟩
    obtain ⟨oz, hoz⟩ := hzl
    have hzlt := Heap.lt_size hoz
    have hplt := Heap.lt_size hp
    -- what follows the handing out
    have fin : ∀ h' : Heap, IsCb h' z p 1 (.ref s.heap.objs.size) a b → IsTupOf2 h' s.heap.objs.size u u2 → (∀ c o, c ≠ z → s.heap.get? c = some o → h'.get? c = some o) →
        wpAny (model X.prog X.w) X.A (letOwnedTupleGo tg (.ref z) (.ref s.heap.objs.size)) (fun _ s2 => ∃ x H', Inv X pins σ H' s2 ∧ RelV x (Value.ref s.heap.objs.size) ∧ (ItCb vs).yld i H x H' ∧ CbAt its z p (i + 1) s2.heap ∧ ∀ c ∈ [z, p], H' c = none) E { s with heap := h' } := by
      intro h' c1 c2 c3
      refine go_of c1 rfl rfl (by decide +kernel) ?_
      have new : ObjOk X.prog X.w (upd H s.heap.objs.size (.tup [vs[a]'(by omega), vs[b]'(by omega)])) h' s.heap.objs.size (.tup [vs[a]'(by omega), vs[b]'(by omega)]) :=
        ⟨by show 2 ≤ sizeLine; decide, [u, u2], .cons ru (.cons ru2 .nil), ⟨_, c2, rfl, _, rfl⟩⟩
      have I1 : Inv X pins σ (upd H s.heap.objs.size (.tup [vs[a]'(by omega), vs[b]'(by omega)])) { s with heap := h', toks := s.toks } :=
        I.turnedNew (ch := [z, p]) (fun c o hb r => c3 c o (fun q => hb (by simp [q])) r) hf (Nat.le_refl _) new
      refine ⟨.ref s.heap.objs.size, _, I1, rfl, ⟨_, _, _, a, b, rfl, I.hok.fresh (Nat.le_refl _), rfl, hab, by simp, by simp⟩, ⟨c3 _ _ hpz hp, .inr ⟨i, _, a, b, rfl, by rw [← hl]; exact hab, c1⟩⟩, fun c hcm => ?_⟩
      have hlt' : c < s.heap.objs.size := by
        have e' : c = z ∨ c = p := by simpa using hcm
        rcases e' with r | r
        · rw [r]; exact hzlt
        · rw [r]; exact hplt
      rw [upd_ne (Nat.ne_of_lt hlt')]
      exact (hf c hcm).1
    rcases hz with ⟨e, hz⟩ | ⟨j, r, a0, b0, e, q, hz⟩
    · subst e
      unfold prP at hab
      split at hab
      · rename_i h2
        cases hab
        rw [if_neg (by omega)] at hz
        refine cb_pyNext hz fun E' => ?_
        exact cb_first hz hp hpz g1 g2 fun h' c1 c2 _ c3 => ⟨_, rfl, fin h' c1 c2 c3⟩
      · cases hab
    · subst e
      have q' := prP_lt q
      unfold prP at hab
      rw [hl, q] at hab
      refine cb_pyNext hz fun E' => ?_
      exact cb_next hz hp hpz q'.1 (by simpa using q'.2) (by simpa using hab) g1 g2 fun h' c1 c2 _ c3 => ⟨_, rfl, fin h' c1 c2 c3⟩
  done := by
    intro X hP hw hK hc i pins s σ H E I hf st hg
    subst hP hw hK
    have hg : prP vs.length i = none := hg
    have hl := hv.length
    obtain ⟨hp, hz⟩ := st
    obtain ⟨f0, f1, f2, f3, f4, f5⟩ := hf z (by simp)
    rcases hz with ⟨e, hz⟩ | ⟨j, r, a0, b0, e, q, hz⟩
    · subst e
      unfold prP at hg
      split at hg
      · cases hg
      · rw [if_pos (by omega)] at hz
        exact cb_end (I.ok.hd hc) hz hp hpz (.inl rfl) fun h' eb => ⟨rfl, I.turned (t' := s.toks) (fun b o hb q => eb b o hb q) f0 f1 f3 f4 f5⟩
    · subst e
      have q' := prP_lt q
      unfold prP at hg
      rw [hl, q] at hg
      exact cb_end (I.ok.hd hc) hz hp hpz (.inr ⟨rfl, q'.1, by simpa using q'.2, by simpa using hg⟩) fun h' eb => ⟨rfl, I.turned (t' := s.toks) (fun b o hb q => eb b o hb q) f0 f1 f3 f4 f5⟩
  self := fun A i s Q E st h => by
    obtain ⟨hp, hz⟩ := st
    rcases hz with ⟨_, hz⟩ | ⟨_, _, _, _, _, _, hz⟩
    · exact cb_iter hz h
    · exact cb_iter hz h
/-! ### the pairs, in plain lists -/
theorem combos1 : ∀ ds : List D, combos 1 ds = ds.map fun d => [d]
  | [] => rfl
  | d :: ds => by
    show (combos 0 ds).map (d :: ·) ++ combos 1 ds = _
    rw [combos1 ds]
    cases ds <;> rfl
theorem combos2 (d : D) (ds : List D) : combos 2 (d :: ds) = (ds.map fun e => [d, e]) ++ combos 2 ds := by
  show (combos 1 ds).map (d :: ·) ++ combos 2 ds = _
  rw [combos1, List.map_map]
  rfl
theorem prP_row (n : Nat) : ∀ i, i < n → prP (n + 1) i = some (0, i + 1)
  | 0, h => by
    unfold prP
    rw [if_pos (by omega)]
  | i + 1, h => by
    unfold prP
    rw [prP_row n i (by omega)]
    show nxP (n + 1) (0, i + 1) = _
    unfold nxP
    rw [if_pos (by show i + 1 + 1 < n + 1; omega)]
theorem prP_rest (n : Nat) : ∀ j, prP (n + 1) (n + j) = (prP n j).map fun p => (p.1 + 1, p.2 + 1)
  | 0 => by
    cases n with
    | zero => rfl
    | succ m =>
      show (prP (m + 1 + 1) m).bind (nxP (m + 1 + 1)) = (if 2 ≤ m + 1 then some (0, 1) else none).map fun p => (p.1 + 1, p.2 + 1)
      rw [prP_row (m + 1) m (by omega)]
      show nxP (m + 1 + 1) (0, m + 1) = _
      unfold nxP
      rw [if_neg (by show ¬ m + 1 + 1 < m + 1 + 1; omega)]
      by_cases h : 2 ≤ m + 1
      · rw [if_pos (by show 0 + 2 < m + 1 + 1; omega), if_pos h]
        rfl
      · rw [if_neg (by show ¬ 0 + 2 < m + 1 + 1; omega), if_neg h]
        rfl
  | j + 1 => by
    show (prP (n + 1) (n + j)).bind (nxP (n + 1)) = ((prP n j).bind (nxP n)).map fun p => (p.1 + 1, p.2 + 1)
    rw [prP_rest n j]
    cases prP n j with
    | none => rfl
    | some p =>
      obtain ⟨a, b⟩ := p
      show nxP (n + 1) (a + 1, b + 1) = (nxP n (a, b)).map fun p => (p.1 + 1, p.2 + 1)
      unfold nxP
      dsimp only
      by_cases h1 : b + 1 < n
      · rw [if_pos (by omega), if_pos h1]
        rfl
      · rw [if_neg (by omega), if_neg h1]
        by_cases h2 : a + 2 < n
        · rw [if_pos (by omega), if_pos h2]
          rfl
        · rw [if_neg (by omega), if_neg h2]
          rfl
theorem combos_get : ∀ (ds : List D) (i : Nat), (combos 2 ds)[i]? = (prP ds.length i).bind fun p => (ds[p.1]?).bind fun x => (ds[p.2]?).map fun y => [x, y]
  | [], i => by
    have : prP 0 i = none := by
      induction i with
      | zero => rfl
      | succ i ih => show (prP 0 i).bind _ = none; rw [ih]; rfl
    rw [show ([] : List D).length = 0 from rfl, this]
    rfl
  | d :: ds, i => by
    rw [combos2, List.length_cons]
    by_cases h : i < ds.length
    · rw [List.getElem?_append_left (by rw [List.length_map]; exact h), prP_row _ _ h, List.getElem?_map]
      simp [h]
    · obtain ⟨j, rfl⟩ : ∃ j, i = ds.length + j := ⟨i - ds.length, by omega⟩
      rw [List.getElem?_append_right (by rw [List.length_map]; omega), List.length_map, show ds.length + j - ds.length = j by omega, combos_get ds j, prP_rest]
      cases prP ds.length j with
      | none => rfl
      | some p => simp
theorem iw_cb {K : PySem.W.Frag} {H : Hp} {vs : List V} {ds : List D} (g : DFs K H vs ds) : IWalk K (ItCb vs) ((combos 2 ds).map .tuple) H := by
  refine ⟨fun H' => Imm H H', Imm.refl H, fun H1 H2 i j => i.trans j, fun H1 i1 => ?_⟩
  have hl := g.length
  have none_of : ∀ i, prP vs.length i = none ↔ (combos 2 ds)[i]? = none := fun i => by
    rw [combos_get, hl]
    cases q : prP ds.length i with
    | none => exact ⟨fun _ => rfl, fun _ => rfl⟩
    | some p =>
      obtain ⟨a, b⟩ := p
      have := prP_lt q
      have h1 : ds[a]? = some (ds[a]'(by omega)) := by simp
      have h2 : ds[b]? = some (ds[b]'(by omega)) := by simp
      constructor
      · intro z; cases z
      · intro z
        rw [show ((some (a, b)).bind fun p => (ds[p.1]?).bind fun x => (ds[p.2]?).map fun y => [x, y]) = (ds[a]?).bind fun x => (ds[b]?).map fun y => [x, y] from rfl, h1, h2] at z
        cases z
  rw [List.length_map]
  refine ⟨(none_of _).mpr (List.getElem?_eq_none (Nat.le_refl _)), fun i hi => ?_⟩
  have sm : ∃ a b, prP vs.length i = some (a, b) := by
    cases q : prP vs.length i with
    | none =>
      have := List.getElem?_eq_none_iff.mp ((none_of i).mp q)
      omega
    | some p => exact ⟨p.1, p.2, rfl⟩
  refine ⟨sm, fun v H' ⟨T, x, y, a, b, e1, e2, e3, e4, e5, e6⟩ => ?_⟩
  subst e1 e3
  obtain ⟨d, ed, dv⟩ := g.getV e5
  obtain ⟨d', ed', dv'⟩ := g.getV e6
  refine ⟨.new _ _ e2, .tuple [d, d'], ?_, .tup (SqT.of upd_same) (.cons (DF.imm (i1.trans (Imm.upd e2)) _ _ dv) (.cons (DF.imm (i1.trans (Imm.upd e2)) _ _ dv') .nil))⟩
  rw [List.getElem?_map, combos_get, ← hl, e4]
  simp [ed, ed']
section
variable {X : Cx} {R : Rc} {G : Env} {x tgE : Expr} {a : IE} {pos p1 cp : Pos} {kk : Nat}
theorem pi_combR (hg : Gl X "combinations") (hm : X.mg "combinations" = some (.type CB)) (h : PE X x (Rd X.K R (ev G a))) (hs : starEach [x, .Constant (.int 2) kk cp] X.env = (false, eval x X.env) :: starEach [.Constant (.int 2) kk cp] X.env) :
    PI X tgE (.Call (.Name "combinations" p1) [x, .Constant (.int 2) kk cp] [] pos) (RdI X.K R (evi G (.comb a 2))) := by
  refine ⟨fun pins s σ H Q I ⟨st, hr, q⟩ => ?_⟩
  unfold evi at q
  have q' : ((ev G a st).bind fun p => (T.opt (items? p.1.fz)).bind fun ds => T.ok ((combos 2 ds).map PyData.tuple, p.2)).All (fun p => ∀ J H1, Stp R.L σ st p.2 H H1 → RelS X.K R.L R.B H1 σ p.2 → IWalk X.K J p.1 H1 → Q J H1) (EW X.K R σ st H) := by
    simpa only [items_fz] using q
  refine Call_ (ld_glob I hg hm (PyProof.Rows.callWith_type1 (args_cons (thn ((pe_fz h).run pins s σ H (fun v H1 => ∃ a' vs ds, v = .ref a' ∧ (SqF H1 a' vs ∨ SqT X.K H1 a' vs) ∧ DFs X.K H1 vs ds ∧ ∀ J, IWalk X.K J ((combos 2 ds).map PyData.tuple) H1 → Q J H1) I
    (rdF_bind (k := fun c st1 => (T.opt (items? c)).bind fun ds => T.ok ((combos 2 ds).map PyData.tuple, st1)) hr q' fun c st1 v H1 s1 r1 rv nc h1 => ?_)) fun u s1 ⟨w, H1, I1, r1, a', vs, ds, e, hq, g, hQ⟩ => args_cons (thn ((pe_int (X := X) (i := 2) (j := kk) (pos := cp)).run pins s1 σ H1 (fun v H2 => v = .int 2 ∧ H2 = H1) I1 ⟨rfl, rfl⟩) fun u2 s2 ⟨w2, H2, I2, r2, e2, e3⟩ => args_nil ?_) (by rfl)) hs) hs rfl))
  · obtain ⟨ds, e, h2⟩ := T.all_none h1
    obtain ⟨a', vs, e2, e3, g⟩ := rv.frz nc e
    exact ⟨a', vs, ds, e2, e3, g, fun J w => h2 J H1 s1 r1 w⟩
  · subst e e2 e3
    obtain rfl : u = Value.ref a' := r1
    obtain ⟨tk2, rfl⟩ : ∃ t, u2 = Value.int 2 t := r2
    obtain ⟨b', hk⟩ := frz_sqk hq
    obtain ⟨its, rv, p', hz⟩ := inv_seq I2 hk.1
    have hl := rv.length
    refine call_comb p' (by simp; omega) fun h' h2 hkp eh => ?_
    subst eh
    have I3 : Inv X pins σ H2 { s2 with heap := h' } := I2.kept (t' := s2.toks) hkp
    have z1 : (h'.push { cls := .type "tuple", data := .seq its.toArray }).objs.size = h'.objs.size + 1 := Heap.size_push ..
    have hcb : IsCb ((h'.push { cls := .type "tuple", data := .seq its.toArray }).push { cls := .type CB, data := .fields #[.ref h'.objs.size, rawInt (if 2 > its.toArray.size then 2 else 0), .none, rawInt 0, rawInt 1] }) (h'.objs.size + 1) h'.objs.size (if 2 > its.toArray.size then 2 else 0) .none 0 1 := by
      have := Heap.get?_push_size (h'.push { cls := .type "tuple", data := .seq its.toArray }) (o := { cls := .type CB, data := .fields #[.ref h'.objs.size, rawInt (if 2 > its.toArray.size then 2 else 0), .none, rawInt 0, rawInt 1] }) rfl
      rw [z1] at this
      exact this
    have hpl : IsPool ((h'.push { cls := .type "tuple", data := .seq its.toArray }).push { cls := .type CB, data := .fields #[.ref h'.objs.size, rawInt (if 2 > its.toArray.size then 2 else 0), .none, rawInt 0, rawInt 1] }) h'.objs.size its.toArray := Heap.get?_push_of_some _ (Heap.get?_push_size _ rfl)
    refine cb_iter hcb ?_
    have I4 : Inv X pins σ H2 { s2 with heap := (h'.push { cls := .type "tuple", data := .seq its.toArray }).push { cls := .type CB, data := .fields #[.ref h'.objs.size, rawInt (if 2 > its.toArray.size then 2 else 0), .none, rawInt 0, rawInt 1] } } := I3.kept (t' := s2.toks) fun b o e => Heap.get?_push_of_some _ (Heap.get?_push_of_some _ e)
    refine ⟨h'.objs.size + 1, [h'.objs.size + 1, h'.objs.size], _, _, H2, rfl, I4, turn_cb rv (Nat.ne_of_lt (Nat.lt_succ_self _)), ⟨hpl, .inl ⟨rfl, by simpa using hcb⟩⟩, fun c hcm => ?_, hQ _ (iw_cb g)⟩
    have e' : c = h'.objs.size + 1 ∨ c = h'.objs.size := by simpa using hcm
    have hle : h'.objs.size ≤ c := by
      rcases e' with r | r
      · rw [r]; exact Nat.le_succ _
      · rw [r]; exact Nat.le_refl _
    exact I3.fpOk hle (I3.hok.fresh hle)
end
end Rf
set_option Elab.async false
set_option linter.all false
set_option maxRecDepth 100000
set_option maxHeartbeats 1000000
/-! Rf19: what the text's shape gives. -/
namespace Rf
open PySem PySem.Spec PyProof.Rows
open L2 hiding St

def notStar : Expr → Bool
  | .Starred _ _ => false
  | _ => true
def notSet : Expr → Bool
  | .Set _ _ _ => false
  | _ => true
def notSlice : Expr → Bool
  | .Slice _ _ _ _ => false
  | _ => true
def notComp : Expr → Bool
  | .ListComp _ _ _ _ => false
  | .SetComp _ _ _ _ => false
  | .DictComp _ _ _ _ _ => false
  | _ => true
def notTup : Expr → Bool
  | .Tuple _ _ _ => false
  | _ => true
theorem star_ok {x : Expr} {xs : List Expr} {env : PySem.Env} (h : notStar x = true) : starEach (x :: xs) env = (false, eval x env) :: starEach xs env := by
  cases x <;> first | rfl | cases h
theorem star_plain {env : PySem.Env} {pos : Pos} : ∀ {xs : List Expr}, xs.all notStar = true → (backTo pos (starEach xs env)).any (·.1) = false
  | [], _ => rfl
  | x :: xs, h => by
    rw [List.all_cons, Bool.and_eq_true] at h
    rw [star_ok h.1]
    show (false || (backTo pos (starEach xs env)).any (·.1)) = false
    rw [star_plain h.2]
    rfl
theorem star_all {env : PySem.Env} {pos : Pos} : ∀ {xs : List Expr}, xs.all notStar = true → (backTo pos (starEach xs env)).all (fun x => !x.1) = true
  | [], _ => rfl
  | x :: xs, h => by
    rw [List.all_cons, Bool.and_eq_true] at h
    rw [star_ok h.1]
    show (true && (backTo pos (starEach xs env)).all (fun x => !x.1)) = true
    rw [star_all h.2]
    rfl
theorem plainIx_ok {y : Expr} (h : notSlice y = true) : PlainIx y := by
  intro o i
  cases y <;> first | rfl | cases h
theorem folded_ok {x : Expr} {env : PySem.Env} (h : notSet x = true) (v : Value) : foldedSetIterable x env v = pure v := by
  cases x <;> first | rfl | cases h
theorem behind_ok {op : CmpOp} {y : Expr} (h : notSet y = true) : behindInMarks op y = false := by
  cases y <;> first | rfl | cases h
theorem swaps_ok {x : Expr} {tg : Option Expr} {l : Nat} {env : PySem.Env} (h : notComp x = true) : swapsWith x tg l env = pure false := by
  cases x <;> first | rfl | cases h
theorem swapsSole_ok {x t : Expr} {l : Nat} {env : PySem.Env} (h : notComp x = true) : swapsWithSole [t] x l env = pure false := swaps_ok h
/-- a comprehension to a tuple of names, to a place in a list -/
def notName : Expr → Bool
  | .Name _ _ => false
  | _ => true
theorem swaps_notName {x t : Expr} {l : Nat} {env : PySem.Env} (h : notName t = true) : swapsWith x (some t) l env = pure false := by
  cases x <;> first | rfl | (cases t <;> first | rfl | cases h)
theorem swapped_ok {t x : Expr} {env : PySem.Env} (h : notTup x = true) : swappedStores [t] x env = pure none := by
  unfold swappedStores
  cases x <;> first | (cases t <;> rfl) | cases h
theorem swapped_sub {o i x : Expr} {p : Pos} {env : PySem.Env} : swappedStores [.Subscript o i p] x env = pure none := by
  unfold swappedStores
  cases x <;> rfl
theorem assign1 {t : Expr} {env : PySem.Env} (h : notStar t = true) : (assignEach [t] env).map (·.2) = [assign t env] := by
  cases t <;> first | rfl | cases h
/-- names -/
def isName : Expr → Bool
  | .Name _ _ => true
  | _ => false
theorem assign_cons {t : Expr} {ts : List Expr} {env : PySem.Env} (h : isName t = true) : assignEach (t :: ts) env = (false, assign t env) :: assignEach ts env := by
  cases t <;> first | rfl | cases h
theorem assign_len {env : PySem.Env} : ∀ {ts : List Expr}, ts.all isName = true → (assignEach ts env).length = ts.length
  | [], _ => rfl
  | t :: ts, h => by
    rw [List.all_cons, Bool.and_eq_true] at h
    rw [assign_cons h.1, List.length_cons, List.length_cons, assign_len h.2]
theorem assign_star {env : PySem.Env} : ∀ {ts : List Expr}, ts.all isName = true → (assignEach ts env).findIdx? (·.1) = none
  | [], _ => rfl
  | t :: ts, h => by
    rw [List.all_cons, Bool.and_eq_true] at h
    rw [assign_cons h.1, List.findIdx?_cons, assign_star h.2]
    rfl
/-- what isTrue asks of itself -/
def plainT : Expr → Bool
  | .UnaryOp .Not _ _ => false
  | .BoolOp _ _ _ => false
  | .IfExp _ _ _ _ => false
  | .Compare _ _ _ _ => false
  | _ => true
theorem plainT_ok {x : Expr} {env : PySem.Env} (h : plainT x = true) (whole : Sem Value) : isTrue x env whole = (do let v ← whole; standAt x.pos; holding [v] (truthy v)) := by
  cases x <;> first | rfl | (cases h; done) | skip
  rename_i op _ _
  cases op <;> first | rfl | cases h
section
variable {X : Cx} {R : Rc} {G : Rf.Env} {x y z : Expr} {a b c : IE} {pos : Pos}
theorem pt_ifE {tA ta tb : TT} (hc : PT X z tA) (ha : PT X x ta) (hb : PT X y tb) : PT X (.IfExp z x y pos) (fun σ H Q => tA σ H fun c H1 => if c = true then ta σ H1 Q else tb σ H1 Q) := by
  refine ⟨fun pins s σ H Q I h => ?_⟩
  show wpAny _ _ (isTrue z X.env (eval z X.env) >>= fun c => if c then isTrue x X.env (eval x X.env) else isTrue y X.env (eval y X.env)) _ _ s
  refine wpAny_bind (thn (hc.run pins s σ H _ I h) fun d s1 ⟨H1, I1, q1⟩ => ?_)
  cases d with
  | true => exact ha.run pins s1 σ H1 Q I1 q1
  | false => exact hb.run pins s1 σ H1 Q I1 q1
theorem pt_iteR (hc : PT X z (RdT X.K R (ev G c))) (ha : PT X x (RdT X.K R (ev G a))) (hb : PT X y (RdT X.K R (ev G b))) : PT X (.IfExp z x y pos) (RdT X.K R (ev G (.ite c a b))) := PT.imp (pt_ifE hc ha hb) fun σ H Q ⟨st, hr, q⟩ => by
  unfold ev at q
  simp only [T.bind_assoc, cond_bind] at q
  refine rdT_bind (k := fun b' st1 => cond b' ((ev G a st1).bind fun p => (T.opt p.1.bool?).bind fun b => T.ok (b, p.2)) ((ev G b st1).bind fun p => (T.opt p.1.bool?).bind fun b => T.ok (b, p.2))) hr q fun c st1 H1 s1 r1 h1 => ?_
  cases c with
  | true =>
    rw [if_pos rfl]
    exact and_tail s1 r1 h1
  | false =>
    rw [if_neg Bool.false_ne_true]
    exact and_tail s1 r1 h1
/-- a store at a place -/
theorem assSub_ok {o i : Expr} {p : Pos} {env : PySem.Env} (h : notSlice i = true) (v : Value) : assign (.Subscript o i p) env v = (do
      let ov ← holding [v] (eval o env)
      let iv ← holding [v, ov] (eval i env)
      standAt p
      holding [v, ov, iv] (setItem ov iv v)
      release [v, ov, iv] []) := by
  cases i <;> first | rfl | cases h
theorem kwNil {env : PySem.Env} {pos : Pos} : (backToKw pos (keywordEach [] env)).all (fun x => x.1.isSome) = true := rfl
theorem few_ok {x : Expr} {env : PySem.Env} {pos : Pos} (h : notStar x = true) : ((backTo pos (starEach [x] env)).all (fun x => !x.1) && (backToKw pos (keywordEach [] env)).all (fun x => x.1.isSome)
      && decide (([x] : List Expr).length + ([] : List Keyword).length + (if ([] : List Keyword).isEmpty then 0 else 1) < 30)) = true := by
  rw [star_all (by rw [List.all_cons, h]; rfl), kwNil]
  rfl
end
/-! ### several stores at once -/
def namesOf : List Expr → List Str
  | [] => []
  | .Name n _ :: r => n :: namesOf r
  | _ :: r => namesOf r
/-- what the stores of a written tuple do: none is 'not told' -/
def swC (sc : Scope) (ts vs : List Expr) : Option (Option (List Str)) :=
  if !(ts.length == 2 || ts.length == 3) || vs.length != ts.length || sc.kind != .function then some none
  else if vs.any (fun | .Starred .. => true | _ => false) then some none
  else
    let line := (ts.head?.map (·.pos.line)).getD 0
    let names := ts.filterMap fun
      | .Name id pos => if sc.names.lookup id == some .local && pos.line == line then some id else none
      | _ => none
    if names.length != ts.length || names.eraseDups.length != names.length then some none
    else if vs.all (foldedForSure 8) then some none
    else if vs.all (constantsAlone 8) then none
    else some (some names)
theorem swC_ok {ts vs : List Expr} {k k2 : Nat} {p p2 : Pos} {env : PySem.Env} {r : Option (List Str)} (hk : env.scope.kind = .function) (h : swC env.scope ts vs = some r) : swappedStores [.Tuple ts k p] (.Tuple vs k2 p2) env = pure r := by
  have hb : env.blockKind = .function := by unfold PySem.Env.blockKind; rw [hk]; rfl
  unfold swappedStores
  unfold swC at h
  simp only [hb, hk] at h ⊢
  split at h
  · rename_i c; cases h; refine (if_pos ?_).trans rfl; exact c
  rename_i c1
  refine (if_neg ?_).trans ?_
  · exact c1
  split at h
  · rename_i c; cases h; refine (if_pos ?_).trans rfl; exact c
  rename_i c2
  refine (if_neg ?_).trans ?_
  · exact c2
  split at h
  · rename_i c; cases h; refine (if_pos ?_).trans rfl; exact c
  rename_i c3
  refine (if_neg ?_).trans ?_
  · exact c3
  split at h
  · rename_i c; cases h; refine (if_pos ?_).trans rfl; exact c
  rename_i c4
  refine (if_neg ?_).trans ?_
  · exact c4
  split at h
  · cases h
  rename_i c5
  refine (if_neg ?_).trans ?_
  · exact c5
  cases h
  rfl
end Rf
set_option Elab.async false
set_option linter.all false
set_option maxRecDepth 100000
set_option maxHeartbeats 1000000
/-! Rf20: the checker: text against IR. -/
namespace Rf
open PySem PySem.Spec PyProof.Rows
open L2 hiding St

/-- what the checker knows: the slots' names, the scope, the names whose cells are this frame's, the module's names by number; al: the lambda may be called -/
structure Ck where
  N : List Str
  sc : Scope
  cf : Str → Bool
  fns : List Str
  gls : List Str
  exs : List Str
  flds : List (List Str)
  al : Bool
  lm : Bool
  pars : List (List Str)
  cm : Bool
def Ck.blk (C : Ck) (scope : Scope) : Ck := { C with sc := relS scope C.sc, cf := fun n => scope.names.lookup n == some .cell, al := false, lm := false }
def Ck.lam (C : Ck) (scope : Scope) : Ck := { C with sc := scope, cf := fun _ => false, al := false, lm := false }
/-- no parameters -/
def noPar (a : Arguments) : Bool := a.posonlyargs.isEmpty && a.args.isEmpty && a.vararg.isNone && a.kwonlyargs.isEmpty && a.kw_defaults.isEmpty && a.kwarg.isNone && a.defaults.isEmpty
def kd (C : Ck) (n : Str) : Option NameKind := C.sc.names.lookup n
def visB : Option NameKind → Bool
  | some .local => true
  | some .cell => true
  | some .free => true
  | _ => false
def okN (n : Str) : Bool := !(n == ("__debug__" : Str)) && !(n == ("__classdict__" : Str))
def slotB (C : Ck) (i : Nat) (n : Str) : Bool := C.N[i]? == some n && visB (kd C n) && okN n
def slotL (C : Ck) (i : Nat) (n : Str) : Bool := C.N[i]? == some n && (kd C n == some .local || (kd C n == some .cell && C.cf n)) && okN n
def glB (C : Ck) (n : Str) : Bool := kd C n == some .globalImplicit && okN n
def ckCon : Expr → PyData → Bool
  | .Constant (.int i) _ _, .int j => i == j
  | .Constant (.bool b) _ _, .bool c => b == c
  | .Constant .none _ _, .none => true
  | .Constant (.str s) _ _, .str t => s == t
  | _, _ => false
def opEq : Operator → IOp → Bool
  | .Add, .add => true
  | .Sub, .sub => true
  | .Mult, .mul => true
  | .FloorDiv, .fdiv => true
  | .Mod, .mod => true
  | .Pow, .pow => true
  | _, _ => false
def cmEq : CmpOp → ICmp → Bool
  | .Lt, .lt => true
  | .LtE, .le => true
  | .Gt, .gt => true
  | .GtE, .ge => true
  | .Eq, .eq => true
  | .NotEq, .ne => true
  | .In, .inn => true
  | .NotIn, .notin => true
  | _, _ => false
def biN : IB → Option Str
  | .len => some "len"
  | .abs => some "abs"
  | .gcd => some "gcd"
  | .int => some "int"
  | .max => some "max"
  | .min => some "min"
  | .sum => some "sum"
  | .tuple => some "tuple"
  | .list => some "list"
  | .sorted => some "sorted"
  | _ => none
def isiN : IB → Option Str
  | .isInt => some "int"
  | .isBool => some "bool"
  | .isTup => some "tuple"
  | .isStr => some "str"
  | _ => none
def tgOwn (tg : List Nat) : Expr → List (Str × Nat)
  | .Name n _ => [n].zip tg
  | .Tuple ts _ _ => (namesOf ts).zip tg
  | _ => []
def slotsL (C : Ck) : List Nat → List Expr → Bool
  | [], [] => true
  | i :: is, .Name n _ :: ts => slotL C i n && slotsL C is ts
  | _, _ => false
def tgB (C : Ck) (tg : List Nat) : Expr → Bool
  | .Name n _ => (match tg with | [i] => slotL C i n | _ => false)
  | .Tuple ts _ _ => decide (2 ≤ ts.length) && decide (ts.length ≤ 1000) && slotsL C tg ts
  | _ => false
def isTup : Expr → Bool
  | .Tuple _ _ _ => true
  | _ => false
def lineB (a b : Pos) : Bool := a.endLine == b.line

mutual
def ckE : IE → Ck → Expr → Bool
  | .con d, _, e => ckCon e d
  | .var i, C, e => match e with
    | .Name n _ => slotB C i n
    | _ => false
  | .gl g, C, e => match e with
    | .Name n _ => glB C n && C.gls[g]? == some n
    | _ => false
  | .bin op a b, C, e => match e with
    | .BinOp x o y _ => opEq o op && ckE a C x && ckE b C y
    | _ => false
  | .neg a, C, e => match e with
    | .UnaryOp .USub x _ => ckE a C x
    | _ => false
  | .inv a, C, e => match e with
    | .UnaryOp .Not x _ => ckE a C x
    | _ => false
  | .and_ a b, C, e => match e with
    | .BoolOp .And (x :: rest) p => ckE a C x && (match rest with
      | [y] => ckE b C y
      | y :: z :: r => ckE b C (.BoolOp .And (y :: z :: r) p)
      | [] => false)
    | _ => false
  | .or_ a b, C, e => match e with
    | .BoolOp .Or (x :: rest) p => ckE a C x && (match rest with
      | [y] => ckE b C y
      | y :: z :: r => ckE b C (.BoolOp .Or (y :: z :: r) p)
      | [] => false)
    | _ => false
  | .cmp op a b, C, e => match e with
    | .Compare x [o] [y] _ => cmEq o op && notSet y && ckE a C x && ckE b C y
    | _ => false
  | .chain o1 o2 a b c, C, e => match e with
    | .Compare x [p1, p2] [y, z] _ => cmEq p1 o1 && cmEq p2 o2 && notSet z && ckE a C x && ckE b C y && ckE c C z
    | _ => false
  | .isN a, C, e => match e with
    | .Compare x [.Is] [.Constant .none _ _] _ => ckE a C x
    | _ => false
  | .notN a, C, e => match e with
    | .Compare x [.IsNot] [.Constant .none _ _] _ => ckE a C x
    | _ => false
  | .ite c a b, C, e => match e with
    | .IfExp z x y _ => ckE c C z && ckE a C x && ckE b C y
    | _ => false
  | .tup es, C, e => match e with
    | .Tuple xs _ _ => ckEs es C xs
    | _ => false
  | .lst es, C, e => match e with
    | .List xs _ => ckEs es C xs
    | _ => false
  | .idx a b, C, e => match e with
    | .Subscript x y _ => notSlice y && ckE a C x && ckE b C y
    | _ => false
  | .slc a lo hi, C, e => match e with
    | .Subscript x (.Slice l h none _) _ => ckE a C x && ckO lo C l && ckO hi C h
    | _ => false
  | .rev a, C, e => match e with
    | .Subscript x (.Slice none none (some (.UnaryOp .USub (.Constant (.int 1) _ _) _)) _) _ => ckE a C x
    | _ => false
  | .call f as, C, e => match e with
    | .Call (.Name n _) xs [] _ => glB C n && C.fns[f]? == some n && ckEs as C xs
    | _ => false
  | .bi f as, C, e => match e with
    | .Call (.Name n _) xs [] _ => match isiN f with
      | some t => n == ("isinstance" : Str) && glB C n && (match xs with
        | [x, .Name m _] => m == t && glB C m && ckEs as C [x]
        | _ => false)
      | none => biN f == some n && glB C n && !xs.isEmpty && ckEs as C xs
    | _ => false
  | .lc elt tg it test, C, e => match e with
    | .ListComp el [⟨tgE, iter, ifs, k⟩] scope _ => decide (k = 0) && tgB (C.blk scope) tg tgE && blkC C.N C.sc scope (tgOwn tg tgE) && decide ((tgOwn tg tgE).map (·.2) = tg) && notSet iter && ckI it C tgE iter && ckE elt (C.blk scope) el && ckQ test (C.blk scope) ifs
    | _ => false
  | .lam f b, C, e => match e with
    | .Call (.Name n _) [.Lambda params x scope _] [] _ => C.lm && glB C n && C.fns[f]? == some n && LamX.lamSB C.sc scope && noPar params && ckE b (C.lam scope) x
    | _ => false
  | .act i, C, e => match e with
    | .Call (.Name n _) [] [] _ => C.al && slotB C i n
    | _ => false
  | .pop i, C, e => match e with
    | .Call (.Attribute (.Name n _) m ap) [] [] p => m == ("pop" : Str) && slotB C i n && lineB ap p
    | _ => false
  | .req i j, C, e => match e with
    | .Compare (.Call (.Name f _) [.Name n _] [] _) [.Eq] [.Call (.Name g _) [.Name m _] [] _] _ => f == ("repr" : Str) && g == ("repr" : Str) && glB C f && slotB C i n && slotB C j m
    | _ => false
  | .join sep a, C, e => match e with
    | .Call (.Attribute (.Constant (.str t) _ _) m ap) [x] [] p => m == ("join" : Str) && t == sep && notStar x && lineB ap p && ckE a C x
    | _ => false
  | .kcall f ks as bs, C, e => match e with
    | .Call (.Name n _) xs kws _ => glB C n && C.fns[f]? == some n && (match C.pars[f]? with
      | some ps => (match kws.mapM (·.arg) with
        | some kn => RfX.kwB ps xs.length kn ks && decide (kws.map (·.arg) = kn.map some) && ckEs as C xs && ckEs bs C (kws.map (·.value))
        | none => false)
      | none => false)
    | _ => false
  | .hole, _, _ => true
def ckEs : IEs → Ck → List Expr → Bool
  | .nil, _, es => es.isEmpty
  | .cons a as, C, es => match es with
    | x :: xs => notStar x && ckE a C x && ckEs as C xs
    | [] => false
def ckO : IO → Ck → Option Expr → Bool
  | .none, _, o => o.isNone
  | .some a, C, o => match o with
    | some x => ckE a C x
    | none => false
def ckQ : IO → Ck → List Expr → Bool
  | .none, _, es => es.isEmpty
  | .some a, C, es => match es with
    | [x] => ckE a C x
    | _ => false
def ckI : II → Ck → Expr → Expr → Bool
  | .seq a, C, _, e => ckE a C e
  | .enum a, C, tg, e => match e with
    | .Call (.Name n _) [x] [] _ => isTup tg && n == ("enumerate" : Str) && glB C n && notStar x && ckE a C x
    | _ => false
  | .zip as, C, tg, e => match e with
    | .Call (.Name n _) [x, y] [] _ => isTup tg && n == ("zip" : Str) && glB C n && ckEs as C [x, y]
    | _ => false
  | .revd a, C, _, e => match e with
    | .Call (.Name n _) [x] [] _ => n == ("reversed" : Str) && glB C n && notStar x && ckE a C x
    | _ => false
  | .range as, C, _, e => match e with
    | .Call (.Name n _) xs [] _ => n == ("range" : Str) && glB C n && decide (1 ≤ xs.length ∧ xs.length ≤ 3) && ckEs as C xs
    | _ => false
  | .revrange as, C, _, e => match e with
    | .Call (.Name m _) [.Call (.Name n _) xs [] _] [] _ => m == ("reversed" : Str) && glB C m && n == ("range" : Str) && glB C n && decide (xs.length = 1) && ckEs as C xs
    | _ => false
  | .comb a k, C, _, e => match e with
    | .Call (.Name n _) [x, .Constant (.int 2) _ _] [] _ => decide (k = 2) && C.cm && n == ("combinations" : Str) && glB C n && notStar x && ckE a C x
    | _ => false
end

/-! ### suites, statements -/
def ckHP (C : Ck) (o : Option Nat) (y : Nat) : HP → Expr → Bool
  | .con d, e => ckCon e d
  | .fld k, e => match e with
    | .Attribute (.Name n _) f _ => (match o with | some i => slotB C i n | none => false) && decide (y ≠ 0) && (match C.flds[y]? with | some fs => fs[k]? == some f | none => false)
    | _ => false
  | .isi c, e => match e with
    | .Call (.Name q _) [.Name n _, .Name m _] [] _ => q == ("isinstance" : Str) && glB C q && (match o with | some i => slotB C i n | none => false) && glB C m && C.exs[c]? == some m
    | _ => false
def ckHPs (C : Ck) (o : Option Nat) (y : Nat) : List HP → List Expr → Bool
  | [], [] => true
  | p :: ps, e :: es => notStar e && ckHP C o y p e && ckHPs C o y ps es
  | _, _ => false
def ckHE (C : Ck) (o : Option Nat) (y : Nat) : HE → Expr → Bool
  | .one p, e => ckHP C o y p e
  | .tup ps, e => match e with
    | .Tuple es _ _ => decide (ps.length ≤ 1000) && ckHPs C o y ps es
    | _ => false
  | .var i, e => match e with
    | .Name n _ => slotB C i n
    | _ => false
def ckSu (C : Ck) (o : Option Nat) (y : Nat) : HSu → List Stmt → Bool
  | .asg j he, s => match s with
    | [.Assign [.Name n _] e _] => slotL C j n && notComp e && ckHE C o y he e
    | _ => false
  | .ret he, s => match s with
    | [.Return (some e) _] => ckHE C o y he e
    | _ => false
/-- is a comprehension stored without its value being seen? -/
def swB (C : Ck) (n : Str) (p1 : Pos) : Expr → Bool
  | .ListComp _ _ scope pos => kd C n == some .local && (p1.line == pos.line) && !(scope.names.any fun (m, k) => m == n && (k == .local || k == .cell))
  | _ => false
def oneIx : IEs → Nat → Bool
  | .nil, 0 => true
  | .cons _ es, n + 1 => oneIx es n
  | _, _ => false
mutual
def ckS : IS → Ck → Stmt → Bool
  | .set i e, C, s => match s with
    | .Assign [.Name n _] x _ => slotL C i n && ckE e C x
    | _ => false
  | .setT is e, C, s => match s with
    | .Assign [.Tuple ts _ _] x _ => notTup x && ts.all isName && slotsL C is ts && ckE e C x
    | _ => false
  | .par is es, C, s => match s with
    | .Assign [.Tuple ts _ _] (.Tuple xs _ _) _ => ts.all isName && slotsL C is ts && decide (ts.length ≤ 1000) && ckEs es C xs && decide is.Nodup && C.sc.kind == .function && (match swC C.sc ts xs with
      | some none => true
      | some (some ns) => ns == namesOf ts && ts.all fun t => match t with
        | .Name n _ => kd C n == some .local
        | _ => false
      | none => false)
    | _ => false
  | .sub i ix e, C, s => match s with
    | .Assign [.Subscript (.Name n _) y _] x _ => slotB C i n && notSlice y && ckE ix C y && ckE e C x
    | _ => false
  | .app i e, C, s => match s with
    | .Expr (.Call (.Attribute (.Name n _) m ap) [x] [] p) _ => m == ("append" : Str) && slotB C i n && lineB ap p && notStar x && ckE e C x
    | _ => false
  | .ext i e, C, s => match s with
    | .Expr (.Call (.Attribute (.Name n _) m ap) [x] [] p) _ => m == ("extend" : Str) && slotB C i n && lineB ap p && notStar x && ckE e C x
    | _ => false
  | .expr e, C, s => match s with
    | .Expr x _ => notComp x && ckE e C x
    | _ => false
  | .ret e, C, s => match s with
    | .Return (some x) _ => ckE e C x
    | _ => false
  | .retN, _, s => match s with
    | .Return none _ => true
    | _ => false
  | .ifs c a b, C, s => match s with
    | .If x A B _ => ckE c C x && ckSs a C A && ckSs b C B
    | _ => false
  | .for_ tg it body, C, s => match s with
    | .For tgE x SS [] _ => tgB C tg tgE && notSet x && ckI it C tgE x && ckSs body C SS
    | _ => false
  | .while_ c body, C, s => match s with
    | .While x SS [] _ => ckE c C x && ckSs body C SS
    | _ => false
  | .raise_ x as, C, s => match s with
    | .Raise (some (.Call (.Name n _) (y :: ys) [] _)) none _ => C.exs[x]? == some n && glB C n && (match C.flds[x]? with | some fs => oneIx as fs.length | none => false) && ckEs as C (y :: ys)
    | _ => false
  | .try_ body hs, C, s => match s with
    | .Try SS (h :: hds) [] [] _ => ckSs body C SS && ckHs hs C (h :: hds)
    | _ => false
  | .pass, _, s => match s with
    | .Pass _ => true
    | .Expr (.Constant (.str _) _ _) _ => true
    | _ => false
  | .brk, _, s => match s with
    | .Break _ => true
    | _ => false
  | .hole, _, _ => true
def ckSs : ISs → Ck → List Stmt → Bool
  | .nil, _, ss => ss.isEmpty
  | .cons s ss, C, SS => match SS with
    | S :: r => ckS s C S && ckSs ss C r
    | [] => false
def ckHs : IHs → Ck → List ExceptHandler → Bool
  | .nil, _, hs => hs.isEmpty
  | .cons y o su hs, C, HS => match HS with
    | .ExceptHandler (some (.Name x _)) nm (s :: suite) _ :: r => C.exs[y]? == some x && glB C x && (match o, nm with
      | none, none => true
      | some i, some n => slotB C i n && kd C n == some .local
      | _, _ => false) && ckSu C o y su (s :: suite) && ckHs hs C r
    | _ => false
end
end Rf
set_option Elab.async false
set_option linter.all false
set_option maxRecDepth 100000
set_option maxHeartbeats 1000000
/-! Rf21: what is checked is told rightly: expressions. -/
namespace Rf
open PySem PySem.Spec PyProof.Rows
open L2 hiding St

def bltN : List Str := ["isinstance", "len", "abs", "int", "bool", "tuple", "str", "list", "max", "min", "sum", "range", "enumerate", "zip", "reversed", "repr", "sorted", "set"]
/-- a context that fits what the checker knows -/
structure Good (C : Ck) (X : Cx) (R : Rc) (G : Env) (lv : Nat) : Prop where
  calm : X.calm = true
  nd : X.N.Nodup
  eN : X.N = C.N
  sc : X.env.scope = C.sc
  fn : ∀ n, C.cf n = true → X.fn n = true
  hu : X.A.units + 65 < cLine
  tk : Takes X R.W
  room : Room lv X.A
  gu : X.A.guards = some []
  blt : ∀ n ∈ bltN, X.mg n = none
  gcd : X.mg "gcd" = some (.builtin "math.gcd")
  cmb : C.cm = true → X.mg "combinations" = some (.type CB)
  fns : ∀ (f : Nat) (n : Str), C.fns[f]? = some n → ∃ fa fd ps, X.mg n = some (.ref fa) ∧ PySem.W.keepIn X.K (.ref fa) = true ∧ (RfX.PlainPar fd ps ∧ ps.Nodup ∧ ∀ qs, C.pars[f]? = some qs → ps = qs) ∧ ∀ m, FnG X.prog X.w X.K X.mg X.base lv fa fd ps (Fp X.K (R.L.shift m) R.xi (G.cl f))
  gls : ∀ (g : Nat) (n : Str), C.gls[g]? = some n → ∃ u v d, X.mg n = some u ∧ RelV v u ∧ G.gl[g]? = some d ∧ ∀ H, DF X.K H v d
  act : C.al = true → ∀ (pn : List (Addr × Obj)) (xe : Value → Shared → Prop) (W : WX), Takes (X.tr pn xe) W → ∀ (i : Nat) (n : Str) (p1 p2 : Pos), slotB C i n = true → PE (X.tr pn xe) (.Call (.Name n p1) [] [] p2) (Rd X.K (R.wish W) (ev G (.act i)))
  lam : C.lm = true → ∀ (pn : List (Addr × Obj)) (xe : Value → Shared → Prop) (W : WX), Takes (X.tr pn xe) W → ∀ (f : Nat) (n : Str) (params : Arguments) (body : Expr) (scope : Scope) (lpos p1 p2 : Pos) (ie : IE), glB C n = true → C.fns[f]? = some n → LamX.LamS X.env.scope scope → noPar params = true →
    (∀ (m : Nat) (A : Around) (outer : List PySem.Env) (s : Shared) (H : Hp) (E : XK) (fa c' : Addr), A.guards = X.A.guards → Room lv (A.deeper (LamX.lamEnv X scope s.heap.objs.size fa c')) → PE (LamX.lamCx X A outer s H E scope fa c') body (Rd X.K ⟨R.L.shift m, R.B, R.xi, fun cls d _ H => E cls d H⟩ (ev G ie))) →
    PE (X.tr pn xe) (.Call (.Name n p1) [.Lambda params body scope lpos] [] p2) (Rd X.K (R.wish W) (ev G (.lam f ie)))
section
variable {C : Ck} {X : Cx} {R : Rc} {G : Env} {lv : Nat}
theorem Good.fn0 (g : Good C X R G lv) {f : Nat} {n : Str} (h : C.fns[f]? = some n) : ∃ fa fd ps, X.mg n = some (.ref fa) ∧ PySem.W.keepIn X.K (.ref fa) = true ∧ (RfX.PlainPar fd ps ∧ ps.Nodup ∧ ∀ qs, C.pars[f]? = some qs → ps = qs) ∧ FnG X.prog X.w X.K X.mg X.base lv fa fd ps (Fp X.K R.L R.xi (G.cl f)) := by
  obtain ⟨fa, fd, ps, h1, h2, h3, F⟩ := g.fns f n h
  have F0 := F 0
  rw [Lw.shift_zero] at F0
  exact ⟨fa, fd, ps, h1, h2, h3, F0⟩
theorem okN_ok {n : Str} (h : okN n = true) : (n == ("__debug__" : Str)) = false ∧ (n == ("__classdict__" : Str)) = false := by
  unfold okN at h
  rw [Bool.and_eq_true, Bool.not_eq_true', Bool.not_eq_true'] at h
  exact h
theorem Good.slot (g : Good C X R G lv) {i : Nat} {n : Str} (h : slotB C i n = true) : X.N[i]? = some n ∧ Vis X.env.scope n ∧ (n == ("__debug__" : Str)) = false ∧ (n == ("__classdict__" : Str)) = false := by
  unfold slotB at h
  rw [Bool.and_eq_true, Bool.and_eq_true] at h
  obtain ⟨⟨h1, h2⟩, h3⟩ := h
  refine ⟨by rw [g.eN]; exact beq_iff_eq.mp h1, ?_, okN_ok h3⟩
  rw [g.sc]
  unfold kd at h2
  show C.sc.names.lookup n = some .local ∨ C.sc.names.lookup n = some .cell ∨ C.sc.names.lookup n = some .free
  cases hk : C.sc.names.lookup n with
  | none => rw [hk] at h2; cases h2
  | some k =>
    rw [hk] at h2
    cases k with
    | «local» => exact .inl rfl
    | cell => exact .inr (.inl rfl)
    | free => exact .inr (.inr rfl)
    | _ => cases h2
theorem Good.slotL (g : Good C X R G lv) {i : Nat} {n : Str} (h : Rf.slotL C i n = true) : X.N[i]? = some n ∧ Loc X.env.scope n ∧ (X.fn n = true ∨ X.env.scope.names.lookup n = some .local) ∧ (n == ("__debug__" : Str)) = false ∧ (n == ("__classdict__" : Str)) = false := by
  unfold Rf.slotL at h
  rw [Bool.and_eq_true, Bool.and_eq_true, Bool.or_eq_true, Bool.and_eq_true] at h
  obtain ⟨⟨h1, h2⟩, h3⟩ := h
  refine ⟨by rw [g.eN]; exact beq_iff_eq.mp h1, ?_, ?_, okN_ok h3⟩
  · rw [g.sc]
    rcases h2 with h2 | ⟨h2, _⟩
    · exact .inl (beq_iff_eq.mp h2)
    · exact .inr (beq_iff_eq.mp h2)
  · rw [g.sc]
    rcases h2 with h2 | ⟨_, h2⟩
    · exact .inr (beq_iff_eq.mp h2)
    · exact .inl (g.fn n h2)
theorem Good.gl (g : Good C X R G lv) {n : Str} (h : glB C n = true) : Gl X n ∧ (n == ("__debug__" : Str)) = false := by
  unfold glB at h
  rw [Bool.and_eq_true] at h
  refine ⟨?_, (okN_ok h.2).1⟩
  show X.env.scope.names.lookup n = _
  rw [g.sc]
  exact beq_iff_eq.mp h.1
theorem Good.bl (g : Good C X R G lv) {n : Str} (h : glB C n = true) (hb : n ∈ bltN) : Gl X n ∧ X.mg n = none := ⟨(g.gl h).1, g.blt n hb⟩
theorem takesF {X : Cx} : Takes X (fun _ _ _ _ => False) := fun _ _ x => by
  obtain ⟨_, _, _, _, _, _, _, _, _, _, _, _, _, _, _, _, z⟩ := x
  exact z.elim
theorem Good.blk (g : Good C X R G lv) (scope : Scope) (s : Shared) (H : Hp) (Cc : Addr) (cl : List (Str × Addr)) (fp : List Addr) : Good (C.blk scope) (X.blk s H scope (compEnvC scope cl Cc X.env) fp) R.mute G lv where
  calm := g.calm
  nd := g.nd
  eN := g.eN
  sc := by
    show relS scope X.env.scope = relS scope C.sc
    rw [g.sc]
  fn := fun n h => h
  hu := g.hu
  tk := takesF
  room := g.room
  gu := g.gu
  blt := g.blt
  gcd := g.gcd
  cmb := g.cmb
  fns := g.fns
  gls := g.gls
  act := fun h => by cases h
  lam := fun h => by cases h
theorem Good.inLam (g : Good C X R G lv) (m : Nat) {A : Around} {outer : List PySem.Env} {s : Shared} {H : Hp} {E : XK} {scope : Scope} {fa c' : Addr} (gu : A.guards = X.A.guards) (hr : Room lv (A.deeper (LamX.lamEnv X scope s.heap.objs.size fa c'))) :
    Good (C.lam scope) (LamX.lamCx X A outer s H E scope fa c') ⟨R.L.shift m, R.B, R.xi, fun cls d _ H => E cls d H⟩ G lv where
  calm := rfl
  nd := g.nd
  eN := g.eN
  sc := rfl
  fn := fun n h => by cases h
  hu := by
    have := hr.un
    show (A.deeper _).units + 65 < cLine
    omega
  tk := takes_of rfl rfl rfl rfl
  room := hr
  gu := gu.trans g.gu
  blt := g.blt
  gcd := g.gcd
  cmb := g.cmb
  fns := fun f n h => let ⟨fa, fd, ps, h1, h2, h3, F⟩ := g.fns f n h; ⟨fa, fd, ps, h1, h2, h3, fun k => by rw [Lw.shift_shift]; exact F (m + k)⟩
  gls := g.gls
  act := fun h => by cases h
  lam := fun h => by cases h
theorem con_ok {e : Expr} {d : PyData} (h : ckCon e d = true) : ∃ v, PE X e (tC v) ∧ ∀ H, DF X.K H v d := by
  unfold ckCon at h
  split at h
  · have := beq_iff_eq.mp h
    subst this
    exact ⟨_, pe_int, fun _ => .int _⟩
  · have := beq_iff_eq.mp h
    subst this
    exact ⟨_, pe_bl, fun _ => .bl _⟩
  · exact ⟨_, pe_non, fun _ => .non⟩
  · have := beq_iff_eq.mp h
    subst this
    exact ⟨_, pe_str, fun _ => .str _⟩
  · cases h
theorem op_ok {o : Operator} {op : IOp} (h : opEq o op = true) : o = opOf op := by
  cases o <;> cases op <;> first | rfl | cases h
theorem cm_ok {o : CmpOp} {op : ICmp} (h : cmEq o op = true) : o = cmpOf op := by
  cases o <;> cases op <;> first | rfl | cases h
/-- not a test of its own -/
def Ex.isBo : Expr → Bool
  | .BoolOp _ _ _ => true
  | _ => false
theorem both {e : Expr} {ie : IE} (h : PE X e (Rd X.K R (ev G ie))) (hp : plainT e = true) (hb : (Ex.isBo e) = false) : PE X e (Rd X.K R (ev G ie)) ∧ PT X e (RdT X.K R (ev G ie)) ∧ ((Ex.isBo e) = true → PW X e (RdT X.K R (ev G ie))) :=
  ⟨h, pt_plain h (plainT_ok hp), fun z => by rw [hb] at z; cases z⟩
end
def SndE (ie : IE) : Prop := ∀ (C : Ck) (X : Cx) (R : Rc) (G : Env) (lv : Nat) (e : Expr), Good C X R G lv → ckE ie C e = true → PE X e (Rd X.K R (ev G ie)) ∧ PT X e (RdT X.K R (ev G ie)) ∧ ((Ex.isBo e) = true → PW X e (RdT X.K R (ev G ie)))
def SndEs (as : IEs) : Prop := ∀ (C : Ck) (X : Cx) (R : Rc) (G : Env) (lv : Nat) (xs : List Expr), Good C X R G lv → ckEs as C xs = true →
  xs.all notStar = true ∧ PA X xs (RdL X.K R (evs G as)) ∧ PA X xs (RdC X.K R (evc G as)) ∧ PA X xs (RdB X.K R (evb G as)) ∧ PA X xs (RdN X.K R (evn G as)) ∧ as.len = xs.length ∧ ∀ a x, as = .cons a .nil → xs = [x] → PE X x (RdP X.K R G a) ∧ PE X x (Rd X.K R (ev G a))
def SndO (o : IO) : Prop := ∀ (C : Ck) (X : Cx) (R : Rc) (G : Env) (lv : Nat) (x : Option Expr), Good C X R G lv → ckO o C x = true →
  PO X x (fun σ H Q => ∃ st, RelS X.K R.L R.B H σ st ∧ (evo G o st).All (fun p => ∀ H', Stp R.L σ st p.2 H H' → RelS X.K R.L R.B H' σ p.2 → Q p.1 H') (EW X.K R σ st H))
def SndQ (o : IO) : Prop := ∀ (C : Ck) (X : Cx) (R : Rc) (G : Env) (lv : Nat) (ifs : List Expr), Good C X R G lv → ckQ o C ifs = true → PTs X ifs (RdT X.K R (evq G o))
def SndI (it : II) : Prop := ∀ (C : Ck) (X : Cx) (R : Rc) (G : Env) (lv : Nat) (tg e : Expr), Good C X R G lv → ckI it C tg e = true → PI X tg e (RdI X.K R (evi G it))
theorem SndE.p {ie : IE} (h : SndE ie) {C : Ck} {X : Cx} {R : Rc} {G : Env} {lv : Nat} {e : Expr} (g : Good C X R G lv) (hc : ckE ie C e = true) : PE X e (RdP X.K R G ie) := by
  by_cases hv : notVar ie = true
  · exact pe_pkR (h C X R G lv e g hc).1 hv
  · cases ie with
    | var i =>
      unfold ckE at hc
      split at hc
      · obtain ⟨h1, h2, h3, h4⟩ := g.slot hc
        exact pe_peekR h1 h2 h3 h4
      · cases hc
    | _ => exact absurd rfl hv
theorem and3 {a b c : Bool} (h : (a && b && c) = true) : a = true ∧ b = true ∧ c = true := by
  rw [Bool.and_eq_true, Bool.and_eq_true] at h
  exact ⟨h.1.1, h.1.2, h.2⟩
theorem and2 {a b : Bool} (h : (a && b) = true) : a = true ∧ b = true := Bool.and_eq_true_iff.mp h
theorem snd_bin {op : IOp} {a b : IE} (ha : SndE a) (hb : SndE b) : SndE (.bin op a b) := by
  intro C X R G lv e g h
  unfold ckE at h
  split at h
  · obtain ⟨h1, h2, h3⟩ := and3 h
    have := op_ok h1
    subst this
    exact both (pe_binR (ha.p g h2) (hb.p g h3)) rfl rfl
  · cases h
theorem snd_neg {a : IE} (ha : SndE a) : SndE (.neg a) := by
  intro C X R G lv e g h
  unfold ckE at h
  split at h
  · exact both (pe_negR (ha C X R G lv _ g h).1) rfl rfl
  · cases h
theorem snd_inv {a : IE} (ha : SndE a) : SndE (.inv a) := by
  intro C X R G lv e g h
  unfold ckE at h
  split at h
  · obtain ⟨h1, h2, _⟩ := ha C X R G lv _ g h
    exact ⟨pe_invR h1, pt_invR h2, fun z => by cases z⟩
  · cases h
theorem snd_and {a b : IE} (ha : SndE a) (hb : SndE b) : SndE (.and_ a b) := by
  intro C X R G lv e g h
  unfold ckE at h
  split at h
  · obtain ⟨h1, h2⟩ := and2 h
    obtain ⟨a1, a2, _⟩ := ha C X R G lv _ g h1
    split at h2
    · obtain ⟨b1, b2, _⟩ := hb C X R G lv _ g h2
      exact ⟨pe_andR a1 (pe_one b1), (pt_andR a2 (pw_and1 b2)).pt, fun _ => pt_andR a2 (pw_and1 b2)⟩
    · obtain ⟨b1, _, b3⟩ := hb C X R G lv _ g h2
      exact ⟨pe_andR a1 b1, (pt_andR a2 (b3 rfl)).pt, fun _ => pt_andR a2 (b3 rfl)⟩
    · cases h2
  · cases h
theorem snd_or {a b : IE} (ha : SndE a) (hb : SndE b) : SndE (.or_ a b) := by
  intro C X R G lv e g h
  unfold ckE at h
  split at h
  · obtain ⟨h1, h2⟩ := and2 h
    obtain ⟨a1, a2, _⟩ := ha C X R G lv _ g h1
    split at h2
    · obtain ⟨b1, b2, _⟩ := hb C X R G lv _ g h2
      exact ⟨pe_orR a1 (pe_one b1), (pt_orR a2 (pw_or1 b2)).pt, fun _ => pt_orR a2 (pw_or1 b2)⟩
    · obtain ⟨b1, _, b3⟩ := hb C X R G lv _ g h2
      exact ⟨pe_orR a1 b1, (pt_orR a2 (b3 rfl)).pt, fun _ => pt_orR a2 (b3 rfl)⟩
    · cases h2
  · cases h
theorem snd_cmp {op : ICmp} {a b : IE} (ha : SndE a) (hb : SndE b) : SndE (.cmp op a b) := by
  intro C X R G lv e g h
  unfold ckE at h
  split at h
  · obtain ⟨h0, h3⟩ := and2 h
    obtain ⟨h1, h2, h2'⟩ := and3 h0
    have := cm_ok h1
    subst this
    exact ⟨pe_cmpR' g.hu (ha.p g h2') (hb.p g h3) (behind_ok h2), pt_cmpA g.hu (ha.p g h2') (hb.p g h3) (behind_ok h2), fun z => by cases z⟩
  · cases h
theorem snd_chain {o1 o2 : ICmp} {a b c : IE} (ha : SndE a) (hb : SndE b) (hc : SndE c) : SndE (.chain o1 o2 a b c) := by
  intro C X R G lv e g h
  unfold ckE at h
  split at h
  · obtain ⟨h0, h6⟩ := and2 h
    obtain ⟨h0, h5⟩ := and2 h0
    obtain ⟨h0, h4⟩ := and2 h0
    obtain ⟨h1, h2, h3⟩ := and3 h0
    have := cm_ok h1
    subst this
    have := cm_ok h2
    subst this
    have hm := behind_ok (op := cmpOf o2) h3
    exact ⟨pe_chainR g.hu (ha C X R G lv _ g h4).1 (hb C X R G lv _ g h5).1 (hc C X R G lv _ g h6).1 hm, pt_chainR g.hu (ha C X R G lv _ g h4).1 (hb C X R G lv _ g h5).1 (hc C X R G lv _ g h6).1 hm, fun z => by cases z⟩
  · cases h
theorem snd_isN {a : IE} (ha : SndE a) : SndE (.isN a) := by
  intro C X R G lv e g h
  unfold ckE at h
  split at h
  · exact ⟨pe_isNR (ha.p g h), pt_isNR (ha.p g h), fun z => by cases z⟩
  · cases h
theorem snd_notN {a : IE} (ha : SndE a) : SndE (.notN a) := by
  intro C X R G lv e g h
  unfold ckE at h
  split at h
  · exact ⟨pe_notNR (ha.p g h), pt_notNR (ha.p g h), fun z => by cases z⟩
  · cases h
theorem snd_ite {c a b : IE} (hc : SndE c) (ha : SndE a) (hb : SndE b) : SndE (.ite c a b) := by
  intro C X R G lv e g h
  unfold ckE at h
  split at h
  · obtain ⟨h1, h2, h3⟩ := and3 h
    obtain ⟨_, c2, _⟩ := hc C X R G lv _ g h1
    obtain ⟨a1, a2, _⟩ := ha C X R G lv _ g h2
    obtain ⟨b1, b2, _⟩ := hb C X R G lv _ g h3
    exact ⟨pe_iteR c2 a1 b1, pt_iteR c2 a2 b2, fun z => by cases z⟩
  · cases h
theorem snd_tup {es : IEs} (hs : SndEs es) : SndE (.tup es) := by
  intro C X R G lv e g h
  unfold ckE at h
  split at h
  · exact both (pe_tupR (hs C X R G lv _ g h).2.1) rfl rfl
  · cases h
theorem snd_lst {es : IEs} (hs : SndEs es) : SndE (.lst es) := by
  intro C X R G lv e g h
  unfold ckE at h
  split at h
  · exact both (pe_lstR (hs C X R G lv _ g h).2.1) rfl rfl
  · cases h
theorem snd_idx {a b : IE} (ha : SndE a) (hb : SndE b) : SndE (.idx a b) := by
  intro C X R G lv e g h
  unfold ckE at h
  split at h
  · obtain ⟨h1, h2, h3⟩ := and3 h
    exact both (pe_idxR (ha.p g h2) (hb.p g h3) (plainIx_ok h1)) rfl rfl
  · cases h
theorem snd_slc {a : IE} {lo hi : IO} (ha : SndE a) (hl : SndO lo) (hh : SndO hi) : SndE (.slc a lo hi) := by
  intro C X R G lv e g h
  unfold ckE at h
  split at h
  · obtain ⟨h1, h2, h3⟩ := and3 h
    exact both (pe_slcR (ha.p g h1) (hl C X R G lv _ g h2) (hh C X R G lv _ g h3)) rfl rfl
  · cases h
theorem snd_rev {a : IE} (ha : SndE a) : SndE (.rev a) := by
  intro C X R G lv e g h
  unfold ckE at h
  split at h
  · exact both (pe_revR (ha.p g h)) rfl rfl
  · cases h
theorem snd_call {f : Nat} {as : IEs} (hs : SndEs as) : SndE (.call f as) := by
  intro C X R G lv e g h
  unfold ckE at h
  split at h
  · rename_i n p xs pos
    obtain ⟨h1, h2, h3⟩ := and3 h
    obtain ⟨hg, hdb⟩ := g.gl h1
    obtain ⟨fa, fd, ps, hm, hk, ⟨PP, pnd, _⟩, F⟩ := g.fn0 (beq_iff_eq.mp h2)
    have hb : Binds X.K fd ps [] := Binds.all fun us hl => RfX.bind_plain PP pnd us hl
    obtain ⟨k1, k2, k3, k4, k5, k6, k7⟩ := hs C X R G lv _ g h3
    cases xs with
    | nil =>
      cases as with
      | nil => exact both (pe_callR0 (gu := g.gu) g.tk F g.room hg hm hk hb hdb) rfl rfl
      | cons a as => cases k6
    | cons x xs =>
      rw [List.all_cons, Bool.and_eq_true] at k1
      exact both (pe_callR (gu := g.gu) g.tk F g.room hg hm hk hb k3 hdb (star_ok k1.1) (star_plain k1.2)) rfl rfl
  · cases h
def SndK (as : IEs) : Prop := ∀ (C : Ck) (X : Cx) (R : Rc) (G : Env) (lv : Nat) (kws : List Keyword), Good C X R G lv → ckEs as C (kws.map (·.value)) = true → PK X kws (RdC X.K R (evc G as)) ∧ as.len = kws.length
theorem sndk_nil : SndK .nil := by
  intro C X R G lv kws g h
  unfold ckEs at h
  cases kws with
  | nil => exact ⟨pk_nilR, rfl⟩
  | cons k r => cases h
theorem sndk_cons {a : IE} {as : IEs} (ha : SndE a) (hs : SndK as) : SndK (.cons a as) := by
  intro C X R G lv kws g h
  unfold ckEs at h
  cases kws with
  | nil => cases h
  | cons k r =>
    obtain ⟨nm, v, kp⟩ := k
    have h : (notStar v && ckE a C v && ckEs as C (r.map (·.value))) = true := h
    obtain ⟨_, h2, h3⟩ := and3 h
    obtain ⟨k1, k2⟩ := hs C X R G lv r g h3
    refine ⟨pk_consR (ha C X R G lv v g h2).1 k1, ?_⟩
    show as.len + 1 = r.length + 1
    rw [k2]
theorem snd_kcall {f : Nat} {ks : List Nat} {as bs : IEs} (hs : SndEs as) (hb : SndK bs) : SndE (.kcall f ks as bs) := by
  intro C X R G lv e g h
  unfold ckE at h
  split at h
  · rename_i n p xs kws pos
    obtain ⟨h1, h2, h3⟩ := and3 h
    obtain ⟨hg, hdb⟩ := g.gl h1
    obtain ⟨fa, fd, ps, hm, hk, ⟨PP, pnd, hq⟩, F⟩ := g.fn0 (beq_iff_eq.mp h2)
    split at h3
    · rename_i qs hqs
      have := hq qs hqs
      subst this
      split at h3
      · rename_i kn _
        obtain ⟨h3, h7⟩ := and2 h3
        obtain ⟨h4, h5, h6⟩ := and3 h3
        have hkn := of_decide_eq_true h5
        obtain ⟨k1, k2, k3, k4, k5, k6, k7⟩ := hs C X R G lv _ g h6
        obtain ⟨b1, b2⟩ := hb C X R G lv kws g h7
        have lk : kws.length = kn.length := by
          have := congrArg List.length hkn
          rw [List.length_map, List.length_map] at this
          exact this
        refine both (pe_kcallR g.tk F g.gu g.room hg hm hk PP (by rw [k6]; exact h4) (by rw [b2, lk]) k3 b1 hkn hdb (fun x r e => ?_) ?_ (fun e => ?_)) rfl rfl
        · subst e
          rw [List.all_cons, Bool.and_eq_true] at k1
          exact star_ok k1.1
        · exact star_plain k1
        · subst e
          cases as with
          | nil => rfl
          | cons a as => cases k6
      · cases h3
    · cases h3
  · cases h
theorem isiN_ok {f : IB} {t : Str} (h : isiN f = some t) : ∃ T : String, isiT f = some T ∧ bootBuiltins t = some (.type T) ∧ t ∈ bltN ∧ t ≠ "__name__" := by
  cases f <;> first | (cases h; done) | skip
  · cases h; exact ⟨"int", rfl, by decide +kernel, by decide +kernel, by decide +kernel⟩
  · cases h; exact ⟨"bool", rfl, by decide +kernel, by decide +kernel, by decide +kernel⟩
  · cases h; exact ⟨"tuple", rfl, by decide +kernel, by decide +kernel, by decide +kernel⟩
  · cases h; exact ⟨"str", rfl, by decide +kernel, by decide +kernel, by decide +kernel⟩
theorem snd_bi {f : IB} {as : IEs} (hs : SndEs as) : SndE (.bi f as) := by
  intro C X R G lv e g h
  unfold ckE at h
  split at h
  · rename_i n p xs pos
    split at h
    · rename_i t ht
      obtain ⟨h1, h2, h3⟩ := and3 h
      have := beq_iff_eq.mp h1
      subst this
      split at h3
      · rename_i x m p2
        obtain ⟨h4, h5, h6⟩ := and3 h3
        have := beq_iff_eq.mp h4
        subst this
        obtain ⟨T, t1, t2, t3, t4⟩ := isiN_ok ht
        obtain ⟨k1, k2, k3, k4, k5, k6, k7⟩ := hs C X R G lv _ g h6
        rw [List.all_cons, Bool.and_eq_true] at k1
        cases as with
        | nil => cases k6
        | cons a as =>
          cases as with
          | cons b as => cases k6
          | nil =>
            obtain ⟨hg1, hm1⟩ := g.bl h2 (by decide +kernel)
            obtain ⟨hg2, hm2⟩ := g.bl h5 t3
            exact both (pe_isiR t1 hg1 hm1 hg2 hm2 t2 t4 (g.gl h5).2 (k7 a x rfl rfl).1 (star_ok k1.1)) rfl rfl
      · cases h3
    · rename_i ht
      obtain ⟨h0, h4⟩ := and2 h
      obtain ⟨h1, h2, h3⟩ := and3 h0
      obtain ⟨k1, k2, k3, k4, k5, k6, k7⟩ := hs C X R G lv _ g h4
      cases xs with
      | nil => cases h3
      | cons x xs =>
        rw [List.all_cons, Bool.and_eq_true] at k1
        have e1 := star_ok (xs := xs) (env := X.env) k1.1
        have e2 := star_plain (env := X.env) (pos := pos) k1.2
        have hdb := (g.gl h2).2
        have hn := (beq_iff_eq.mp h1)
        cases f with
        | len => cases hn; obtain ⟨hg1, hm1⟩ := g.bl h2 (by decide +kernel); exact both (pe_biB b_len hg1 hm1 (by decide +kernel) k4 (by decide +kernel) hdb e1 e2) rfl rfl
        | abs => cases hn; obtain ⟨hg1, hm1⟩ := g.bl h2 (by decide +kernel); exact both (pe_biB b_abs hg1 hm1 (by decide +kernel) k4 (by decide +kernel) hdb e1 e2) rfl rfl
        | max => cases hn; obtain ⟨hg1, hm1⟩ := g.bl h2 (by decide +kernel); exact both (pe_biB (b_max g.calm) hg1 hm1 (by decide +kernel) k4 (by decide +kernel) hdb e1 e2) rfl rfl
        | min => cases hn; obtain ⟨hg1, hm1⟩ := g.bl h2 (by decide +kernel); exact both (pe_biB (b_min g.calm) hg1 hm1 (by decide +kernel) k4 (by decide +kernel) hdb e1 e2) rfl rfl
        | sum => cases hn; obtain ⟨hg1, hm1⟩ := g.bl h2 (by decide +kernel); exact both (pe_biB (b_sum g.calm) hg1 hm1 (by decide +kernel) k4 (by decide +kernel) hdb e1 e2) rfl rfl
        | int => cases hn; obtain ⟨hg1, hm1⟩ := g.bl h2 (by decide +kernel); exact both (pe_biT b_int hg1 hm1 (by decide +kernel) k4 (by decide +kernel) hdb e1 e2) rfl rfl
        | tuple => cases hn; obtain ⟨hg1, hm1⟩ := g.bl h2 (by decide +kernel); exact both (pe_biT b_tuple hg1 hm1 (by decide +kernel) k4 (by decide +kernel) hdb e1 e2) rfl rfl
        | list => cases hn; obtain ⟨hg1, hm1⟩ := g.bl h2 (by decide +kernel); exact both (pe_biT b_list hg1 hm1 (by decide +kernel) k4 (by decide +kernel) hdb e1 e2) rfl rfl
        | sorted => cases hn; obtain ⟨hg1, hm1⟩ := g.bl h2 (by decide +kernel); exact both (pe_biB b_sorted hg1 hm1 (by decide +kernel) k4 (by decide +kernel) hdb e1 e2) rfl rfl
        | gcd => cases hn; exact both (pe_biG b_gcd (g.gl h2).1 g.gcd k4 hdb e1 e2) rfl rfl
        | _ => cases hn
  · cases h
theorem tgOwn_one {tg : List Nat} {tgE : Expr} (h : (tgOwn tg tgE).map (·.2) = tg) : ∀ i, i ∈ (tgOwn tg tgE).map (·.2) ↔ i ∈ tg := fun i => by rw [h]
theorem slotsL_pg {C : Ck} {X : Cx} {R : Rc} {G : Env} {lv : Nat} (g : Good C X R G lv) : ∀ (tg : List Nat) (ts : List Expr), slotsL C tg ts = true → PGs X ts (gRds X.K R tg) ∧ ts.all isName = true ∧ tg.length = ts.length ∧ PGs X ts (gSet tg)
  | [], [], _ => ⟨pgs_nilR, rfl, rfl, pgs_nilS⟩
  | [], t :: ts, h => by cases h
  | i :: is, [], h => by cases h
  | i :: is, t :: ts, h => by
    cases t with
    | Name n p =>
      have h' : (slotL C i n && slotsL C is ts) = true := h
      obtain ⟨h1, h2⟩ := and2 h'
      obtain ⟨k1, k2, k3, k4, k5⟩ := g.slotL h1
      obtain ⟨m1, m2, m3, m4⟩ := slotsL_pg g is ts h2
      have hs : (assignEach (.Name n p :: ts) X.env).map (·.2) = assign (.Name n p) X.env :: (assignEach ts X.env).map (·.2) := by rw [assign_cons rfl]; rfl
      exact ⟨pgs_consR (pg_oneR g.nd k1 k2 k3) m1 hs, by rw [List.all_cons, m2]; rfl, by rw [List.length_cons, List.length_cons, m3], pgs_consS g.nd k1 k2 k3 m4 hs⟩
    | _ => cases h
theorem tgB_pg {C : Ck} {X : Cx} {R : Rc} {G : Env} {lv : Nat} (g : Good C X R G lv) {tg : List Nat} {tgE : Expr} (h : tgB C tg tgE = true) : PG X tgE (gRd X.K R tg) := by
  unfold tgB at h
  split at h
  · split at h
    · obtain ⟨k1, k2, k3, k4, k5⟩ := g.slotL h
      exact pg_oneR g.nd k1 k2 k3
    · cases h
  · obtain ⟨h1, h2, h3⟩ := and3 h
    obtain ⟨m1, m2, m3, _⟩ := slotsL_pg g _ _ h3
    exact pg_manyR g.calm m1 (assign_len m2) (assign_star m2) m3 (of_decide_eq_true h1)
  · cases h
theorem snd_lc {elt : IE} {tg : List Nat} {it : II} {test : IO} (he : SndE elt) (hi : SndI it) (hq : SndQ test) : SndE (.lc elt tg it test) := by
  intro C X R G lv e g h
  unfold ckE at h
  split at h
  · rename_i el tgE iter ifs k scope pos
    obtain ⟨h, h8⟩ := and2 h
    obtain ⟨h, h7⟩ := and2 h
    obtain ⟨h, h6⟩ := and2 h
    obtain ⟨h, h5⟩ := and2 h
    obtain ⟨h, h4⟩ := and2 h
    obtain ⟨h1, h2, h3⟩ := and3 h
    have := of_decide_eq_true h1
    subst this
    have ok : BlkOk X.N X.env.scope scope (tgOwn tg tgE) := by
      rw [g.eN, g.sc]
      exact blkOk_by h3
    refine both (pe_lcR g.calm g.nd (hi C X R G lv _ _ g h6) ok (tgOwn_one (of_decide_eq_true h4)) (fun s H Cc cl fp => ?_) (fun s H Cc cl fp => ?_) (fun s H Cc cl fp => ?_) (folded_ok h5)) rfl rfl
    · exact tgB_pg (g.blk scope s H Cc cl fp) h2
    · exact hq _ _ _ _ lv _ (g.blk scope s H Cc cl fp) h8
    · exact (he _ _ _ _ lv _ (g.blk scope s H Cc cl fp) h7).1
  · cases h
theorem snd_act {i : Nat} : SndE (.act i) := by
  intro C X R G lv e g h
  unfold ckE at h
  split at h
  · obtain ⟨h1, h2⟩ := and2 h
    exact both (g.act h1 X.pn X.xe R.W g.tk i _ _ _ h2) rfl rfl
  · cases h
theorem snd_req {i j : Nat} : SndE (.req i j) := by
  intro C X R G lv e g h
  unfold ckE at h
  split at h
  · obtain ⟨h, h5⟩ := and2 h
    obtain ⟨h, h4⟩ := and2 h
    obtain ⟨h1, h2, h3⟩ := and3 h
    have := beq_iff_eq.mp h1
    subst this
    have := beq_iff_eq.mp h2
    subst this
    obtain ⟨hg, hm⟩ := g.bl h3 (by decide)
    obtain ⟨a1, a2, a3, a4⟩ := g.slot h4
    obtain ⟨b1, b2, b3, b4⟩ := g.slot h5
    obtain ⟨k1, k2⟩ := pe_reqR (X := X) (R := R) (G := G) g.gu g.hu hg hm a1 a2 a3 a4 b1 b2 b3 b4
    exact ⟨k1, k2, fun z => by cases z⟩
  · cases h
theorem snd_join {sep : Str} {a : IE} (ha : SndE a) : SndE (.join sep a) := by
  intro C X R G lv e g h
  unfold ckE at h
  split at h
  · obtain ⟨h, h5⟩ := and2 h
    obtain ⟨h, h4⟩ := and2 h
    obtain ⟨h1, h2, h3⟩ := and3 h
    have := beq_iff_eq.mp h1
    subst this
    have := beq_iff_eq.mp h2
    subst this
    exact both (pe_joinR (ha.p g h5) (star_ok h3) h4) rfl rfl
  · cases h
theorem snd_hole : SndE .hole := fun C X R G lv e g _ => ⟨⟨fun pins s σ H Q I ⟨st, hr, q⟩ => by
    unfold ev at q
    exact q.elim⟩, ⟨fun pins s σ H Q I ⟨st, hr, q⟩ => by
    unfold ev at q
    exact q.elim⟩, fun _ => ⟨fun whole pins s σ H Q I ⟨st, hr, q⟩ => by
    unfold ev at q
    exact q.elim⟩⟩
theorem snd_lam {f : Nat} {b : IE} (hb : SndE b) : SndE (.lam f b) := by
  intro C X R G lv e g h
  unfold ckE at h
  split at h
  · rename_i n p1 params x scope lpos p2
    obtain ⟨h, h6⟩ := and2 h
    obtain ⟨h, h5⟩ := and2 h
    obtain ⟨h, h4⟩ := and2 h
    obtain ⟨h1, h2, h3⟩ := and3 h
    refine both (g.lam h1 X.pn X.xe R.W g.tk f n params x scope lpos p1 p2 b h2 (beq_iff_eq.mp h3) ?_ h5 fun m A outer s H E fa c' gu hr => (hb _ _ _ _ lv _ (g.inLam m gu hr) h6).1) rfl rfl
    rw [g.sc]
    exact LamX.lamS_by h4
  · cases h
theorem snd_pop {i : Nat} : SndE (.pop i) := by
  intro C X R G lv e g h
  unfold ckE at h
  split at h
  · obtain ⟨h1, h2, h3⟩ := and3 h
    have := beq_iff_eq.mp h1
    subst this
    obtain ⟨k1, k2, k3, k4⟩ := g.slot h2
    exact both (pe_popR k1 k2 k3 k4 (by rfl) h3) rfl rfl
  · cases h
theorem snd_con {d : PyData} : SndE (.con d) := by
  intro C X R G lv e g h
  unfold ckE at h
  obtain ⟨v, h1, h2⟩ := con_ok (X := X) h
  refine both (pe_conR h1 h2) ?_ ?_
  · unfold ckCon at h; split at h <;> first | rfl | cases h
  · unfold ckCon at h; split at h <;> first | rfl | cases h
theorem snd_var {i : Nat} : SndE (.var i) := by
  intro C X R G lv e g h
  unfold ckE at h
  split at h
  · obtain ⟨k1, k2, k3, k4⟩ := g.slot h
    exact both (pe_takeR k1 k2 k3 k4) rfl rfl
  · cases h
theorem snd_gl {k : Nat} : SndE (.gl k) := by
  intro C X R G lv e g h
  unfold ckE at h
  split at h
  · obtain ⟨h1, h2⟩ := and2 h
    obtain ⟨hg, hdb⟩ := g.gl h1
    obtain ⟨u, v, d, e1, e2, e3, e4⟩ := g.gls k _ (beq_iff_eq.mp h2)
    exact both (pe_glR hg e1 e2 hdb e3 e4) rfl rfl
  · cases h
theorem snd_nil : SndEs .nil := by
  intro C X R G lv xs g h
  unfold ckEs at h
  cases xs with
  | nil => exact ⟨rfl, pa_nilR, pac_nilR, pab_nilR, pan_nilR, rfl, fun a x e => by cases e⟩
  | cons x xs => cases h
theorem snd_cons {a : IE} {as : IEs} (ha : SndE a) (hs : SndEs as) : SndEs (.cons a as) := by
  intro C X R G lv xs g h
  unfold ckEs at h
  cases xs with
  | nil => cases h
  | cons x xs =>
    obtain ⟨h1, h2, h3⟩ := and3 h
    have a1 := (ha C X R G lv _ g h2).1
    have a2 := ha.p g h2
    obtain ⟨k1, k2, k3, k4, k5, k6, k7⟩ := hs C X R G lv _ g h3
    have e := star_ok (xs := xs) (env := X.env) h1
    refine ⟨by rw [List.all_cons, h1, k1]; rfl, pa_consR a1 k2 e, pac_consR a1 k3 e, pab_consR a2 k4 e, pan_consR a1 k5 e, by show as.len + 1 = _; rw [k6, List.length_cons], fun b y e1 e2 => ?_⟩
    cases e1
    cases e2
    exact ⟨a2, a1⟩
theorem snd_none : SndO .none := by
  intro C X R G lv x g h
  unfold ckO at h
  cases x with
  | none => exact po_noneR
  | some x => cases h
theorem snd_some {a : IE} (ha : SndE a) : SndO (.some a) := by
  intro C X R G lv x g h
  unfold ckO at h
  cases x with
  | none => cases h
  | some x => exact po_someR (ha C X R G lv _ g h).1
theorem snd_q0 : SndQ .none := by
  intro C X R G lv x g h
  unfold ckQ at h
  cases x with
  | nil => exact pts_nilR
  | cons x xs => cases h
theorem snd_q1 {a : IE} (ha : SndE a) : SndQ (.some a) := by
  intro C X R G lv x g h
  unfold ckQ at h
  split at h
  · exact pts_oneR (ha C X R G lv _ g h).2.1
  · cases h
theorem isTup_ok {e : Expr} (h : isTup e = true) : ∃ es k p, e = .Tuple es k p := by
  cases e <;> first | exact ⟨_, _, _, rfl⟩ | cases h
theorem snd_seq {a : IE} (ha : SndE a) : SndI (.seq a) := by
  intro C X R G lv tg e g h
  unfold ckI at h
  exact pi_seqR (ha C X R G lv _ g h).1
theorem snd_enum {a : IE} (ha : SndE a) : SndI (.enum a) := by
  intro C X R G lv tg e g h
  unfold ckI at h
  split at h
  · obtain ⟨h, h5⟩ := and2 h
    obtain ⟨h, h4⟩ := and2 h
    obtain ⟨h1, h2, h3⟩ := and3 h
    obtain ⟨es, k, p, rfl⟩ := isTup_ok h1
    have := beq_iff_eq.mp h2
    subst this
    obtain ⟨hg, hm⟩ := g.bl h3 (by decide +kernel)
    exact pi_enumR hg hm (ha C X R G lv _ g h5).1 (star_ok h4)
  · cases h
theorem snd_zip {as : IEs} (hs : SndEs as) : SndI (.zip as) := by
  intro C X R G lv tg e g h
  unfold ckI at h
  split at h
  · obtain ⟨h, h4⟩ := and2 h
    obtain ⟨h1, h2, h3⟩ := and3 h
    obtain ⟨es, k, p, rfl⟩ := isTup_ok h1
    have := beq_iff_eq.mp h2
    subst this
    obtain ⟨hg, hm⟩ := g.bl h3 (by decide +kernel)
    obtain ⟨k1, _, k3, _, _, k6, _⟩ := hs C X R G lv _ g h4
    rw [List.all_cons, Bool.and_eq_true] at k1
    match as, k6, k3 with
    | .cons e1 (.cons e2 .nil), _, k3 => exact pi_zipR hg hm k3 (star_ok k1.1) (star_plain k1.2)
  · cases h
theorem snd_revd {a : IE} (ha : SndE a) : SndI (.revd a) := by
  intro C X R G lv tg e g h
  unfold ckI at h
  split at h
  · obtain ⟨h, h5⟩ := and2 h
    obtain ⟨h1, h2, h4⟩ := and3 h
    have := beq_iff_eq.mp h1
    subst this
    obtain ⟨hg, hm⟩ := g.bl h2 (by decide +kernel)
    exact pi_revR' hg hm (ha C X R G lv _ g h5).1 (star_ok h4)
  · cases h
theorem snd_range {as : IEs} (hs : SndEs as) : SndI (.range as) := by
  intro C X R G lv tg e g h
  unfold ckI at h
  split at h
  · rename_i n p xs pos
    obtain ⟨h, h4⟩ := and2 h
    obtain ⟨h1, h2, h3⟩ := and3 h
    have := beq_iff_eq.mp h1
    subst this
    obtain ⟨hg, hm⟩ := g.bl h2 (by decide +kernel)
    obtain ⟨k1, _, k3, _, _, k6, _⟩ := hs C X R G lv _ g h4
    have hl := of_decide_eq_true h3
    match as, xs, k6, k3, k1, hl with
    | .cons e1 .nil, [x], _, k3, k1, _ =>
      rw [List.all_cons, Bool.and_eq_true] at k1
      exact pi_range1R hg hm k3 (star_ok k1.1)
    | .cons e1 (.cons e2 .nil), [x, y], _, k3, k1, _ =>
      rw [List.all_cons, Bool.and_eq_true, List.all_cons, Bool.and_eq_true] at k1
      have e3 := star_ok (xs := []) (env := X.env) k1.2.1
      have e4 := star_ok (xs := [y]) (env := X.env) k1.1
      exact pi_range2R hg hm k3 (by rw [e4, e3]; rfl) e3
    | .cons e1 (.cons e2 (.cons e3 .nil)), [x, y, z], _, k3, k1, _ =>
      rw [List.all_cons, Bool.and_eq_true] at k1
      exact pi_range3R hg hm k3 (star_ok k1.1) (star_plain k1.2)
    | .nil, ys, k6, _, _, hl =>
      have k6 : 0 = ys.length := k6
      omega
    | .cons _ (.cons _ (.cons _ (.cons _ r))), ys, k6, _, _, hl =>
      have k6 : r.len + 1 + 1 + 1 + 1 = ys.length := k6
      omega
  · cases h
theorem snd_revrange {as : IEs} (hs : SndEs as) : SndI (.revrange as) := by
  intro C X R G lv tg e g h
  unfold ckI at h
  split at h
  · rename_i m p1 n p2 xs pos2 pos
    obtain ⟨h, h6⟩ := and2 h
    obtain ⟨h, h5⟩ := and2 h
    obtain ⟨h, h4⟩ := and2 h
    obtain ⟨h1, h2, h3⟩ := and3 h
    have := beq_iff_eq.mp h1
    subst this
    have := beq_iff_eq.mp h3
    subst this
    obtain ⟨hg, hm⟩ := g.bl h2 (by decide +kernel)
    obtain ⟨hg0, hm0⟩ := g.bl h4 (by decide +kernel)
    obtain ⟨k1, _, _, _, _, k6, k7⟩ := hs C X R G lv _ g h6
    have hl := of_decide_eq_true h5
    match as, xs, k6, h6, k1, hl with
    | .cons e1 .nil, [x], _, h6, k1, _ =>
      rw [List.all_cons, Bool.and_eq_true] at k1
      exact pi_revrange1R hg0 hm0 hg hm (k7 e1 x rfl rfl).2 (star_ok k1.1) (by rfl)
    | .nil, ys, k6, _, _, hl =>
      have k6 : 0 = ys.length := k6
      omega
    | .cons _ (.cons _ r), ys, k6, _, _, hl =>
      have k6 : r.len + 1 + 1 = ys.length := k6
      omega
  · cases h
mutual
theorem sndE : ∀ ie : IE, SndE ie
  | .con _ => snd_con
  | .var _ => snd_var
  | .gl _ => snd_gl
  | .bin _ a b => snd_bin (sndE a) (sndE b)
  | .neg a => snd_neg (sndE a)
  | .inv a => snd_inv (sndE a)
  | .and_ a b => snd_and (sndE a) (sndE b)
  | .or_ a b => snd_or (sndE a) (sndE b)
  | .cmp _ a b => snd_cmp (sndE a) (sndE b)
  | .chain _ _ a b c => snd_chain (sndE a) (sndE b) (sndE c)
  | .isN a => snd_isN (sndE a)
  | .notN a => snd_notN (sndE a)
  | .ite c a b => snd_ite (sndE c) (sndE a) (sndE b)
  | .tup es => snd_tup (sndEs es)
  | .lst es => snd_lst (sndEs es)
  | .idx a b => snd_idx (sndE a) (sndE b)
  | .slc a l h => snd_slc (sndE a) (sndO l) (sndO h)
  | .rev a => snd_rev (sndE a)
  | .call _ as => snd_call (sndEs as)
  | .bi _ as => snd_bi (sndEs as)
  | .lc e _ i q => snd_lc (sndE e) (sndI i) (sndQ q)
  | .lam _ b => snd_lam (sndE b)
  | .act _ => snd_act
  | .pop _ => snd_pop
  | .req _ _ => snd_req
  | .join _ a => snd_join (sndE a)
  | .kcall _ _ as bs => snd_kcall (sndEs as) (sndK bs)
  | .hole => snd_hole
theorem sndEs : ∀ as : IEs, SndEs as
  | .nil => snd_nil
  | .cons a as => snd_cons (sndE a) (sndEs as)
theorem sndK : ∀ as : IEs, SndK as
  | .nil => sndk_nil
  | .cons a as => sndk_cons (sndE a) (sndK as)
theorem sndO : ∀ o : IO, SndO o
  | .none => snd_none
  | .some a => snd_some (sndE a)
theorem sndQ : ∀ o : IO, SndQ o
  | .none => snd_q0
  | .some a => snd_q1 (sndE a)
theorem sndI : ∀ i : II, SndI i
  | .seq a => snd_seq (sndE a)
  | .enum a => snd_enum (sndE a)
  | .zip as => snd_zip (sndEs as)
  | .revd a => snd_revd (sndE a)
  | .range as => snd_range (sndEs as)
  | .revrange as => snd_revrange (sndEs as)
  | .comb a k => by
    intro C X R G lv tg e g h
    unfold ckI at h
    split at h
    · obtain ⟨h, h6⟩ := and2 h
      obtain ⟨h, h5⟩ := and2 h
      obtain ⟨h, h4⟩ := and2 h
      obtain ⟨h1, h2, h3⟩ := and3 h
      obtain rfl : k = 2 := of_decide_eq_true h1
      have := beq_iff_eq.mp h3
      subst this
      exact pi_combR (g.gl h4).1 (g.cmb h2) (sndE a C X R G lv _ g h6).1 (star_ok h5)
    · cases h
end
end Rf
set_option Elab.async false
set_option linter.all false
set_option maxRecDepth 100000
set_option maxHeartbeats 1000000
/-! Rf22: what is checked is told rightly: statements. -/
namespace Rf
open PySem PySem.Spec PyProof.Rows
open L2 hiding St

structure GoodS (C : Ck) (X : Cx) (R : Rc) (G : Env) (lv : Nat) : Prop extends Good C X R G lv where
  ps : PassesOwn (model X.prog X.w) X.A X.env X.xe
  stk : X.stack = X.env :: X.outer
  fr : X.env.frame = some X.env.locals
  kind : X.env.scope.kind = .function
  xf : XF X.K R.xi
  exs : ∀ (x : Nat) (n : Str), C.exs[x]? = some n → x < R.xi.num ∧ X.mg n = some (.ref (R.xi.cls x))
  flds : ∀ (x : Nat) (fs : List Str), C.flds[x]? = some fs → R.xi.fld x = fs
  own : ∀ (x : Nat) (n : Str), C.exs[x]? = some n → R.xi.fld x ≠ [] → XIok X R.xi x n ∧ (R.xi.fld x).length ≤ 1000
theorem GoodS.tr {C : Ck} {X : Cx} {R : Rc} {G : Env} {lv : Nat} (g : GoodS C X R G lv) {W : WX} {pn : List (Addr × Obj)} {xe : Value → Shared → Prop} (tk : Takes (X.tr pn xe) W) (ps : PassesOwn (model X.prog X.w) X.A X.env xe) : GoodS C (X.tr pn xe) (R.wish W) G lv where
  calm := g.calm
  nd := g.nd
  eN := g.eN
  sc := g.sc
  fn := g.fn
  hu := g.hu
  tk := tk
  room := g.room
  gu := g.gu
  blt := g.blt
  gcd := g.gcd
  cmb := g.cmb
  fns := g.fns
  gls := g.gls
  act := g.act
  lam := g.lam
  ps := ps
  stk := g.stk
  fr := g.fr
  kind := g.kind
  xf := g.xf
  exs := g.exs
  flds := g.flds
  own := fun x n h hf => let ⟨k, q⟩ := g.own x n h hf; ⟨⟨k.gC, k.kC, k.exC, k.tyC, k.sup, k.ini⟩, q⟩
def SndS (s : IS) : Prop := ∀ (C : Ck) (X : Cx) (R : Rc) (G : Env) (lv : Nat) (S : Stmt), GoodS C X R G lv → ckS s C S = true → PS X S (RdS X.K R (ex G s))
def SndSs (ss : ISs) : Prop := ∀ (C : Ck) (X : Cx) (R : Rc) (G : Env) (lv : Nat) (SS : List Stmt), GoodS C X R G lv → ckSs ss C SS = true → PSs X SS (RdS X.K R (exs G ss))
def SndHs (hs : IHs) : Prop := ∀ (C : Ck) (X : Cx) (R : Rc) (G : Env) (lv : Nat) (HS : List ExceptHandler), GoodS C X R G lv → ckHs hs C HS = true → HdsX X HS (hs.list X.K R) ∧ hs.ok R.xi.num = true
theorem sw_val {el : Expr} {gs : List Comprehension} {scope : Scope} {pos p1 : Pos} {n : Str} {l : Nat} {env : PySem.Env} : swapsWith (.ListComp el gs scope pos) (some (.Name n p1)) l env =
    pure (env.blockKind == .function && env.kindOf n == some .local && (p1.line == pos.line) && !(scope.names.any fun (m, k) => m == n && (k == .local || k == .cell))) := rfl
theorem swapsSole_notName {x t : Expr} {l : Nat} {env : PySem.Env} (h : notName t = true) : swapsWithSole [t] x l env = pure false := swaps_notName h
theorem ps_setHole {X : Cx} {R : Rc} {G : Env} {i : Nat} {S : Stmt} : PS X S (RdS X.K R (ex G (.set i .hole))) := ⟨fun pins s σ H D I ⟨st, hr, q⟩ => by
  unfold ex ev at q
  exact q.elim⟩
theorem snd_set {i : Nat} {e : IE} : SndS (.set i e) := by
  intro C X R G lv S g h
  unfold ckS at h
  split at h
  · rename_i n p1 x pos
    obtain ⟨h1, h2⟩ := and2 h
    obtain ⟨k1, k2, k3, k4, k5⟩ := g.slotL h1
    have hx := (sndE e C X R G lv x g.toGood h2).1
    by_cases hc : notComp x = true
    · exact ps_setR g.nd k1 k2 hx (swaps_ok hc) k3
    · cases x with
      | ListComp el gens scope p2 =>
        cases hsw : (X.env.blockKind == .function && X.env.kindOf n == some .local && (p1.line == p2.line) && !(scope.names.any fun (m, k) => m == n && (k == .local || k == .cell))) with
        | false => exact ps_setR g.nd k1 k2 hx (by rw [sw_val, hsw]) k3
        | true =>
          have hyl : X.env.scope.names.lookup n = some .local := by
            obtain ⟨z, _⟩ := and2 hsw
            obtain ⟨z, _⟩ := and2 z
            obtain ⟨_, z⟩ := and2 z
            exact beq_iff_eq.mp z
          cases e with
          | lc elt tg it test =>
            unfold ckE at h2
            split at h2
            · rename_i el' tgE iter ifs k scope' pos' heq
              cases heq
              obtain ⟨h, h8⟩ := and2 h2
              obtain ⟨h, h7⟩ := and2 h
              obtain ⟨h, h6⟩ := and2 h
              obtain ⟨h, h5⟩ := and2 h
              obtain ⟨h, h4⟩ := and2 h
              obtain ⟨q1, q2, q3⟩ := and3 h
              have := of_decide_eq_true q1
              subst this
              have ok : BlkOk X.N X.env.scope scope (tgOwn tg tgE) := by
                rw [g.eN, g.sc]
                exact blkOk_by q3
              refine ps_setLcR g.calm g.nd k1 hyl (by rw [sw_val, hsw]) (sndI it C X R G lv _ _ g.toGood h6) ok (tgOwn_one (of_decide_eq_true h4)) (fun s H Cc cl fp => ?_) (fun s H Cc cl fp => ?_) (fun s H Cc cl fp => ?_) (folded_ok h5)
              · exact tgB_pg (g.toGood.blk scope s H Cc cl fp) q2
              · exact sndQ test _ _ _ _ lv _ (g.toGood.blk scope s H Cc cl fp) h8
              · exact (sndE elt _ _ _ _ lv _ (g.toGood.blk scope s H Cc cl fp) h7).1
            · cases h2
          | con d => cases d <;> cases h2
          | hole => exact ps_setHole
          | _ => cases h2
      | SetComp _ _ _ _ =>
        cases e with
        | con d => cases d <;> cases h2
        | hole => exact ps_setHole
        | _ => cases h2
      | DictComp _ _ _ _ _ =>
        cases e with
        | con d => cases d <;> cases h2
        | hole => exact ps_setHole
        | _ => cases h2
      | _ => exact absurd rfl hc
  · cases h
theorem snd_setT {is : List Nat} {e : IE} : SndS (.setT is e) := by
  intro C X R G lv S g h
  unfold ckS at h
  split at h
  · rename_i ts k p1 x pos
    obtain ⟨h, h4⟩ := and2 h
    obtain ⟨h1, h2, h3⟩ := and3 h
    obtain ⟨m1, m2, m3, _⟩ := slotsL_pg g.toGood _ _ h3
    exact ps_setTR g.calm (sndE e C X R G lv x g.toGood h4).1 m1 (assign_len m2) (assign_star m2) m3 (swapsSole_notName rfl) (swapped_ok h1) (assign1 rfl)
  · cases h
theorem snd_sub {i : Nat} {ix e : IE} : SndS (.sub i ix e) := by
  intro C X R G lv S g h
  unfold ckS at h
  split at h
  · obtain ⟨h, h4⟩ := and2 h
    obtain ⟨h1, h2, h3⟩ := and3 h
    obtain ⟨k1, k2, k3, k4⟩ := g.slot h1
    exact ps_subR k1 k2 k3 k4 (sndE e C X R G lv _ g.toGood h4).1 (sndE ix C X R G lv _ g.toGood h3).1 (assSub_ok h2) (swapsSole_notName rfl) swapped_sub (assign1 rfl)
  · cases h
theorem snd_app {i : Nat} {e : IE} : SndS (.app i e) := by
  intro C X R G lv S g h
  unfold ckS at h
  split at h
  · obtain ⟨h, h5⟩ := and2 h
    obtain ⟨h, h4⟩ := and2 h
    obtain ⟨h1, h2, h3⟩ := and3 h
    have := beq_iff_eq.mp h1
    subst this
    obtain ⟨k1, k2, k3, k4⟩ := g.slot h2
    exact ps_appR k1 k2 k3 k4 (sndE e C X R G lv _ g.toGood h5).1 (by rfl) (few_ok h4) h3 (star_ok h4) (by rfl) (by rfl)
  · cases h
theorem snd_ext {i : Nat} {e : IE} : SndS (.ext i e) := by
  intro C X R G lv S g h
  unfold ckS at h
  split at h
  · obtain ⟨h, h5⟩ := and2 h
    obtain ⟨h, h4⟩ := and2 h
    obtain ⟨h1, h2, h3⟩ := and3 h
    have := beq_iff_eq.mp h1
    subst this
    obtain ⟨k1, k2, k3, k4⟩ := g.slot h2
    exact ps_extR k1 k2 k3 k4 (sndE e C X R G lv _ g.toGood h5).1 (by rfl) (few_ok h4) h3 (star_ok h4) (by rfl) (by rfl)
  · cases h
theorem snd_expr {e : IE} : SndS (.expr e) := by
  intro C X R G lv S g h
  unfold ckS at h
  split at h
  · obtain ⟨h1, h2⟩ := and2 h
    exact ps_exprR (sndE e C X R G lv _ g.toGood h2).1 (swaps_ok h1)
  · cases h
theorem snd_ret {e : IE} : SndS (.ret e) := by
  intro C X R G lv S g h
  unfold ckS at h
  split at h
  · exact ps_retR ((sndE e).p g.toGood h)
  · cases h
theorem snd_retN : SndS .retN := by
  intro C X R G lv S g h
  unfold ckS at h
  split at h
  · exact ps_retNR
  · cases h
theorem snd_ifs {c : IE} {a b : ISs} (ha : SndSs a) (hb : SndSs b) : SndS (.ifs c a b) := by
  intro C X R G lv S g h
  unfold ckS at h
  split at h
  · obtain ⟨h1, h2, h3⟩ := and3 h
    exact ps_ifR (sndE c C X R G lv _ g.toGood h1).2.1 (ha C X R G lv _ g h2) (hb C X R G lv _ g h3)
  · cases h
theorem snd_for {tg : List Nat} {it : II} {body : ISs} (hb : SndSs body) : SndS (.for_ tg it body) := by
  intro C X R G lv S g h
  unfold ckS at h
  split at h
  · obtain ⟨h, h4⟩ := and2 h
    obtain ⟨h1, h2, h3⟩ := and3 h
    exact ps_forR g.ps g.calm (sndI it C X R G lv _ _ g.toGood h3) (tgB_pg g.toGood h1) (hb C X R G lv _ g h4) (folded_ok h2)
  · cases h
theorem snd_while {c : IE} {body : ISs} (hb : SndSs body) : SndS (.while_ c body) := by
  intro C X R G lv S g h
  unfold ckS at h
  split at h
  · obtain ⟨h1, h2⟩ := and2 h
    exact ps_whileR g.ps (sndE c C X R G lv _ g.toGood h1).2.1 (hb C X R G lv _ g h2)
  · cases h
theorem oneIx_ok : ∀ {as : IEs} {n : Nat}, oneIx as n = true → as.len = n
  | .nil, 0, _ => rfl
  | .nil, _ + 1, h => by cases h
  | .cons _ _, 0, h => by cases h
  | .cons _ es, n + 1, h => by
    show es.len + 1 = n + 1
    rw [oneIx_ok (as := es) h]
theorem snd_raise {x : Nat} {as : IEs} : SndS (.raise_ x as) := by
  intro C X R G lv S g h
  unfold ckS at h
  split at h
  · rename_i n p y ys pos pos2
    obtain ⟨h, h4⟩ := and2 h
    obtain ⟨h1, h2, h3⟩ := and3 h
    have h1 := beq_iff_eq.mp h1
    obtain ⟨hx, hm⟩ := g.exs x n h1
    obtain ⟨hg, hdb⟩ := g.gl h2
    obtain ⟨k1, k2, _, _, _, k6, _⟩ := sndEs as C X R G lv _ g.toGood h4
    rw [List.all_cons, Bool.and_eq_true] at k1
    have hf : as.len = (R.xi.fld x).length := by
      split at h3
      · rename_i fs hfs
        rw [g.flds x fs hfs]
        exact oneIx_ok h3
      · cases h3
    have hne : R.xi.fld x ≠ [] := fun z => by
      rw [z, k6] at hf
      cases hf
    obtain ⟨T, hz⟩ := g.own x n h1 hne
    exact ps_raiseR g.calm g.tk hx T g.room k2 hg hdb hf (Nat.le_trans hz (by rw [sizeLine_eq]; omega)) (star_ok k1.1) (star_plain k1.2)
  · cases h
theorem snd_pass : SndS .pass := by
  intro C X R G lv S g h
  unfold ckS at h
  split at h
  · exact ps_passR
  · exact ps_docR
  · cases h
theorem snd_holeS : SndS .hole := fun C X R G lv S g _ => ⟨fun pins s σ H D I ⟨st, hr, q⟩ => by
  unfold ex at q
  exact q.elim⟩
theorem snd_brk : SndS .brk := by
  intro C X R G lv S g h
  unfold ckS at h
  split at h
  · exact ps_brkR
  · cases h
theorem snd_try {body : ISs} {hs : IHs} (hb : SndSs body) (hh : SndHs hs) : SndS (.try_ body hs) := by
  intro C X R G lv S g h
  unfold ckS at h
  split at h
  · obtain ⟨h1, h2⟩ := and2 h
    obtain ⟨k1, k2⟩ := hh C X R G lv _ g h2
    exact ps_tryR g.stk g.fr g.nd g.tk g.xf (fun W pn xe tk ps => hb C (X.tr pn xe) (R.wish W) G lv _ (g.tr tk ps) h1) k1 k2
  · cases h
theorem names_all {P : Str → Bool} : ∀ {ts : List Expr}, ts.all isName = true → (ts.all fun t => match t with
        | .Name n _ => P n
        | _ => false) = true → ∀ n ∈ namesOf ts, P n = true
  | [], _, _, n, hn => by cases hn
  | t :: ts, h1, h2, n, hn => by
    rw [List.all_cons, Bool.and_eq_true] at h1 h2
    cases t with
    | Name m p =>
      rcases List.mem_cons.mp hn with rfl | hn
      · exact h2.1
      · exact names_all h1.2 h2.2 n hn
    | _ => cases h1.1
theorem snd_par {is : List Nat} {es : IEs} : SndS (.par is es) := by
  intro C X R G lv S g h
  unfold ckS at h
  split at h
  · rename_i ts k p1 xs k2 p2 pos
    obtain ⟨h, h7⟩ := and2 h
    obtain ⟨h, h6⟩ := and2 h
    obtain ⟨h, h5⟩ := and2 h
    obtain ⟨h, h4⟩ := and2 h
    obtain ⟨h1, h2, h3⟩ := and3 h
    obtain ⟨m1, m2, m3, m4⟩ := slotsL_pg g.toGood _ _ h2
    obtain ⟨k1, _, _, _, kn, k6, _⟩ := sndEs es C X R G lv _ g.toGood h4
    have nd := of_decide_eq_true h5
    have hz := of_decide_eq_true h3
    have hk : X.env.scope.kind = .function := g.kind
    split at h7
    · rename_i hw
      rw [← g.sc] at hw
      exact ps_parTR g.calm kn m4 (assign_len m2) (assign_star m2) m3 (Nat.le_trans hz (by rw [sizeLine_eq]; omega)) (swapsSole_notName rfl) (swC_ok hk hw) (assign1 rfl)
    · rename_i ns hw
      rw [← g.sc] at hw
      obtain ⟨e1, e2⟩ := and2 h7
      have e1 := beq_iff_eq.mp e1
      subst e1
      have loc : ∀ n ∈ namesOf ts, X.env.scope.names.lookup n = some .local := fun n hn => by
        rw [g.sc]
        exact beq_iff_eq.mp (names_all (P := fun n => kd C n == some .local) m2 e2 n hn)
      have hwv := swC_ok (k := k) (k2 := k2) (p := p1) (p2 := p2) hk hw
      -- two or three names
      have cnt : ts.length = 2 ∨ ts.length = 3 := by
        unfold swC at hw
        split at hw
        · cases hw
        · rename_i c
          simp only [Bool.or_eq_true, Bool.not_eq_true', Bool.or_eq_false_iff, not_or, Bool.not_eq_false] at c
          have := c.1.1
          simp at this
          omega
      have xl : xs.length = ts.length := by
        unfold swC at hw
        split at hw
        · cases hw
        · rename_i c
          simp only [Bool.or_eq_true, not_or] at c
          have := c.1.2
          simpa using this
      match ts, xs, is, m2, m3, h2, loc, hwv, cnt, xl, kn, nd with
      | [.Name n pn, .Name m pm], [x, y], [i, j], _, _, h2, loc, hwv, _, _, kn, nd =>
        have h2 : (slotL C i n && (slotL C j m && true)) = true := h2
        obtain ⟨a1, a2⟩ := and2 h2
        obtain ⟨a2, _⟩ := and2 a2
        obtain ⟨b1, _⟩ := g.slotL a1
        obtain ⟨b2, _⟩ := g.slotL a2
        exact ps_par2R g.calm g.nd b1 b2 (by simp at nd; exact nd) (loc n (by simp [namesOf])) (loc m (by simp [namesOf])) kn hwv (swapsSole_notName rfl)
      | [.Name n pn, .Name m pm, .Name o po], [x, y, z], [i, j, l], _, _, h2, loc, hwv, _, _, kn, nd =>
        have h2 : (slotL C i n && (slotL C j m && (slotL C l o && true))) = true := h2
        obtain ⟨a1, a2⟩ := and2 h2
        obtain ⟨a2, a3⟩ := and2 a2
        obtain ⟨a3, _⟩ := and2 a3
        obtain ⟨b1, _⟩ := g.slotL a1
        obtain ⟨b2, _⟩ := g.slotL a2
        obtain ⟨b3, _⟩ := g.slotL a3
        simp at nd
        exact ps_par3R g.calm g.nd b1 b2 b3 nd.1.1 nd.1.2 nd.2 (loc n (by simp [namesOf])) (loc m (by simp [namesOf])) (loc o (by simp [namesOf])) kn hwv (swapsSole_notName rfl)
    · cases h7
  · cases h
end Rf
set_option Elab.async false
set_option linter.all false
set_option maxRecDepth 100000
set_option maxHeartbeats 1000000
/-! Rf23: suites, clauses, blocks; the whole. -/
namespace Rf
open PySem PySem.Spec PyProof.Rows
open L2 hiding St

section
variable {C : Ck} {X : Cx} {R : Rc} {G : Env} {lv : Nat} {a : Addr} {oe : Obj} {cls : Value} {d : Option Addr} {pn : List (Addr × Obj)} {o : Option Nat} {y : Nat}
theorem GoodS.fnd (g : GoodS C X R G lv) {x : Nat} {n : Str} (h : C.exs[x]? = some n) : (R.xi.fld x).Nodup := by
  by_cases hf : R.xi.fld x = []
  · rw [hf]; exact List.nodup_nil
  · obtain ⟨T, _⟩ := g.own x n h hf
    obtain ⟨fI, fd, O, _⟩ := T.ini
    exact (List.nodup_cons.mp O.nd).2
theorem hp_ok (g : GoodS C X R G lv) {yn : Str} (hy : C.exs[y]? = some yn) (hz : Zc cls d oe) (hf : ∃ vs, oe.data = .fields vs) : ∀ {p : HP} {e : Expr}, ckHP C o y p e = true → PE (X.suite a ((a, oe) :: pn)) e (RdP1 X.K R a cls d o y p)
  | .con c, e, h => by
    dsimp only [ckHP] at h
    obtain ⟨v, h1, h2⟩ := con_ok (X := X.suite a ((a, oe) :: pn)) h
    exact ph_con h1 h2
  | .fld k, e, h => by
    dsimp only [ckHP] at h
    split at h
    · obtain ⟨h1, h2, h3⟩ := and3 h
      cases o with
      | none => cases h1
      | some i =>
        obtain ⟨k1, k2, k3, k4⟩ := g.slot h1
        split at h3
        · rename_i fs hfs
          have := g.flds y fs hfs
          exact ph_fld g.xf (g.exs y yn hy).1 (of_decide_eq_true h2) (by rw [this]; exact beq_iff_eq.mp h3) (g.fnd hy) hz hf rfl k1 k2 k3 k4 (by rfl)
        · cases h3
    · cases h
  | .isi c, e, h => by
    dsimp only [ckHP] at h
    split at h
    · obtain ⟨h, h5⟩ := and2 h
      obtain ⟨h, h4⟩ := and2 h
      obtain ⟨h1, h2, h3⟩ := and3 h
      have := beq_iff_eq.mp h1
      subst this
      cases o with
      | none => cases h3
      | some i =>
        obtain ⟨k1, k2, k3, k4⟩ := g.slot h3
        obtain ⟨hg, hm⟩ := g.bl h2 (by decide +kernel)
        obtain ⟨hg2, hdb2⟩ := g.gl h4
        obtain ⟨hc, hm2⟩ := g.exs c _ (beq_iff_eq.mp h5)
        exact ph_isi g.xf (g.exs y yn hy).1 hc hz hf rfl k1 k2 k3 k4 hg hm hg2 hm2 hdb2 (by rfl)
    · cases h
theorem hps_ok (g : GoodS C X R G lv) {yn : Str} (hy : C.exs[y]? = some yn) (hz : Zc cls d oe) (hf : ∃ vs, oe.data = .fields vs) : ∀ {ps : List HP} {es : List Expr}, ckHPs C o y ps es = true → PA (X.suite a ((a, oe) :: pn)) es (RdHs X.K R a cls d o y ps)
  | [], [], _ => pa_nilH
  | [], _ :: _, h => by cases h
  | _ :: _, [], h => by cases h
  | p :: ps, e :: es, h => by
    unfold ckHPs at h
    obtain ⟨h1, h2, h3⟩ := and3 h
    exact pa_consH (hp_ok g hy hz hf h2) (hps_ok g hy hz hf h3) (star_ok h1)
theorem he_ok (g : GoodS C X R G lv) {yn : Str} (hy : C.exs[y]? = some yn) (hz : Zc cls d oe) (hf : ∃ vs, oe.data = .fields vs) : ∀ {e : HE} {x : Expr}, ckHE C o y e x = true → PE (X.suite a ((a, oe) :: pn)) x (RdH X.K R a cls d o y e)
  | .one p, x, h => by
    dsimp only [ckHE] at h
    exact pe_oneH (hp_ok g hy hz hf h)
  | .tup ps, x, h => by
    dsimp only [ckHE] at h
    split at h
    · obtain ⟨h1, h2⟩ := and2 h
      exact pe_tupH (hps_ok g hy hz hf h2) (Nat.le_trans (of_decide_eq_true h1) (by rw [sizeLine_eq]; omega))
    · cases h
  | .var i, x, h => by
    dsimp only [ckHE] at h
    split at h
    · obtain ⟨k1, k2, k3, k4⟩ := g.slot h
      exact pe_varH k1 k2 k3 k4
    · cases h
theorem su_ok (g : GoodS C X R G lv) {yn : Str} (hy : C.exs[y]? = some yn) (hz : Zc cls d oe) (hf : ∃ vs, oe.data = .fields vs) : ∀ {su : HSu} {ss : List Stmt}, ckSu C o y su ss = true → PSs (X.suite a ((a, oe) :: pn)) ss (tSu X.K R o y su a cls d)
  | .asg j e, ss, h => by
    dsimp only [ckSu] at h
    split at h
    · obtain ⟨h1, h2, h3⟩ := and3 h
      obtain ⟨k1, k2, k3, k4, k5⟩ := g.slotL h1
      exact pss_one (ps_asgH g.nd k1 k2 (he_ok g hy hz hf h3) (swaps_ok h2) k3)
    · cases h
  | .ret e, ss, h => by
    dsimp only [ckSu] at h
    split at h
    · exact pss_one (ps_retH (he_ok g hy hz hf h))
    · cases h
end
theorem snd_hnil : SndHs .nil := by
  intro C X R G lv HS g h
  unfold ckHs at h
  cases HS with
  | nil => exact ⟨.nil, rfl⟩
  | cons _ _ => cases h
theorem snd_hcons {y : Nat} {o : Option Nat} {su : HSu} {hs : IHs} (hh : SndHs hs) : SndHs (.cons y o su hs) := by
  intro C X R G lv HS g h
  unfold ckHs at h
  split at h
  · rename_i x p nm s suite p2 r
    obtain ⟨h, h5⟩ := and2 h
    obtain ⟨h, h4⟩ := and2 h
    obtain ⟨h1, h2, h3⟩ := and3 h
    have hy := beq_iff_eq.mp h1
    obtain ⟨hx, hm⟩ := g.exs y x hy
    obtain ⟨hg, hdb⟩ := g.gl h2
    obtain ⟨k1, k2⟩ := hh C X R G lv _ g h5
    have hn : Names X x (.ref (R.xi.cls y)) := ⟨hg, hdb, .inl hm⟩
    refine ⟨?_, by show (decide (y < R.xi.num) && hs.ok R.xi.num) = true; rw [k2, decide_eq_true hx]; rfl⟩
    split at h3
    · exact .plain hn (fun a oe cls d pn hz hf => su_ok g hy hz hf h4) k1
    · obtain ⟨q1, q2⟩ := and2 h3
      obtain ⟨m1, _⟩ := g.slot q1
      exact .as hn m1 (by show X.env.scope.names.lookup _ = _; rw [g.sc]; exact beq_iff_eq.mp q2) (fun a oe cls d pn hz hf => su_ok g hy hz hf h4) k1
    · cases h3
  · cases h
theorem snd_snil : SndSs .nil := by
  intro C X R G lv SS g h
  unfold ckSs at h
  cases SS with
  | nil => exact pss_nilR
  | cons _ _ => cases h
theorem snd_scons {s : IS} {ss : ISs} (h1 : SndS s) (h2 : SndSs ss) : SndSs (.cons s ss) := by
  intro C X R G lv SS g h
  unfold ckSs at h
  cases SS with
  | nil => cases h
  | cons S SS =>
    obtain ⟨a, b⟩ := and2 h
    exact pss_consR (h1 C X R G lv S g a) (h2 C X R G lv SS g b)
mutual
theorem sndS : ∀ s : IS, SndS s
  | .set _ _ => snd_set
  | .setT _ _ => snd_setT
  | .par _ _ => snd_par
  | .sub _ _ _ => snd_sub
  | .app _ _ => snd_app
  | .ext _ _ => snd_ext
  | .expr _ => snd_expr
  | .ret _ => snd_ret
  | .retN => snd_retN
  | .ifs _ a b => snd_ifs (sndSs a) (sndSs b)
  | .for_ _ _ b => snd_for (sndSs b)
  | .while_ _ b => snd_while (sndSs b)
  | .raise_ _ _ => snd_raise
  | .try_ b hs => snd_try (sndSs b) (sndHs hs)
  | .pass => snd_pass
  | .brk => snd_brk
  | .hole => snd_holeS
theorem sndSs : ∀ ss : ISs, SndSs ss
  | .nil => snd_snil
  | .cons s ss => snd_scons (sndS s) (sndSs ss)
theorem sndHs : ∀ hs : IHs, SndHs hs
  | .nil => snd_hnil
  | .cons _ _ _ hs => snd_hcons (sndHs hs)
end
end Rf
set_option Elab.async false
set_option linter.all false
set_option maxRecDepth 100000
set_option maxHeartbeats 1000000
/-! Rf24: defs, programs. -/
namespace Rf
open PySem PySem.Spec PyProof.Rows
open L2 hiding St

/-- plain parameters -/
def argsB (a : Arguments) (ps : List Str) : Bool :=
  a.posonlyargs.isEmpty && a.vararg.isNone && a.kwonlyargs.isEmpty && a.kwarg.isNone && (a.args.map (·.arg) == ps)
def scopeB (N ps : List Str) (sc : Scope) : Bool :=
  decide (sc.kind = .function) && !sc.isCoroutine && !sc.isGenerator && decide N.Nodup && (N.take ps.length == ps) && ps.all (fun x => sc.names.lookup x == some .local || sc.names.lookup x == some .cell) && sc.names.all fun y => !(y.2 == .free)
theorem scopeB_ok {N ps : List Str} {sc : Scope} (h : scopeB N ps sc = true) : FnScope N ps sc := by
  unfold scopeB at h
  simp only [Bool.and_eq_true, decide_eq_true_eq, Bool.not_eq_true', List.all_eq_true, beq_iff_eq, Bool.or_eq_true, beq_eq_false_iff_ne] at h
  obtain ⟨⟨⟨⟨⟨⟨h1, h2⟩, h3⟩, h4⟩, h5⟩, h6⟩, h7⟩ := h
  exact ⟨h1, h2, h3, h4, h5, h6, h7⟩
/-- what the text says of the module -/
structure Tx where
  ns : List Str
  sts : List Stmt
  Ns : List (List Str)
  gls : List Str
  exs : List Str
  flds : List (List Str)
  lms : List Bool
  pars : List (List Str)
  cm : Bool
def Tx.ck (t : Tx) (N : List Str) (sc : Scope) (lm : Bool) : Ck := ⟨N, sc, fun _ => true, t.ns, t.gls, t.exs, t.flds, true, lm, t.pars, t.cm⟩
def Tx.lm (t : Tx) (f : Nat) : Bool := (t.lms[f]?).getD false
def ckF (t : Tx) (f : Nat) : FD → Bool
  | .draw => true
  | .code n m _ body => match t.ns[f]?, t.sts[f]?, t.Ns[f]? with
    | some _, some st, some N => argsB (defArgs st) (N.take m) && scopeB N (N.take m) (defScope st) && decide (m ≤ N.length) && decide (N.length = n) && decide (t.pars[f]? = some (N.take m)) && ckSs body (t.ck N (defScope st) (t.lm f)) (defBody st)
    | _, _, _ => false
/-- plain parameters, as the text has them -/
def ParOk (t : Tx) (f : Nat) (fd : FuncData) (ps : List Str) : Prop := RfX.PlainPar fd ps ∧ ps.Nodup ∧ ∀ qs, t.pars[f]? = some qs → ps = qs
/-- a def that stands behind the top -/
structure FnAt (t : Tx) (K : PySem.W.Frag) (mg : Str → Option Value) (base : Heap) (L : Lw) (f : Nat) (n : Str) (st : Stmt) (fa : Addr) (fd : FuncData) : Prop where
  nm : mg n = some (.ref fa)
  fn : Fun K n n st fa fd
  tab : t.lm f = true → ∃ c P, fd.code = .ref c ∧ LamX.TabB base mg c P ∧ (P, n ++ ".<locals>." ++ "<lambda>") ∈ L.T ∧ ∀ p ∈ L.T, p.1 = P → p.2 = n ++ ".<locals>." ++ "<lambda>"
/-- the module as the law's ground has it -/
structure MF (t : Tx) (pr : Pr) (P : Program) (w : World) (K : PySem.W.Frag) (mg : Str → Option Value) (base : Heap) (L : Lw) (xi : XI) : Prop where
  blt : ∀ n ∈ bltN, mg n = none
  gcd : mg "gcd" = some (.builtin "math.gcd")
  cmb : t.cm = true → mg "combinations" = some (.type CB)
  sup : mg "super" = none
  code : ∀ (f : Nat) (n : Str) (a b c : Nat) (body : ISs) (st : Stmt), t.ns[f]? = some n → t.sts[f]? = some st → pr.fs[f]? = some (.code a b c body) → ∃ fa fd, FnAt t K mg base L f n st fa fd
  draw : ∀ (f : Nat) (n : Str), t.ns[f]? = some n → pr.fs[f]? = some .draw → ∃ fa fd ps, mg n = some (.ref fa) ∧ PySem.W.keepIn K (.ref fa) = true ∧ ParOk t f fd ps ∧ ∀ a m, FnG P w K mg base 3 fa fd ps (Fp K ((L.amb a).shift m) xi drawn)
  all : ∀ (f : Nat) (n : Str), t.ns[f]? = some n → ∃ d, pr.fs[f]? = some d ∧ ckF t f d = true
  gls : ∀ (g : Nat) (n : Str), t.gls[g]? = some n → ∃ u v d, mg n = some u ∧ RelV v u ∧ pr.gl[g]? = some d ∧ ∀ H, DF K H v d
  xf : XF K xi
  exs : ∀ (x : Nat) (n : Str), t.exs[x]? = some n → x < xi.num ∧ mg n = some (.ref (xi.cls x))
  flds : ∀ (x : Nat) (fs : List Str), t.flds[x]? = some fs → xi.fld x = fs
  own : ∀ (x : Nat) (n : Str), t.exs[x]? = some n → xi.fld x ≠ [] → (PySem.W.keepIn K (.ref (xi.cls x)) = true ∧ PySem.W.subIn K (.ref (xi.cls x)) (.type "BaseException") = some true ∧ PySem.W.typeIn K (.ref (xi.cls x)) = some (.type "type") ∧
    ∃ fI fd, RfX.OwnX P K (xi.cls x) fI (xi.fld x) fd ∧ RfX.BodyX fd (xi.fld x)) ∧ (xi.fld x).length ≤ 1000
theorem MF.amb {t : Tx} {pr : Pr} {P : Program} {w : World} {K : PySem.W.Frag} {mg : Str → Option Value} {base : Heap} {L : Lw} {xi : XI} (M : MF t pr P w K mg base L xi) (a : Addr) : MF t pr P w K mg base (L.amb a) xi :=
  ⟨M.blt, M.gcd, M.cmb, M.sup, fun f n x y z body st h1 h2 h3 => let ⟨fa, fd, F⟩ := M.code f n x y z body st h1 h2 h3; ⟨fa, fd, F.nm, F.fn, F.tab⟩, M.draw, M.all, M.gls, M.xf, M.exs, M.flds, M.own⟩
theorem MF.shift {t : Tx} {pr : Pr} {P : Program} {w : World} {K : PySem.W.Frag} {mg : Str → Option Value} {base : Heap} {L : Lw} {xi : XI} (M : MF t pr P w K mg base L xi) (k : Nat) : MF t pr P w K mg base (L.shift k) xi :=
  ⟨M.blt, M.gcd, M.cmb, M.sup, fun f n x y z body st h1 h2 h3 => let ⟨fa, fd, F⟩ := M.code f n x y z body st h1 h2 h3; ⟨fa, fd, F.nm, F.fn, F.tab⟩, fun f n h1 h2 => let ⟨fa, fd, ps, k1, k2, k3, F⟩ := M.draw f n h1 h2; ⟨fa, fd, ps, k1, k2, k3, fun a m => by
    show FnG P w K mg base 3 fa fd ps (Fp K (((L.amb a).shift k).shift m) xi drawn)
    rw [Lw.shift_shift]
    exact F a (k + m)⟩, M.all, M.gls, M.xf, M.exs, M.flds, M.own⟩
section
variable {t : Tx} {pr : Pr} {P : Program} {w : World} {K : PySem.W.Frag} {mg : Str → Option Value} {base : Heap} {L : Lw} {xi : XI}
/-- every def keeps its promise at that depth -/
def AllOk (t : Tx) (P : Program) (w : World) (K : PySem.W.Frag) (mg : Str → Option Value) (base : Heap) (L : Lw) (xi : XI) (lv : Nat) (cl : Nat → List Cell → Nat → T (Cell × Nat)) : Prop :=
  ∀ (f : Nat) (n : Str), t.ns[f]? = some n → ∃ fa fd ps, mg n = some (.ref fa) ∧ PySem.W.keepIn K (.ref fa) = true ∧ ParOk t f fd ps ∧ ∀ m, FnG P w K mg base lv fa fd ps (Fp K (L.shift m) xi (cl f))
theorem AllOk.shift {lv : Nat} {cl : Nat → List Cell → Nat → T (Cell × Nat)} (h : AllOk t P w K mg base L xi lv cl) (k : Nat) : AllOk t P w K mg base (L.shift k) xi lv cl := fun f n hn =>
  let ⟨fa, fd, ps, h1, h2, h3, F⟩ := h f n hn; ⟨fa, fd, ps, h1, h2, h3, fun m => by rw [Lw.shift_shift]; exact F (k + m)⟩
theorem argsB_ok {x qual : Str} {st : Stmt} {fa : Addr} {fd : FuncData} {ps : List Str} (F : Fun K x qual st fa fd) (h : argsB (defArgs st) ps = true) : RfX.PlainPar fd ps := by
  obtain ⟨oc, od, kV, doc, pm, an, cdv, ct, osl, rfl, lk, hcd⟩ := F.ex
  unfold argsB at h
  obtain ⟨h, h5⟩ := and2 h
  obtain ⟨h, h4⟩ := and2 h
  obtain ⟨h1, h2, h3⟩ := and3 h
  exact ⟨List.isEmpty_iff.mp h1, beq_iff_eq.mp h5, Option.isNone_iff_eq_none.mp h2, List.isEmpty_iff.mp h3, Option.isNone_iff_eq_none.mp h4, rfl⟩
theorem Reps.get {K : PySem.W.Frag} {L : Lw} {H : Hp} : ∀ {vs : List V} {cs : List Cell} {i : Nat} {c : Cell}, Reps K L H vs cs → cs[i]? = some c → ∃ v, vs[i]? = some v ∧ RepV K L H v c
  | _, _, i, c, .nil, h => by simp at h
  | _, _, 0, c, .cons r _, h => by
    simp at h
    subst h
    exact ⟨_, rfl, r⟩
  | _, _, i + 1, c, .cons _ rs, h => by
    obtain ⟨v, e, r⟩ := Reps.get rs (i := i) (by simpa using h)
    exact ⟨v, by simpa using e, r⟩
theorem Reps.shift {K : PySem.W.Frag} {L : Lw} {H : Hp} {i j : Nat} : ∀ {cs : List Cell} {vs : List V}, Reps K (L.shift i) H vs cs → Reps K (L.shift j) H vs cs
  | _, _, .nil => .nil
  | _, _, .cons r rs => .cons (show RepV K (L.shift j) H _ _ from r) (Reps.shift rs)
theorem entry_get {n b : Nat} {cs : List Cell} {i : Nat} {c : Cell} (h : (entry n cs b).cs[i]? = some (some c)) : cs[i]? = some c := by
  unfold entry at h
  by_cases hi : i < cs.length
  · rw [List.getElem?_append_left (by rw [List.length_map]; exact hi), List.getElem?_map] at h
    cases q : cs[i]? with
    | none => rw [q] at h; cases h
    | some c' => rw [q] at h; cases h; rfl
  · rw [List.getElem?_append_right (by rw [List.length_map]; omega), List.getElem?_replicate] at h
    split at h
    · cases h
    · cases h
theorem entry_rel {H : Hp} {N : List Str} {vs : List V} {cs : List Cell} {b : Nat} (hok : L.ok b H) (g : Reps K L H vs cs) (no : NoOw cs) (hl : cs.length ≤ N.length) : RelS K L H H (L2.start N vs) (entry N.length cs b) where
  ext := Ext.refl L H
  law := hok
  len := by
    show ((cs.map some ++ List.replicate (N.length - cs.length) none).length) = _
    unfold L2.start
    rw [List.length_append, List.length_append, List.length_map, List.length_map, List.length_replicate, List.length_replicate, g.length]
  slot := fun i c e => by
    have h := entry_get e
    obtain ⟨v, ev, r⟩ := g.get h
    refine ⟨v, ?_, r⟩
    have hi := (List.getElem?_eq_some_iff.mp ev).1
    unfold L2.start
    rw [List.getElem?_append_left (by rw [List.length_map]; exact hi), List.getElem?_map, ev]
    rfl
  own := fun a ⟨i, ds, e1, _⟩ => absurd rfl (no _ (List.mem_of_getElem? (entry_get e1)) ds)
  dist := fun i j ds es a e1 _ _ _ => absurd rfl (no _ (List.mem_of_getElem? (entry_get e1)) ds)
/-- what a def's body leaves -/
theorem out_all {Pc : Cell × Nat → Prop} {E : Nat → List PyData → Sl → Prop} {R : Rc} {D : Ends} {H : Hp} {t : T (Out × Sl)} (h : (t.bind Out.cell).All Pc E) (hn : ∀ n, Pc (.sh .none, n) → ∀ σ' H', Ext R.L R.B H' → R.L.ok n H' → D.nx σ' H')
    (hr : ∀ c n, Pc (c, n) → ∀ H' v, Ext R.L R.B H' → R.L.ok n H' → RepV K R.L H' v c → OwnB R.B v c → D.rt v H') (he : ∀ x as st, E x as st → ES K R H x as st) : t.All (FE K R D H) (ES K R H) := by
  refine T.all_mono (fun p hp => ?_) he _ (T.all_bind _ h)
  intro σ' H' i r
  obtain ⟨o, st⟩ := p
  cases o with
  | nx => exact hn _ hp σ' H' r.ext r.law
  | brk => exact hp.elim
  | ret c => exact fun v rv ow => hr c _ hp H' v r.ext r.law rv ow
/-- what a frame of a def is in -/
structure Fr (t : Tx) (P : Program) (w : World) (K : PySem.W.Frag) (mg : Str → Option Value) (base : Heap) (L : Lw) (f : Nat) (N : List Str) (qual : Str) (scope : Scope) (cdv : Value) (lv : Nat) (A : Around) : Prop where
  nd : N.Nodup
  kind : scope.kind = .function
  room : Room (lv + 2) A
  gu : A.guards = some []
  tab : t.lm f = true → ∃ c Pa, cdv = .ref c ∧ LamX.TabB base mg c Pa ∧ (Pa, qual ++ ".<locals>." ++ "<lambda>") ∈ L.T ∧ ∀ p ∈ L.T, p.1 = Pa → p.2 = qual ++ ".<locals>." ++ "<lambda>"
/-- how the lambda that was handed in is called -/
def ActAt (X : Cx) (R : Rc) (G : Env) (N : List Str) (sc : Scope) : Prop := ∀ (pn : List (Addr × Obj)) (xe : Value → Shared → Prop) (W : WX), Takes (X.tr pn xe) W → ∀ (i : Nat) (n : Str) (p1 p2 : Pos), N[i]? = some n → Vis sc n → (n == ("__debug__" : Str)) = false → (n == ("__classdict__" : Str)) = false →
  PE (X.tr pn xe) (.Call (.Name n p1) [] [] p2) (Rd X.K (R.wish W) (ev G (.act i)))
/-- the def with a lambda, at a depth -/
def CmOk (t : Tx) (pr : Pr) (P : Program) (w : World) (K : PySem.W.Frag) (mg : Str → Option Value) (base : Heap) (L : Lw) (xi : XI) (lv : Nat) (cm : Nat → T Cell → T Cell) : Prop :=
  ∀ (X : Cx) (R : Rc) (f : Nat) (n : Str), X.prog = P → X.w = w → X.K = K → X.mg = mg → X.base = base → R.L = L → R.xi = xi → X.A.guards = some [] → t.ns[f]? = some n → (∃ am, cm f am ≠ .bad) →
    ∃ (a : Str) (g : Addr) (pg : Arguments) (bg : List Stmt) (sg : Scope) (dV kV doc pm cdv ct oc : Value) (an od : Option Addr) (osl : Array (Option Value)) (Ng : List Str) (cl' : Nat → List Cell → Nat → T (Cell × Nat)) (cm' : Nat → T Cell → T Cell) (fuel : Nat), X.mg n = some (.ref g) ∧ PySem.W.keepIn X.K (.ref g) = true ∧
      X.K.lookup g = some ⟨oc, od, .func (PySem.W.fnOf n n pg bg sg dV kV doc pm an cdv ct), osl⟩ ∧ PySem.W.codeIn X.K cdv n = true ∧ L2.Binds X.K (PySem.W.fnOf n n pg bg sg dV kV doc pm an cdv ct) [a] [] ∧ FnScope Ng [a] sg ∧ ∀ m, CalleeOk X ⟨R.L.shift m, R.B, R.xi, R.W⟩ n Ng sg g cdv bg cl' cm' pr.gl fuel (cm f) lv
theorem vis_by {C : Ck} {i : Nat} {n : Str} (h : slotB C i n = true) : C.N[i]? = some n ∧ Vis C.sc n ∧ (n == ("__debug__" : Str)) = false ∧ (n == ("__classdict__" : Str)) = false := by
  unfold slotB at h
  rw [Bool.and_eq_true, Bool.and_eq_true] at h
  obtain ⟨⟨h1, h2⟩, h3⟩ := h
  refine ⟨beq_iff_eq.mp h1, ?_, okN_ok h3⟩
  unfold kd at h2
  show C.sc.names.lookup n = some .local ∨ C.sc.names.lookup n = some .cell ∨ C.sc.names.lookup n = some .free
  cases hk : C.sc.names.lookup n with
  | none => rw [hk] at h2; cases h2
  | some k =>
    rw [hk] at h2
    cases k with
    | «local» => exact .inl rfl
    | cell => exact .inr (.inl rfl)
    | free => exact .inr (.inr rfl)
    | _ => cases h2
theorem nopar_def {a : Arguments} {env : PySem.Env} (h : noPar a = true) : defaultsOf a env = ([], []) := by
  obtain ⟨a1, a2, a3, a4, a5, a6, a7⟩ := a
  unfold noPar at h
  simp only [Bool.and_eq_true, List.isEmpty_iff] at h
  obtain ⟨⟨⟨⟨⟨⟨_, _⟩, _⟩, _⟩, h5⟩, _⟩, h7⟩ := h
  subst h5
  subst h7
  rfl
theorem nopar_bind {a : Arguments} {body : Expr} {scope : Scope} (h : noPar a = true) (q : Str) (cl : List (Str × Addr)) (pm cv ctv : Value) : bindArgs (PySem.W.kla_fn "<lambda>" q a body scope cl pm cv ctv) ⟨[], []⟩ = pure [] := by
  obtain ⟨a1, a2, a3, a4, a5, a6, a7⟩ := a
  unfold noPar at h
  simp only [Bool.and_eq_true, List.isEmpty_iff, Option.isNone_iff_eq_none] at h
  obtain ⟨⟨⟨⟨⟨⟨h1, h2⟩, h3⟩, h4⟩, _⟩, h6⟩, _⟩ := h
  exact RfX.bind_plain (fd := PySem.W.kla_fn "<lambda>" q ⟨a1, a2, a3, a4, a5, a6, a7⟩ body scope cl pm cv ctv) (ps := []) ⟨h1, by show a2.map _ = _; rw [h2]; rfl, h3, h4, h6, rfl⟩ .nil [] rfl
theorem all_notbad {α : Type} {p : α → Prop} {E : Nat → List PyData → Sl → Prop} {x : T α} (h : x.All p E) : x ≠ .bad := fun z => by
  rw [z] at h
  exact h
theorem mf_good (M : MF t pr P w K mg base L xi) {lv : Nat} {cl : Nat → List Cell → Nat → T (Cell × Nat)} {cm : Nat → T Cell → T Cell} {am : T Cell} {fuel : Nat} (AK : AllOk t P w K mg base L xi lv cl) (CK : CmOk t pr P w K mg base L xi lv cm)
    {f : Nat} {N : List Str} {qual : Str} {scope : Scope} {fa : Addr} {cdv : Value} {A : Around} {outer : List PySem.Env} {s : Shared} {H B : Hp} {E : XK} (F : Fr t P w K mg base L f N qual scope cdv lv (A.deeper (envOfC qual scope s.heap.objs.size fa cdv)))
    (hact : ActAt (cxOf (L2.CX P w) P w K mg base N qual scope fa cdv A outer s H E) ⟨L, B, xi, fun cls d _ H => E cls d H⟩ ⟨cl, cm, am, pr.gl, fuel⟩ N scope) :
    GoodS (t.ck N scope (t.lm f)) (cxOf (L2.CX P w) P w K mg base N qual scope fa cdv A outer s H E) ⟨L, B, xi, fun cls d _ H => E cls d H⟩ ⟨cl, cm, am, pr.gl, fuel⟩ lv where
  calm := rfl
  nd := F.nd
  eN := rfl
  sc := rfl
  fn := fun _ _ => rfl
  hu := by
    have := F.room.un
    show (A.deeper _).units + 65 < cLine
    omega
  tk := takes_of rfl rfl rfl rfl
  room := F.room.mono (Nat.le_add_right lv 2)
  gu := F.gu
  blt := M.blt
  gcd := M.gcd
  cmb := M.cmb
  fns := AK
  gls := M.gls
  act := fun _ pn xe W tk i n p1 p2 h => let ⟨h1, h2, h3, h4⟩ := vis_by h; hact pn xe W tk i n p1 p2 h1 h2 h3 h4
  lam := fun hlm pn xe W tk g n params body sc lpos p1 p2 ie hgl hn hL hnp hbody => by
    refine ⟨fun pins s' σ H' Q I h => ?_⟩
    have ne : ∃ a, cm g a ≠ .bad := by
      obtain ⟨st, hr0, q⟩ := h
      unfold ev at q
      exact ⟨_, all_notbad (T.all_noex _ (T.all_bind _ q))⟩
    obtain ⟨c, Pa, e1, TB, e2, e3⟩ := F.tab hlm
    obtain ⟨a, ga, pg, bg, sg, dV, kV, doc, pm, cdv', ct, oc, an, od, osl, Ng, cl', cm', fuel', k1, k2, k3, k4, k5, k6, k7⟩ := CK ((cxOf (L2.CX P w) P w K mg base N qual scope fa cdv A outer s H E).tr pn xe) ⟨L, B, xi, W⟩ g n rfl rfl rfl rfl rfl rfl rfl F.gu hn ne
    have hg' : Gl (cxOf (L2.CX P w) P w K mg base N qual scope fa cdv A outer s H E) n ∧ (n == ("__debug__" : Str)) = false := by
      unfold glB at hgl
      rw [Bool.and_eq_true] at hgl
      exact ⟨beq_iff_eq.mp hgl.1, (okN_ok hgl.2).1⟩
    exact (pe_lamR (X := (cxOf (L2.CX P w) P w K mg base N qual scope fa cdv A outer s H E).tr pn xe) (R := ⟨L, B, xi, W⟩) (G := ⟨cl, cm, am, pr.gl, fuel⟩) tk hg'.1 k1 k2 k3 k4 k5 k6 k7 TB e1 e2 e3 F.room hL (nopar_def hnp) (nopar_bind hnp) hbody hg'.2).run pins s' σ H' Q I h
  ps := passes_of rfl
  stk := rfl
  fr := rfl
  kind := F.kind
  xf := M.xf
  exs := M.exs
  flds := M.flds
  own := fun x n h hf => by
    obtain ⟨⟨k1, k2, k3, k4⟩, k5⟩ := M.own x n h hf
    exact ⟨⟨(M.exs x n h).2, k1, k2, k3, M.sup, k4⟩, k5⟩
/-- no lambda was handed in -/
theorem act_none {X : Cx} {R : Rc} {cl : Nat → List Cell → Nat → T (Cell × Nat)} {cm : Nat → T Cell → T Cell} {gl : List PyData} {fuel : Nat} {N : List Str} {sc : Scope} : ActAt X R ⟨cl, cm, .bad, gl, fuel⟩ N sc := fun pn xe W tk i n p1 p2 _ _ _ _ => ⟨fun pins s σ H Q I h => by
  obtain ⟨st, hr, q⟩ := h
  unfold ev at q
  obtain ⟨u, _, q2⟩ := T.all_none q
  exact (T.all_bind _ q2).elim⟩
/-- what the checker says of a def -/
theorem ckF_ok {f n m z : Nat} {nm : Str} {body : ISs} (hn : t.ns[f]? = some nm) (h : ckF t f (.code n m z body) = true) : ∃ st N, t.sts[f]? = some st ∧ argsB (defArgs st) (N.take m) = true ∧ FnScope N (N.take m) (defScope st) ∧ m ≤ N.length ∧ N.length = n ∧ t.pars[f]? = some (N.take m) ∧ ckSs body (t.ck N (defScope st) (t.lm f)) (defBody st) = true := by
  dsimp only [ckF] at h
  rw [hn] at h
  split at h
  · rename_i n' st N hn' hst hNs
    obtain ⟨hc, c5⟩ := and2 h
    obtain ⟨hc, c6⟩ := and2 hc
    obtain ⟨hc, c4⟩ := and2 hc
    obtain ⟨c1, c2, c3⟩ := and3 hc
    exact ⟨st, N, hst, c1, scopeB_ok c2, of_decide_eq_true c3, of_decide_eq_true c4, of_decide_eq_true c6, c5⟩
  · cases h
theorem T.all_give {α : Type} {P : α × Nat → Prop} {E : Nat → List PyData → Sl → Prop} {k : Nat} : ∀ t : T (α × Nat), (T.give k t).All P E → t.All (fun p => P (p.1, k + p.2)) (fun x as st => E x as (st.spent (k + st.n)))
  | .ok _, h => h
  | .ex _ _ _, h => h
  | .bad, h => h
  | .draw _ f, h => fun n hn => T.all_give (f n) (h n hn)
/-- what a def's tree says -/
theorem runB_code {cl : Nat → List Cell → Nat → T (Cell × Nat)} {cm : Nat → T Cell → T Cell} {am : T Cell} {fuel f n m c b : Nat} {body : ISs} {cs : List Cell} {Pc : Cell × Nat → Prop} {E : Nat → List PyData → Sl → Prop} (hd : pr.fs[f]? = some (.code n m c body)) (h : (runB pr fuel cl cm am f cs b).All Pc E) :
    cs.length = m ∧ c ≤ b ∧ ((exs ⟨cl, cm, am, pr.gl, fuel⟩ body (entry n cs c)).bind Out.cell).All (fun p => Pc (p.1, b - c + p.2)) (fun x as st => E x as (st.spent (b - c + st.n))) := by
  unfold runB at h
  rw [hd] at h
  dsimp only at h
  split at h
  · rename_i hl
    cases hb : Nat.ble c b with
    | false => rw [hb] at h; exact h.elim
    | true =>
      rw [hb] at h
      exact ⟨hl, Nat.le_of_ble_eq_true hb, T.all_give _ h⟩
  · exact h.elim
/-- the def f, one deeper -/
theorem def_ok (M : MF t pr P w K mg base L xi) {lv : Nat} {cl : Nat → List Cell → Nat → T (Cell × Nat)} {cm : Nat → T Cell → T Cell} {fuel : Nat} (AK : AllOk t P w K mg base L xi lv cl) (CK : ∀ k, CmOk t pr P w K mg base (L.shift k) xi lv cm) : AllOk t P w K mg base L xi (lv + 3) (runB pr fuel cl cm .bad) := by
  intro f n hn
  obtain ⟨d, hd, hc⟩ := M.all f n hn
  cases d with
  | draw =>
    obtain ⟨fa, fd, ps, h1, h2, h3, F⟩ := M.draw f n hn hd
    refine ⟨fa, fd, ps, h1, h2, h3, fun k => ((F L.am k).mono (Nat.le_add_left 3 lv)).imp fun vs H Q E ⟨cs, b, q1, q2, q3, q4⟩ => ⟨cs, b, q1, q2, q3, ?_⟩⟩
    unfold runB at q4
    rw [hd] at q4
    exact q4
  | code a m cost body =>
    obtain ⟨st, N, hst, c1, S, c3, c4, c6, c5⟩ := ckF_ok hn hc
    subst c4
    obtain ⟨fa, fd, F⟩ := M.code f n _ _ _ _ st hn hst hd
    have PP := argsB_ok F.fn c1
    have lenN : (N.take m).length = m := by rw [List.length_take]; omega
    have nd : (N.take m).Nodup := S.nd.sublist (List.take_sublist _ _)
    have len : ∀ k vs H Q E, Fp K (L.shift k) xi (runB pr fuel cl cm .bad f) vs H Q E → vs.length = (N.take m).length := fun k vs H Q E ⟨cs, b, q1, q2, q3, q4⟩ => by
      rw [q2.length, lenN, (runB_code hd q4).1]
    refine ⟨fa, fd, N.take m, F.nm, F.fn.kp, ⟨PP, nd, fun qs e => by rw [c6] at e; cases e; rfl⟩, fun k => ?_⟩
    have tab := F.tab
    obtain ⟨oc, od, kV, doc, pm, an, cdv, ct, osl, efd, lk, hcd⟩ := F.fn.ex
    subst efd
    refine ⟨len k, fun A outer s H args us vs Q E gu hr he hbt hv ⟨cs, b, q1, q2, q3, q4⟩ => ?_⟩
    refine LamX.run_ofS (k := lv + 2) lk hcd S hr he hbt hv (len k vs H Q E ⟨cs, b, q1, q2, q3, q4⟩) fun hr => ?_
    obtain ⟨hl, hcb, q5⟩ := runB_code hd q4
    have eb : ∀ r, k + (b - cost) + r = k + (b - cost + r) := fun r => Nat.add_assoc _ _ _
    refine ⟨_, sndSs body _ _ _ _ lv _ (mf_good (M.shift (k + (b - cost))) (AK.shift _) (CK _) (am := .bad) (fuel := fuel) (f := f) (fa := fa) (E := E) ⟨S.nd, S.kind, hr, gu, tab⟩ act_none) c5, entry N.length cs cost, entry_rel (L := L.shift (k + (b - cost))) (b := cost) (by
      show L.ok (k + (b - cost) + cost) H
      rw [eb, Nat.sub_add_cancel hcb]
      exact q1) q2.shift q3 (by rw [hl]; exact c3), ?_⟩
    refine out_all (R := ⟨L.shift (k + (b - cost)), H, xi, _⟩) q5 (fun r h σ' H' e k' => h .non H' e (by
        have k' : L.ok (k + (b - cost) + r) H' := k'
        rw [eb] at k'
        exact k') .non trivial) (fun c r h H' v e k' rv ow => h v H' e (by
        have k' : L.ok (k + (b - cost) + r) H' := k'
        rw [eb] at k'
        exact k') rv ow) (fun x as st' h cls d σ' H' i r ex => h cls d H' r.ext (by
        have k' : L.ok (k + (b - cost) + st'.n) H' := r.law
        rw [eb] at k'
        exact k') ex)
/-- the def f with a lambda, one deeper -/
theorem amb_ok (M : MF t pr P w K mg base L xi) {lv : Nat} {cl : Nat → List Cell → Nat → T (Cell × Nat)} {cm : Nat → T Cell → T Cell} {fuel : Nat} (AK : ∀ a, AllOk t P w K mg base (L.amb a) xi lv cl) (CK : ∀ a k, CmOk t pr P w K mg base ((L.amb a).shift k) xi lv cm) : CmOk t pr P w K mg base L xi (lv + 3) (fun f am => (runB pr fuel cl cm am f [.amb] 0).bind fun p => .ok p.1) := by
  intro X R f n eP eW eK eM eB eL ex gu hn hne
  subst eP eW eK eM eB eL ex
  obtain ⟨am0, hne⟩ := hne
  obtain ⟨d, hd, hc⟩ := M.all f n hn
  cases d with
  | draw =>
    refine (hne ?_).elim
    show (runB pr fuel cl cm am0 f [.amb] 0).bind (fun p => T.ok p.1) = .bad
    unfold runB
    rw [hd]
    rfl
  | code a0 m cost body =>
    obtain ⟨st, N, hst, c1, S, c3, c4, c6, c5⟩ := ckF_ok hn hc
    subst c4
    obtain ⟨fa, fd, F⟩ := M.code f n _ _ _ _ st hn hst hd
    have PP := argsB_ok F.fn c1
    have hm : m = 1 := by
      by_cases z : m = 1
      · exact z
      · refine (hne ?_).elim
        show (runB pr fuel cl cm am0 f [.amb] 0).bind (fun p => T.ok p.1) = .bad
        unfold runB
        rw [hd]
        dsimp only
        rw [if_neg (fun q => z q.symm)]
        rfl
    subst hm
    have lenN : (N.take 1).length = 1 := by rw [List.length_take]; omega
    have nd : (N.take 1).Nodup := S.nd.sublist (List.take_sublist _ _)
    obtain ⟨a, ea⟩ : ∃ a, N.take 1 = [a] := by
      cases h1 : N.take 1 with
      | nil => rw [h1] at lenN; cases lenN
      | cons a r => rw [h1] at lenN; cases r with
        | nil => exact ⟨a, rfl⟩
        | cons _ _ => cases lenN
    rw [ea] at S PP nd
    have tab := F.tab
    have kp := F.fn.kp
    have nmf := F.nm
    obtain ⟨oc, od, kV, doc, pm, an, cdv, ct, osl, efd, lk, hcd⟩ := F.fn.ex
    subst efd
    refine ⟨a, fa, defArgs st, defBody st, defScope st, _, kV, doc, pm, cdv, ct, oc, an, od, osl, N, cl, cm, fuel, nmf, kp, lk, hcd, Binds.all fun us hl => RfX.bind_plain PP nd us hl, S, ?_⟩
    intro m g am s' H1 Q E hr k1 act q4
    obtain ⟨_, hc0, q5⟩ := runB_code hd (T.all_bind _ (show ((runB pr fuel cl cm am f [.amb] 0).bind fun p => T.ok p.1).All _ _ from q4))
    obtain rfl : cost = 0 := Nat.le_zero.mp hc0
    refine ⟨_, sndSs body _ _ _ _ lv _ (mf_good ((M.amb g).shift m) ((AK g).shift m) (CK g m) (am := am) (fuel := fuel) (f := f) (fa := fa) (E := E) ⟨S.nd, S.kind, hr.mono (by omega), gu, tab⟩ act) c5, entry N.length [.amb] 0, entry_rel (L := (R.L.amb g).shift m) (vs := [.ref g]) k1 (.cons rfl .nil) (fun c hc ds z => by rw [List.mem_singleton.mp hc] at z; cases z) (by omega), ?_⟩
    exact out_all (R := ⟨(R.L.amb g).shift m, H1, R.xi, _⟩) q5 (fun r h σ' H' e k => h .non H' e ((R.L.shift m).mono _ _ _ k (Nat.zero_le _)) .non trivial) (fun c r h H' v e k rv ow => h v H' e ((R.L.shift m).mono _ _ _ k (Nat.zero_le _)) rv ow) (fun x as st' h cls d σ' H' i r ex => h.elim)
theorem cm_bad : CmOk t pr P w K mg base L xi 0 (fun _ _ => .bad) := fun X R f n _ _ _ _ _ _ _ _ _ h => (h.elim fun _ z => z rfl).elim
/-- at every depth -/
theorem run_ok {fuel : Nat} : ∀ (k : Nat) {L : Lw}, MF t pr P w K mg base L xi → (∀ (f : Nat) (n : Str), t.ns[f]? = some n → ∃ fa fd ps, mg n = some (.ref fa) ∧ PySem.W.keepIn K (.ref fa) = true ∧ ParOk t f fd ps) → AllOk t P w K mg base L xi (3 * k) (run pr fuel k).1 ∧ CmOk t pr P w K mg base L xi (3 * k) (run pr fuel k).2
  | 0, L, _, hz => ⟨fun f n hn => by
    obtain ⟨fa, fd, ps, h1, h2, h3⟩ := hz f n hn
    exact ⟨fa, fd, ps, h1, h2, h3, fun m => ⟨fun vs H Q E ⟨cs, _, _, _, _, q⟩ => q.elim, fun A outer s H args us vs Q E _ _ _ _ _ ⟨cs, _, _, _, _, q⟩ => q.elim⟩⟩, cm_bad⟩
  | k + 1, L, M, hz => ⟨def_ok M (run_ok k M hz).1 (fun j => (run_ok k (M.shift j) hz).2), amb_ok M (fun a => (run_ok k (M.amb a) hz).1) (fun a j => (run_ok k ((M.amb a).shift j) hz).2)⟩
end
end Rf
set_option Elab.async false
set_option linter.all false
set_option maxRecDepth 100000
set_option maxHeartbeats 4000000
/-! the IR of the law's text, printed by gen.py -/
namespace Rf
open PySem
/-- is_integer -/
def b_0 : ISs := .cons (.ret (.and_ (.bi .isInt (.cons (.var 0) .nil)) (.inv (.bi .isBool (.cons (.var 0) .nil))))) .nil
/-- is_from -/
def b_1 : ISs := .cons (.ret (.and_ (.call 0 (.cons (.var 0) .nil)) (.chain .le .le (.var 1) (.var 0) (.var 2)))) .nil
/-- is_fraction -/
def b_2 : ISs := .cons (.ifs (.or_ (.inv (.bi .isTup (.cons (.var 0) .nil))) (.or_ (.cmp .ne (.bi .len (.cons (.var 0) .nil)) (.con (.int 2))) (.or_ (.inv (.call 0 (.cons (.idx (.var 0) (.con (.int 0))) .nil))) (.inv (.call 0 (.cons (.idx (.var 0) (.con (.int 1))) .nil)))))) (.cons (.ret (.con (.bool false))) .nil) .nil) (.cons (.ret (.and_ (.cmp .gt (.idx (.var 0) (.con (.int 1))) (.con (.int 0))) (.cmp .eq (.bi .gcd (.cons (.idx (.var 0) (.con (.int 0))) (.cons (.idx (.var 0) (.con (.int 1))) .nil))) (.con (.int 1))))) .nil)
/-- reduced_in -/
def b_3 : ISs := .cons (.set 2 (.bi .gcd (.cons (.var 0) (.cons (.var 1) .nil)))) (.cons (.ifs (.cmp .lt (.var 1) (.con (.int 0))) (.cons (.set 2 (.neg (.var 2))) .nil) .nil) (.cons (.ret (.tup (.cons (.bin .fdiv (.var 0) (.var 2)) (.cons (.bin .fdiv (.var 1) (.var 2)) .nil)))) .nil))
/-- plus_in -/
def b_4 : ISs := .cons (.ret (.call 3 (.cons (.bin .add (.bin .mul (.idx (.var 0) (.con (.int 0))) (.idx (.var 1) (.con (.int 1)))) (.bin .mul (.idx (.var 1) (.con (.int 0))) (.idx (.var 0) (.con (.int 1))))) (.cons (.bin .mul (.idx (.var 0) (.con (.int 1))) (.idx (.var 1) (.con (.int 1)))) .nil)))) .nil
/-- minus_in -/
def b_5 : ISs := .cons (.ret (.call 3 (.cons (.bin .sub (.bin .mul (.idx (.var 0) (.con (.int 0))) (.idx (.var 1) (.con (.int 1)))) (.bin .mul (.idx (.var 1) (.con (.int 0))) (.idx (.var 0) (.con (.int 1))))) (.cons (.bin .mul (.idx (.var 0) (.con (.int 1))) (.idx (.var 1) (.con (.int 1)))) .nil)))) .nil
/-- times_in -/
def b_6 : ISs := .cons (.ret (.call 3 (.cons (.bin .mul (.idx (.var 0) (.con (.int 0))) (.idx (.var 1) (.con (.int 0)))) (.cons (.bin .mul (.idx (.var 0) (.con (.int 1))) (.idx (.var 1) (.con (.int 1)))) .nil)))) .nil
/-- is_less -/
def b_7 : ISs := .cons (.ret (.cmp .lt (.bin .mul (.idx (.var 0) (.con (.int 0))) (.idx (.var 1) (.con (.int 1)))) (.bin .mul (.idx (.var 1) (.con (.int 0))) (.idx (.var 0) (.con (.int 1)))))) .nil
/-- total_in -/
def b_8 : ISs := .cons (.set 1 (.gl 0)) (.cons (.for_ [2] (.seq (.var 0)) (.cons (.set 1 (.call 4 (.cons (.var 1) (.cons (.var 2) .nil)))) .nil)) (.cons (.ret (.var 1)) .nil))
/-- is_pay -/
def b_9 : ISs := .cons (.ifs (.or_ (.inv (.bi .isTup (.cons (.var 0) .nil))) (.cmp .ne (.bi .len (.cons (.var 0) .nil)) (.con (.int 2)))) (.cons (.ret (.con (.bool false))) .nil) .nil) (.cons (.ret (.and_ (.call 1 (.cons (.idx (.var 0) (.con (.int 0))) (.cons (.neg (.gl 3)) (.cons (.gl 3) .nil)))) (.call 1 (.cons (.idx (.var 0) (.con (.int 1))) (.cons (.neg (.gl 3)) (.cons (.gl 3) .nil)))))) .nil)
/-- check_pays -/
def b_10 : ISs := .cons (.ifs (.or_ (.inv (.bi .isTup (.cons (.var 0) .nil))) (.inv (.chain .le .le (.con (.int 1)) (.bi .len (.cons (.var 0) .nil)) (.gl 2)))) (.cons (.raise_ 1 (.cons (.tup .nil) .nil)) .nil) .nil) (.cons (.for_ [1, 2] (.enum (.var 0)) (.cons (.ifs (.or_ (.inv (.bi .isTup (.cons (.var 2) .nil))) (.or_ (.inv (.chain .le .le (.con (.int 1)) (.bi .len (.cons (.var 2) .nil)) (.gl 2))) (.cmp .ne (.bi .len (.cons (.var 2) .nil)) (.bi .len (.cons (.idx (.var 0) (.con (.int 0))) .nil))))) (.cons (.raise_ 1 (.cons (.tup (.cons (.var 1) .nil)) .nil)) .nil) .nil) (.cons (.for_ [3, 4] (.enum (.var 2)) (.cons (.ifs (.inv (.call 9 (.cons (.var 4) .nil))) (.cons (.raise_ 1 (.cons (.tup (.cons (.var 1) (.cons (.var 3) .nil))) .nil)) .nil) .nil) .nil)) .nil))) (.cons (.ret (.var 0)) .nil))
/-- is_parts -/
def b_11 : ISs := .cons (.ifs (.or_ (.inv (.bi .isTup (.cons (.var 1) .nil))) (.cmp .ne (.bi .len (.cons (.var 1) .nil)) (.var 0))) (.cons (.ret (.con (.bool false))) .nil) .nil) (.cons (.ifs (.cmp .gt (.bi .len (.cons (.lc (.con (.int 1)) [2] (.seq (.var 1)) (.some (.or_ (.inv (.call 2 (.cons (.var 2) .nil))) (.cmp .lt (.idx (.var 2) (.con (.int 0))) (.con (.int 0)))))) .nil)) (.con (.int 0))) (.cons (.ret (.con (.bool false))) .nil) .nil) (.cons (.ret (.cmp .eq (.call 8 (.cons (.var 1) .nil)) (.gl 1))) .nil))
/-- is_poly -/
def b_12 : ISs := .cons (.ifs (.or_ (.inv (.bi .isTup (.cons (.var 0) .nil))) (.cmp .gt (.bi .len (.cons (.var 0) .nil)) (.gl 4))) (.cons (.ret (.con (.bool false))) .nil) .nil) (.cons (.ifs (.cmp .gt (.bi .len (.cons (.lc (.con (.int 1)) [1] (.seq (.var 0)) (.some (.inv (.call 0 (.cons (.var 1) .nil))))) .nil)) (.con (.int 0))) (.cons (.ret (.con (.bool false))) .nil) .nil) (.cons (.ret (.or_ (.cmp .eq (.bi .len (.cons (.var 0) .nil)) (.con (.int 0))) (.cmp .ne (.idx (.var 0) (.neg (.con (.int 1)))) (.con (.int 0))))) .nil))
/-- cut_in -/
def b_13 : ISs := .cons (.set 1 (.bi .len (.cons (.var 0) .nil))) (.cons (.while_ (.and_ (.cmp .gt (.var 1) (.con (.int 0))) (.cmp .eq (.idx (.var 0) (.bin .sub (.var 1) (.con (.int 1)))) (.con (.int 0)))) (.cons (.set 1 (.bin .sub (.var 1) (.con (.int 1)))) .nil)) (.cons (.ret (.bi .tuple (.cons (.slc (.var 0) .none (.some (.var 1))) .nil))) .nil))
/-- poly_scaled -/
def b_14 : ISs := .cons (.ret (.call 13 (.cons (.lc (.bin .mul (.var 2) (.var 1)) [2] (.seq (.var 0)) .none) .nil))) .nil
/-- divisor_in -/
def b_15 : ISs := .cons (.set 1 (.con (.int 0))) (.cons (.for_ [2] (.seq (.var 0)) (.cons (.set 1 (.bi .gcd (.cons (.var 1) (.cons (.var 2) .nil)))) .nil)) (.cons (.ret (.var 1)) .nil))
/-- whole_in -/
def b_16 : ISs := .cons (.set 1 (.call 15 (.cons (.var 0) .nil))) (.cons (.ret (.ite (.cmp .gt (.var 1) (.con (.int 0))) (.bi .tuple (.cons (.lc (.bin .fdiv (.var 2) (.var 1)) [2] (.seq (.var 0)) .none) .nil)) (.tup .nil))) .nil)
/-- slope_in -/
def b_17 : ISs := .cons (.ret (.call 13 (.cons (.slc (.lc (.bin .mul (.var 1) (.var 2)) [1, 2] (.enum (.var 0)) .none) (.some (.con (.int 1))) .none) .nil))) .nil
/-- parted_in -/
def b_18 : ISs := .cons (.par [2, 3, 4] (.cons (.bi .list (.cons (.var 0) .nil)) (.cons (.bin .mul (.lst (.cons (.con (.int 0)) .nil)) (.bi .max (.cons (.con (.int 0)) (.cons (.bin .add (.bin .sub (.bi .len (.cons (.var 0) .nil)) (.bi .len (.cons (.var 1) .nil))) (.con (.int 1))) .nil)))) (.cons (.con (.int 1)) .nil)))) (.cons (.par [5, 6] (.cons (.idx (.var 1) (.neg (.con (.int 1)))) (.cons (.bi .len (.cons (.var 1) .nil)) .nil))) (.cons (.for_ [7] (.revrange (.cons (.bi .len (.cons (.var 3) .nil)) .nil)) (.cons (.set 8 (.bin .fdiv (.bi .abs (.cons (.var 5) .nil)) (.bi .gcd (.cons (.var 5) (.cons (.idx (.var 2) (.bin .sub (.bin .add (.var 7) (.var 6)) (.con (.int 1)))) .nil))))) (.cons (.par [2, 3, 4] (.cons (.lc (.bin .mul (.var 9) (.var 8)) [9] (.seq (.var 2)) .none) (.cons (.lc (.bin .mul (.var 9) (.var 8)) [9] (.seq (.var 3)) .none) (.cons (.bin .mul (.var 4) (.var 8)) .nil)))) (.cons (.set 10 (.bin .fdiv (.idx (.var 2) (.bin .sub (.bin .add (.var 7) (.var 6)) (.con (.int 1)))) (.var 5))) (.cons (.sub 3 (.var 7) (.var 10)) (.cons (.for_ [11, 9] (.enum (.var 1)) (.cons (.sub 2 (.bin .add (.var 7) (.var 11)) (.bin .sub (.idx (.var 2) (.bin .add (.var 7) (.var 11))) (.bin .mul (.var 10) (.var 9)))) .nil)) .nil)))))) (.cons (.ret (.call 19 (.cons (.call 13 (.cons (.var 3) .nil)) (.cons (.call 13 (.cons (.var 2) .nil)) (.cons (.var 4) .nil))))) .nil)))
/-- lessened_in -/
def b_19 : ISs := .cons (.set 3 (.call 15 (.cons (.bin .add (.bin .add (.var 0) (.var 1)) (.tup (.cons (.var 2) .nil))) .nil))) (.cons (.ret (.tup (.cons (.bi .tuple (.cons (.lc (.bin .fdiv (.var 4) (.var 3)) [4] (.seq (.var 0)) .none) .nil)) (.cons (.bi .tuple (.cons (.lc (.bin .fdiv (.var 4) (.var 3)) [4] (.seq (.var 1)) .none) .nil)) (.cons (.bin .fdiv (.var 2) (.var 3)) .nil))))) .nil)
/-- rest_in -/
def b_20 : ISs := .cons (.ret (.call 16 (.cons (.idx (.call 18 (.cons (.var 0) (.cons (.var 1) .nil))) (.con (.int 1))) .nil))) .nil
/-- common_in -/
def b_21 : ISs := .cons (.while_ (.cmp .gt (.bi .len (.cons (.var 1) .nil)) (.con (.int 0))) (.cons (.par [0, 1] (.cons (.var 1) (.cons (.call 20 (.cons (.var 0) (.cons (.var 1) .nil))) .nil))) .nil)) (.cons (.set 2 (.call 16 (.cons (.var 0) .nil))) (.cons (.ret (.ite (.and_ (.cmp .gt (.bi .len (.cons (.var 2) .nil)) (.con (.int 0))) (.cmp .lt (.idx (.var 2) (.neg (.con (.int 1)))) (.con (.int 0)))) (.call 14 (.cons (.var 2) (.cons (.neg (.con (.int 1))) .nil))) (.var 2))) .nil))
/-- plain_in -/
def b_22 : ISs := .cons (.ret (.call 16 (.cons (.idx (.call 18 (.cons (.var 0) (.cons (.call 21 (.cons (.var 0) (.cons (.call 17 (.cons (.var 0) .nil)) .nil))) .nil))) (.con (.int 0))) .nil))) .nil
/-- row_in -/
def b_23 : ISs := .cons (.set 1 (.lst (.cons (.call 22 (.cons (.var 0) .nil)) .nil))) (.cons (.set 2 (.call 16 (.cons (.call 17 (.cons (.idx (.var 1) (.con (.int 0))) .nil)) .nil))) (.cons (.while_ (.cmp .gt (.bi .len (.cons (.var 2) .nil)) (.con (.int 0))) (.cons (.app 1 (.var 2)) (.cons (.set 2 (.call 14 (.cons (.call 20 (.cons (.idx (.var 1) (.neg (.con (.int 2)))) (.cons (.idx (.var 1) (.neg (.con (.int 1)))) .nil))) (.cons (.neg (.con (.int 1))) .nil)))) .nil))) (.cons (.ret (.var 1)) .nil)))
/-- sign_of -/
def b_24 : ISs := .cons (.par [2, 3] (.cons (.con (.int 0)) (.cons (.con (.int 1)) .nil))) (.cons (.for_ [4] (.revd (.var 0)) (.cons (.par [2, 3] (.cons (.bin .add (.bin .mul (.var 2) (.idx (.var 1) (.con (.int 0)))) (.bin .mul (.var 4) (.var 3))) (.cons (.bin .mul (.var 3) (.idx (.var 1) (.con (.int 1)))) .nil))) .nil)) (.cons (.ret (.bin .sub (.cmp .gt (.var 2) (.con (.int 0))) (.cmp .lt (.var 2) (.con (.int 0))))) .nil))
/-- changes_in -/
def b_25 : ISs := .cons (.set 2 (.lc (.var 3) [3] (.seq (.lc (.call 24 (.cons (.var 4) (.cons (.var 1) .nil))) [4] (.seq (.var 0)) .none)) (.some (.cmp .ne (.var 3) (.con (.int 0)))))) (.cons (.ret (.bi .len (.cons (.lc (.con (.int 1)) [5, 6] (.zip (.cons (.var 2) (.cons (.slc (.var 2) (.some (.con (.int 1))) .none) .nil))) (.some (.cmp .ne (.var 5) (.var 6)))) .nil))) .nil)
/-- count_in -/
def b_26 : ISs := .cons (.set 3 (.call 23 (.cons (.var 0) .nil))) (.cons (.set 4 (.bin .sub (.call 25 (.cons (.var 3) (.cons (.var 1) .nil))) (.call 25 (.cons (.var 3) (.cons (.var 2) .nil))))) (.cons (.ret (.ite (.and_ (.cmp .eq (.call 24 (.cons (.idx (.var 3) (.con (.int 0))) (.cons (.var 2) .nil))) (.con (.int 0))) (.call 7 (.cons (.var 1) (.cons (.var 2) .nil)))) (.bin .sub (.var 4) (.con (.int 1))) (.var 4))) .nil))
/-- is_within -/
def b_27 : ISs := .cons (.ret (.and_ (.call 2 (.cons (.var 0) .nil)) (.and_ (.inv (.call 7 (.cons (.var 0) (.cons (.gl 0) .nil)))) (.inv (.call 7 (.cons (.gl 1) (.cons (.var 0) .nil))))))) .nil
/-- is_root -/
def b_28 : ISs := .cons (.ifs (.or_ (.inv (.bi .isTup (.cons (.var 0) .nil))) (.or_ (.cmp .ne (.bi .len (.cons (.var 0) .nil)) (.con (.int 3))) (.inv (.call 12 (.cons (.idx (.var 0) (.con (.int 0))) .nil))))) (.cons (.ret (.con (.bool false))) .nil) .nil) (.cons (.setT [1, 2, 3] (.var 0)) (.cons (.ifs (.or_ (.inv (.call 27 (.cons (.var 2) .nil))) (.inv (.call 27 (.cons (.var 3) .nil)))) (.cons (.ret (.con (.bool false))) .nil) .nil) (.cons (.ifs (.cmp .eq (.bi .len (.cons (.var 1) .nil)) (.con (.int 0))) (.cons (.ret (.cmp .eq (.var 2) (.var 3))) .nil) .nil) (.cons (.ifs (.or_ (.inv (.call 7 (.cons (.var 2) (.cons (.var 3) .nil)))) (.cmp .ne (.bin .mul (.call 24 (.cons (.var 1) (.cons (.var 2) .nil))) (.call 24 (.cons (.var 1) (.cons (.var 3) .nil)))) (.neg (.con (.int 1))))) (.cons (.ret (.con (.bool false))) .nil) .nil) (.cons (.ret (.cmp .eq (.call 26 (.cons (.var 1) (.cons (.var 2) (.cons (.var 3) .nil)))) (.con (.int 1)))) .nil)))))
/-- is_line -/
def b_29 : ISs := .cons (.ifs (.or_ (.inv (.bi .isTup (.cons (.var 0) .nil))) (.cmp .ne (.bi .len (.cons (.var 0) .nil)) (.con (.int 3)))) (.cons (.ret (.con (.bool false))) .nil) .nil) (.cons (.ifs (.cmp .gt (.bi .len (.cons (.lc (.con (.int 1)) [1] (.seq (.var 0)) (.some (.inv (.call 1 (.cons (.var 1) (.cons (.neg (.gl 6)) (.cons (.gl 6) .nil))))))) .nil)) (.con (.int 0))) (.cons (.ret (.con (.bool false))) .nil) .nil) (.cons (.ret (.or_ (.cmp .ne (.idx (.var 0) (.con (.int 0))) (.con (.int 0))) (.cmp .ne (.idx (.var 0) (.con (.int 1))) (.con (.int 0))))) .nil))
/-- check_lines -/
def b_30 : ISs := .cons (.ifs (.or_ (.inv (.bi .isTup (.cons (.var 0) .nil))) (.inv (.chain .le .le (.con (.int 1)) (.bi .len (.cons (.var 0) .nil)) (.gl 5)))) (.cons (.raise_ 2 (.cons (.tup .nil) .nil)) .nil) .nil) (.cons (.for_ [1, 2] (.enum (.var 0)) (.cons (.ifs (.inv (.call 29 (.cons (.var 2) .nil))) (.cons (.raise_ 2 (.cons (.tup (.cons (.var 1) .nil)) .nil)) .nil) .nil) .nil)) (.cons (.ret (.var 0)) .nil))
/-- across_of -/
def b_31 : ISs := .cons (.ret (.bin .sub (.bin .mul (.idx (.var 0) (.con (.int 0))) (.idx (.var 1) (.con (.int 1)))) (.bin .mul (.idx (.var 0) (.con (.int 1))) (.idx (.var 1) (.con (.int 0)))))) .nil
/-- height_in -/
def b_32 : ISs := .cons (.set 2 (.call 6 (.cons (.tup (.cons (.idx (.var 0) (.con (.int 0))) (.cons (.con (.int 1)) .nil))) (.cons (.idx (.var 1) (.con (.int 0))) .nil)))) (.cons (.ret (.call 5 (.cons (.call 4 (.cons (.var 2) (.cons (.call 6 (.cons (.tup (.cons (.idx (.var 0) (.con (.int 1))) (.cons (.con (.int 1)) .nil))) (.cons (.idx (.var 1) (.con (.int 1))) .nil))) .nil))) (.cons (.tup (.cons (.idx (.var 0) (.con (.int 2))) (.cons (.con (.int 1)) .nil))) .nil)))) .nil)
/-- lets_in -/
def b_33 : ISs := .cons (.ret (.inv (.call 7 (.cons (.gl 0) (.cons (.call 32 (.cons (.var 0) (.cons (.var 1) .nil))) .nil))))) .nil
/-- is_in_shape -/
def b_34 : ISs := .cons (.ret (.cmp .eq (.bi .len (.cons (.lc (.con (.int 1)) [2] (.seq (.var 0)) (.some (.inv (.call 33 (.cons (.var 2) (.cons (.var 1) .nil)))))) .nil)) (.con (.int 0)))) .nil
/-- meeting_of -/
def b_35 : ISs := .cons (.set 2 (.call 31 (.cons (.var 0) (.cons (.var 1) .nil)))) (.cons (.set 3 (.bin .sub (.bin .mul (.idx (.var 0) (.con (.int 2))) (.idx (.var 1) (.con (.int 1)))) (.bin .mul (.idx (.var 0) (.con (.int 1))) (.idx (.var 1) (.con (.int 2)))))) (.cons (.ret (.tup (.cons (.call 3 (.cons (.var 3) (.cons (.var 2) .nil))) (.cons (.call 3 (.cons (.bin .sub (.bin .mul (.idx (.var 0) (.con (.int 0))) (.idx (.var 1) (.con (.int 2)))) (.bin .mul (.idx (.var 0) (.con (.int 2))) (.idx (.var 1) (.con (.int 0))))) (.cons (.var 2) .nil))) .nil)))) .nil))
/-- foot_of -/
def b_36 : ISs := .cons (.set 2 (.call 32 (.cons (.var 0) (.cons (.var 1) .nil)))) (.cons (.set 3 (.bin .add (.bin .mul (.idx (.var 0) (.con (.int 0))) (.idx (.var 0) (.con (.int 0)))) (.bin .mul (.idx (.var 0) (.con (.int 1))) (.idx (.var 0) (.con (.int 1)))))) (.cons (.set 4 (.call 5 (.cons (.idx (.var 1) (.con (.int 0))) (.cons (.call 6 (.cons (.var 2) (.cons (.call 3 (.cons (.idx (.var 0) (.con (.int 0))) (.cons (.var 3) .nil))) .nil))) .nil)))) (.cons (.ret (.tup (.cons (.var 4) (.cons (.call 5 (.cons (.idx (.var 1) (.con (.int 1))) (.cons (.call 6 (.cons (.var 2) (.cons (.call 3 (.cons (.idx (.var 0) (.con (.int 1))) (.cons (.var 3) .nil))) .nil))) .nil))) .nil)))) .nil)))
/-- corners_in -/
def b_37 : ISs := .cons (.set 1 (.lst .nil)) (.cons (.for_ [2, 3] (.comb (.var 0) 2) (.cons (.ifs (.cmp .ne (.call 31 (.cons (.var 2) (.cons (.var 3) .nil))) (.con (.int 0))) (.cons (.set 4 (.call 35 (.cons (.var 2) (.cons (.var 3) .nil)))) (.cons (.ifs (.and_ (.call 34 (.cons (.var 0) (.cons (.var 4) .nil))) (.cmp .notin (.var 4) (.var 1))) (.cons (.app 1 (.var 4)) .nil) .nil) .nil)) .nil) .nil)) (.cons (.ret (.bi .sorted (.cons (.var 1) .nil))) .nil))
/-- feet_of -/
def b_38 : ISs := .cons (.ret (.lc (.var 2) [2] (.seq (.lc (.call 36 (.cons (.var 3) (.cons (.var 1) .nil))) [3] (.seq (.var 0)) .none)) (.some (.call 34 (.cons (.var 0) (.cons (.var 2) .nil)))))) .nil
/-- some_point -/
def b_39 : ISs := .cons (.set 1 (.bin .add (.call 37 (.cons (.var 0) .nil)) (.call 38 (.cons (.var 0) (.cons (.tup (.cons (.gl 0) (.cons (.gl 0) .nil))) .nil))))) (.cons (.ret (.ite (.cmp .gt (.bi .len (.cons (.var 1) .nil)) (.con (.int 0))) (.idx (.var 1) (.con (.int 0))) (.con (.none)))) .nil)
/-- has_point_in -/
def b_40 : ISs := .cons (.ret (.notN (.call 39 (.cons (.var 0) .nil)))) .nil
/-- check_shape -/
def b_41 : ISs := .cons (.ifs (.inv (.call 40 (.cons (.call 30 (.cons (.var 0) .nil)) .nil))) (.cons (.raise_ 2 (.cons (.tup .nil) .nil)) .nil) .nil) (.cons (.ret (.var 0)) .nil)
/-- is_side -/
def b_42 : ISs := .cons (.ifs (.or_ (.inv (.bi .isTup (.cons (.var 0) .nil))) (.inv (.chain .le .le (.con (.int 1)) (.bi .len (.cons (.var 0) .nil)) (.gl 10)))) (.cons (.ret (.con (.bool false))) .nil) .nil) (.cons (.ifs (.cmp .gt (.bi .len (.cons (.lc (.con (.int 1)) [1] (.seq (.var 0)) (.some (.inv (.call 1 (.cons (.var 1) (.cons (.con (.int 0)) (.cons (.bin .sub (.gl 10) (.con (.int 1))) .nil))))))) .nil)) (.con (.int 0))) (.cons (.ret (.con (.bool false))) .nil) .nil) (.cons (.ret (.cmp .eq (.bi .len (.cons (.lc (.con (.int 1)) [2, 3] (.zip (.cons (.var 0) (.cons (.slc (.var 0) (.some (.con (.int 1))) .none) .nil))) (.some (.cmp .ge (.var 2) (.var 3)))) .nil)) (.con (.int 0)))) .nil))
/-- is_kernel_form -/
def b_43 : ISs := .cons (.ifs (.or_ (.inv (.bi .isTup (.cons (.var 0) .nil))) (.or_ (.cmp .ne (.bi .len (.cons (.var 0) .nil)) (.con (.int 2))) (.or_ (.inv (.call 42 (.cons (.idx (.var 0) (.con (.int 0))) .nil))) (.inv (.call 42 (.cons (.idx (.var 0) (.con (.int 1))) .nil)))))) (.cons (.ret (.con (.bool false))) .nil) .nil) (.cons (.ret (.cmp .eq (.bi .len (.cons (.idx (.var 0) (.con (.int 0))) .nil)) (.bi .len (.cons (.idx (.var 0) (.con (.int 1))) .nil)))) .nil)
/-- is_part_form -/
def b_44 : ISs := .cons (.ifs (.or_ (.inv (.bi .isTup (.cons (.var 0) .nil))) (.cmp .ne (.bi .len (.cons (.var 0) .nil)) (.con (.int 3)))) (.cons (.ret (.con (.bool false))) .nil) .nil) (.cons (.ret (.and_ (.call 28 (.cons (.idx (.var 0) (.con (.int 0))) .nil)) (.and_ (.call 28 (.cons (.idx (.var 0) (.con (.int 1))) .nil)) (.call 43 (.cons (.idx (.var 0) (.con (.int 2))) .nil))))) .nil)
/-- is_chain_form -/
def b_45 : ISs := .cons (.ifs (.or_ (.inv (.bi .isTup (.cons (.var 0) .nil))) (.cmp .gt (.bi .len (.cons (.var 0) .nil)) (.gl 8))) (.cons (.ret (.con (.bool false))) .nil) .nil) (.cons (.ret (.cmp .eq (.bi .len (.cons (.lc (.con (.int 1)) [1] (.seq (.var 0)) (.some (.inv (.call 44 (.cons (.var 1) .nil))))) .nil)) (.con (.int 0)))) .nil)
/-- is_out_form -/
def b_46 : ISs := .cons (.ifs (.or_ (.inv (.bi .isTup (.cons (.var 0) .nil))) (.or_ (.cmp .ne (.bi .len (.cons (.var 0) .nil)) (.con (.int 2))) (.or_ (.inv (.bi .isTup (.cons (.idx (.var 0) (.con (.int 0))) .nil))) (.cmp .ne (.bi .len (.cons (.idx (.var 0) (.con (.int 0))) .nil)) (.con (.int 3)))))) (.cons (.ret (.con (.bool false))) .nil) .nil) (.cons (.ifs (.or_ (.cmp .gt (.bi .len (.cons (.lc (.con (.int 1)) [1] (.seq (.idx (.var 0) (.con (.int 0)))) (.some (.inv (.call 0 (.cons (.var 1) .nil))))) .nil)) (.con (.int 0))) (.cmp .eq (.slc (.idx (.var 0) (.con (.int 0))) .none (.some (.con (.int 2)))) (.tup (.cons (.con (.int 0)) (.cons (.con (.int 0)) .nil))))) (.cons (.ret (.con (.bool false))) .nil) .nil) (.cons (.ret (.and_ (.bi .isTup (.cons (.idx (.var 0) (.con (.int 1))) .nil)) (.and_ (.chain .le .le (.con (.int 1)) (.bi .len (.cons (.idx (.var 0) (.con (.int 1))) .nil)) (.gl 10)) (.call 11 (.cons (.bi .len (.cons (.idx (.var 0) (.con (.int 1))) .nil)) (.cons (.idx (.var 0) (.con (.int 1))) .nil)))))) .nil))
/-- is_paper_form -/
def b_47 : ISs := .cons (.ifs (.or_ (.inv (.bi .isTup (.cons (.var 0) .nil))) (.or_ (.cmp .ne (.bi .len (.cons (.var 0) .nil)) (.con (.int 2))) (.inv (.bi .isStr (.cons (.idx (.var 0) (.con (.int 0))) .nil))))) (.cons (.ret (.con (.bool false))) .nil) .nil) (.cons (.ifs (.cmp .eq (.idx (.var 0) (.con (.int 0))) (.con (.str "out"))) (.cons (.ret (.call 46 (.cons (.idx (.var 0) (.con (.int 1))) .nil))) .nil) .nil) (.cons (.ifs (.or_ (.cmp .ne (.idx (.var 0) (.con (.int 0))) (.con (.str "led"))) (.or_ (.inv (.bi .isTup (.cons (.idx (.var 0) (.con (.int 1))) .nil))) (.cmp .gt (.bi .len (.cons (.idx (.var 0) (.con (.int 1))) .nil)) (.gl 9)))) (.cons (.ret (.con (.bool false))) .nil) .nil) (.cons (.ret (.cmp .eq (.bi .len (.cons (.lc (.con (.int 1)) [1] (.seq (.idx (.var 0) (.con (.int 1)))) (.some (.inv (.call 45 (.cons (.var 1) .nil))))) .nil)) (.con (.int 0)))) .nil)))
/-- need_chain -/
def b_48 : ISs := .cons (.ifs (.inv (.call 45 (.cons (.var 0) .nil))) (.cons (.raise_ 3 (.cons (.var 0) .nil)) .nil) .nil) (.cons (.ret (.var 0)) .nil)
/-- need_paper -/
def b_49 : ISs := .cons (.ifs (.inv (.call 47 (.cons (.var 0) .nil))) (.cons (.raise_ 3 (.cons (.var 0) .nil)) .nil) .nil) (.cons (.ret (.var 0)) .nil)
/-- is_long -/
def b_50 : ISs := .cons (.par [1, 2] (.cons (.bi .abs (.cons (.var 0) .nil)) (.cons (.con (.int 0)) .nil))) (.cons (.while_ (.cmp .ge (.var 1) (.gl 11)) (.cons (.par [1, 2] (.cons (.bin .fdiv (.var 1) (.gl 11)) (.cons (.bin .add (.var 2) (.con (.int 64))) .nil))) (.cons (.ifs (.cmp .gt (.var 2) (.gl 7)) (.cons (.ret (.con (.bool true))) .nil) .nil) .nil))) (.cons (.ret (.cmp .gt (.bin .add (.var 2) (.bi .len (.cons .hole .nil))) (.gl 7))) .nil))
/-- number_word -/
def b_51 : ISs := .cons (.ifs (.call 50 (.cons (.var 0) .nil)) (.cons (.raise_ 4 (.cons (.gl 7) .nil)) .nil) .nil) (.cons (.ret .hole) .nil)
/-- fraction_word -/
def b_52 : ISs := .cons (.set 1 (.call 51 (.cons (.idx (.var 0) (.con (.int 0))) .nil))) (.cons (.ret (.ite (.cmp .eq (.idx (.var 0) (.con (.int 1))) (.con (.int 1))) (.var 1) (.bin .add (.bin .add (.var 1) (.con (.str "/"))) (.call 51 (.cons (.idx (.var 0) (.con (.int 1))) .nil))))) .nil)
/-- numbers_words -/
def b_53 : ISs := .cons (.ret (.bin .add (.bin .add (.lst (.cons (.con (.str "{")) .nil)) (.lc (.call 51 (.cons (.var 1) .nil)) [1] (.seq (.var 0)) .none)) (.lst (.cons (.con (.str "}")) .nil)))) .nil
/-- root_words -/
def b_54 : ISs := .cons (.setT [1, 2, 3] (.var 0)) (.cons (.ifs (.cmp .eq (.bi .len (.cons (.var 1) .nil)) (.con (.int 0))) (.cons (.ret (.lst (.cons (.con (.str "at")) (.cons (.call 52 (.cons (.var 2) .nil)) .nil)))) .nil) .nil) (.cons (.ret (.bin .add (.bin .add (.lst (.cons (.con (.str "root")) .nil)) (.call 53 (.cons (.var 1) .nil))) (.lst (.cons (.call 52 (.cons (.var 2) .nil)) (.cons (.call 52 (.cons (.var 3) .nil)) .nil))))) .nil))
/-- part_row -/
def b_55 : ISs := .cons (.set 1 (.bin .add (.bin .add (.lst (.cons (.con (.str "part")) .nil)) (.call 54 (.cons (.idx (.var 0) (.con (.int 0))) .nil))) (.call 54 (.cons (.idx (.var 0) (.con (.int 1))) .nil)))) (.cons (.ret (.join (.ofString " ") (.bin .add (.bin .add (.var 1) (.call 53 (.cons (.idx (.idx (.var 0) (.con (.int 2))) (.con (.int 0))) .nil))) (.call 53 (.cons (.idx (.idx (.var 0) (.con (.int 2))) (.con (.int 1))) .nil))))) .nil)
/-- block_rows -/
def b_56 : ISs := .cons (.ret (.bin .add (.bin .add (.lst (.cons (.bin .add (.var 0) (.con (.str " {"))) .nil)) (.lc (.bin .add (.con (.str "  ")) (.var 2)) [2] (.seq (.var 1)) .none)) (.lst (.cons (.con (.str "}")) .nil)))) .nil
/-- chain_rows -/
def b_57 : ISs := .cons (.ret (.call 56 (.cons (.con (.str "chain")) (.cons (.lc (.call 55 (.cons (.var 1) .nil)) [1] (.seq (.var 0)) .none) .nil)))) .nil
/-- act_row -/
def b_58 : ISs := .cons (.set 1 (.lst .nil)) (.cons (.for_ [2] (.seq (.var 0)) (.cons (.ext 1 (.var 2)) .nil)) (.cons (.ret (.join (.ofString " ") (.bin .add (.lst (.cons (.con (.str "act")) .nil)) (.call 53 (.cons (.var 1) .nil))))) .nil))
/-- pays_text -/
def b_59 : ISs := .cons (.ret (.join (.ofString "\n") (.call 56 (.cons (.con (.str "pays")) (.cons (.lc (.call 58 (.cons (.var 1) .nil)) [1] (.seq (.call 10 (.cons (.var 0) .nil))) .none) .nil))))) .nil
/-- shape_text -/
def b_60 : ISs := .cons (.set 1 (.lc (.join (.ofString " ") (.bin .add (.lst (.cons (.con (.str "line")) .nil)) (.lc (.call 51 (.cons (.var 2) .nil)) [2] (.seq (.var 3)) .none))) [3] (.seq (.call 41 (.cons (.var 0) .nil))) .none)) (.cons (.ret (.join (.ofString "\n") (.call 56 (.cons (.con (.str "shape")) (.cons (.var 1) .nil))))) .nil)
/-- chain_text -/
def b_61 : ISs := .cons (.ret (.join (.ofString "\n") (.call 57 (.cons (.call 48 (.cons (.var 0) .nil)) .nil)))) .nil
/-- paper_text -/
def b_62 : ISs := .cons (.expr (.call 49 (.cons (.var 0) .nil))) (.cons (.ifs (.cmp .eq (.idx (.var 0) (.con (.int 0))) (.con (.str "out"))) (.cons (.setT [1, 2] (.idx (.var 0) (.con (.int 1)))) (.cons (.set 3 (.bin .add (.bin .add (.bin .add (.lst (.cons (.con (.str "out")) .nil)) (.lc (.call 51 (.cons (.var 4) .nil)) [4] (.seq (.var 1)) .none)) (.lst (.cons (.con (.str "{")) .nil))) (.lc (.call 52 (.cons (.var 5) .nil)) [5] (.seq (.var 2)) .none))) (.cons (.ret (.join (.ofString " ") (.bin .add (.var 3) (.lst (.cons (.con (.str "}")) .nil))))) .nil))) .nil) (.cons (.set 6 (.lst .nil)) (.cons (.for_ [7] (.seq (.idx (.var 0) (.con (.int 1)))) (.cons (.ext 6 (.call 57 (.cons (.var 7) .nil))) .nil)) (.cons (.ret (.join (.ofString "\n") (.call 56 (.cons (.con (.str "led")) (.cons (.var 6) .nil))))) .nil))))
/-- _law_of -/
def b_64 : ISs := .cons (.ret (.idx (.var 1) (.call 63 (.cons (.var 0) (.cons (.bi .len (.cons (.var 1) .nil)) .nil))))) .nil
/-- _law_like -/
def b_65 : ISs := .cons (.ret (.req 0 1)) .nil
/-- _law_told -/
def b_66 : ISs := .cons (.set 1 (.con (.none))) (.cons (.try_ (.cons (.set 1 (.tup (.cons (.con (.str "is")) (.cons (.act 0) .nil)))) .nil) (.cons 1 (some 2) (.asg 1 (.tup [.con (.str "pays"), .fld 0, .isi 0])) (.cons 2 (some 2) (.asg 1 (.tup [.con (.str "shape"), .fld 0, .isi 0])) (.cons 3 (some 2) (.asg 1 (.tup [.con (.str "parameter"), .fld 0, .isi 0])) .nil)))) (.cons (.ret (.var 1)) .nil))
/-- _law_odd_root -/
def b_67 : ISs := .cons (.set 1 (.lst (.cons (.con (.none)) (.cons (.tup .nil) (.cons (.tup (.cons (.tup .nil) (.cons (.tup (.cons (.con (.int 1)) (.cons (.con (.int 2)) .nil))) .nil))) (.cons (.tup (.cons (.tup .nil) (.cons (.tup (.cons (.con (.int 1)) (.cons (.con (.int 2)) .nil))) (.cons (.tup (.cons (.con (.int 1)) (.cons (.con (.int 3)) .nil))) .nil)))) (.cons (.tup (.cons (.tup .nil) (.cons (.tup (.cons (.con (.int 2)) (.cons (.con (.int 4)) .nil))) (.cons (.tup (.cons (.con (.int 2)) (.cons (.con (.int 4)) .nil))) .nil)))) (.cons (.tup (.cons (.tup .nil) (.cons (.tup (.cons (.con (.int 3)) (.cons (.con (.int 2)) .nil))) (.cons (.tup (.cons (.con (.int 3)) (.cons (.con (.int 2)) .nil))) .nil)))) .nil)))))))) (.cons (.set 1 (.bin .add (.var 1) (.lst (.cons (.tup (.cons (.tup (.cons (.neg (.con (.int 1))) (.cons (.con (.int 2)) .nil))) (.cons (.tup (.cons (.con (.int 1)) (.cons (.con (.int 2)) .nil))) (.cons (.tup (.cons (.con (.int 1)) (.cons (.con (.int 1)) .nil))) .nil)))) (.cons (.tup (.cons (.tup (.cons (.neg (.con (.int 1))) (.cons (.con (.int 2)) .nil))) (.cons (.tup (.cons (.con (.int 0)) (.cons (.con (.int 1)) .nil))) (.cons (.tup (.cons (.con (.int 1)) (.cons (.con (.int 4)) .nil))) .nil)))) (.cons (.tup (.cons (.tup (.cons (.neg (.con (.int 1))) (.cons (.con (.int 2)) (.cons (.con (.int 0)) .nil)))) (.cons (.tup (.cons (.con (.int 0)) (.cons (.con (.int 1)) .nil))) (.cons (.tup (.cons (.con (.int 1)) (.cons (.con (.int 1)) .nil))) .nil)))) .nil)))))) (.cons (.set 1 (.bin .add (.var 1) (.lst (.cons (.tup (.cons (.tup (.cons (.con (.int 1)) (.cons (.con (.int 1)) .nil))) (.cons (.tup (.cons (.con (.int 0)) (.cons (.con (.int 1)) .nil))) (.cons (.tup (.cons (.con (.int 1)) (.cons (.con (.int 1)) .nil))) .nil)))) (.cons (.tup (.cons (.tup (.cons (.neg (.con (.int 1))) (.cons (.con (.int 2)) .nil))) (.cons (.tup (.cons (.con (.int 1)) (.cons (.con (.int 1)) .nil))) (.cons (.tup (.cons (.con (.int 0)) (.cons (.con (.int 1)) .nil))) .nil)))) (.cons (.tup (.cons (.tup (.cons (.neg (.con (.int 1))) (.cons (.con (.int 2)) .nil))) (.cons (.tup (.cons (.con (.int 0)) (.cons (.con (.int 1)) .nil))) (.cons (.tup (.cons (.con (.int 0)) (.cons (.con (.int 1)) .nil))) .nil)))) .nil)))))) (.cons (.set 1 (.bin .add (.var 1) (.lst (.cons (.tup (.cons (.tup (.cons (.neg (.con (.int 1))) (.cons (.con (.int 2)) .nil))) (.cons (.tup (.cons (.neg (.con (.int 1))) (.cons (.con (.int 1)) .nil))) (.cons (.tup (.cons (.con (.int 1)) (.cons (.con (.int 1)) .nil))) .nil)))) (.cons (.lst (.cons (.tup .nil) (.cons (.tup (.cons (.con (.int 0)) (.cons (.con (.int 1)) .nil))) (.cons (.tup (.cons (.con (.int 0)) (.cons (.con (.int 1)) .nil))) .nil)))) .nil))))) (.cons (.set 1 (.bin .add (.var 1) (.lst (.cons (.tup (.cons (.tup (.cons (.con (.int 1)) (.cons (.neg (.con (.int 4))) (.cons (.con (.int 4)) .nil)))) (.cons (.tup (.cons (.con (.int 0)) (.cons (.con (.int 1)) .nil))) (.cons (.tup (.cons (.con (.int 1)) (.cons (.con (.int 1)) .nil))) .nil)))) (.cons (.tup (.cons (.tup (.cons (.con (.bool true)) (.cons (.neg (.con (.int 2))) .nil))) (.cons (.tup (.cons (.con (.int 0)) (.cons (.con (.int 1)) .nil))) (.cons (.tup (.cons (.con (.int 1)) (.cons (.con (.int 1)) .nil))) .nil)))) (.cons (.tup (.cons (.lst (.cons (.neg (.con (.int 1))) (.cons (.con (.int 2)) .nil))) (.cons (.tup (.cons (.con (.int 0)) (.cons (.con (.int 1)) .nil))) (.cons (.tup (.cons (.con (.int 1)) (.cons (.con (.int 1)) .nil))) .nil)))) .nil)))))) (.cons (.ret (.call 64 (.cons (.var 0) (.cons (.bin .add (.var 1) (.lst (.cons (.tup (.cons (.tup (.cons (.con (.int 3)) (.cons (.neg (.con (.int 16))) (.cons (.con (.int 16)) .nil)))) (.cons (.tup (.cons (.con (.int 0)) (.cons (.con (.int 1)) .nil))) (.cons (.tup (.cons (.con (.int 1)) (.cons (.con (.int 1)) .nil))) .nil)))) (.cons (.tup (.cons (.tup (.cons (.neg (.con (.int 1))) (.cons (.con (.int 2)) .nil))) (.cons (.con (.int 0)) (.cons (.con (.int 1)) .nil)))) (.cons (.tup (.cons (.con (.str "")) (.cons (.tup (.cons (.con (.int 0)) (.cons (.con (.int 1)) .nil))) (.cons (.tup (.cons (.con (.int 0)) (.cons (.con (.int 1)) .nil))) .nil)))) .nil))))) .nil)))) .nil)))))
/-- _law_odd_kernel -/
def b_68 : ISs := .cons (.set 1 (.lst (.cons (.con (.none)) (.cons (.tup .nil) (.cons (.tup (.cons (.tup (.cons (.con (.int 0)) .nil)) .nil)) (.cons (.tup (.cons (.tup .nil) (.cons (.tup .nil) .nil))) (.cons (.tup (.cons (.tup (.cons (.con (.int 0)) (.cons (.con (.int 1)) .nil))) (.cons (.tup (.cons (.con (.int 0)) .nil)) .nil))) (.cons (.tup (.cons (.tup (.cons (.con (.int 1)) (.cons (.con (.int 0)) .nil))) (.cons (.tup (.cons (.con (.int 0)) (.cons (.con (.int 1)) .nil))) .nil))) (.cons (.tup (.cons (.tup (.cons (.con (.int 0)) (.cons (.con (.int 0)) .nil))) (.cons (.tup (.cons (.con (.int 0)) (.cons (.con (.int 1)) .nil))) .nil))) (.cons (.tup (.cons (.tup (.cons (.con (.int 4)) .nil)) (.cons (.tup (.cons (.con (.int 0)) .nil)) .nil))) (.cons (.tup (.cons (.lst (.cons (.con (.int 0)) .nil)) (.cons (.tup (.cons (.con (.int 0)) .nil)) .nil))) .nil))))))))))) (.cons (.ret (.call 64 (.cons (.var 0) (.cons (.bin .add (.var 1) (.lst (.cons (.tup (.cons (.tup (.cons (.con (.int 0)) .nil)) (.cons (.tup (.cons (.con (.int 0)) .nil)) (.cons (.tup (.cons (.con (.int 0)) .nil)) .nil)))) (.cons (.tup (.cons (.tup (.cons (.con (.bool true)) .nil)) (.cons (.tup (.cons (.con (.int 0)) .nil)) .nil))) (.cons (.tup (.cons (.tup (.cons (.neg (.con (.int 1))) .nil)) (.cons (.tup (.cons (.con (.int 0)) .nil)) .nil))) (.cons (.lst (.cons (.tup (.cons (.con (.int 0)) .nil)) (.cons (.tup (.cons (.con (.int 0)) .nil)) .nil))) (.cons (.tup (.cons (.tup (.cons (.con (.int 0)) .nil)) (.cons (.con (.str "0")) .nil))) .nil))))))) .nil)))) .nil)
/-- _law_odd_paper -/
def b_69 : ISs := .cons (.set 1 (.lst (.cons (.con (.none)) (.cons (.tup .nil) (.cons (.tup (.cons (.tup (.cons (.con (.int 1)) (.cons (.con (.int 2)) .nil))) .nil)) (.cons (.tup (.cons (.tup (.cons (.con (.int 1)) (.cons (.con (.int 1)) .nil))) (.cons (.tup (.cons (.con (.int 0)) (.cons (.con (.int 2)) .nil))) .nil))) (.cons (.tup (.cons (.tup (.cons (.con (.int 3)) (.cons (.con (.int 2)) .nil))) (.cons (.tup (.cons (.neg (.con (.int 1))) (.cons (.con (.int 2)) .nil))) .nil))) (.cons (.bin .mul (.tup (.cons (.tup (.cons (.con (.int 1)) (.cons (.con (.int 5)) .nil))) .nil)) (.con (.int 5))) (.cons (.lst (.cons (.tup (.cons (.con (.int 1)) (.cons (.con (.int 1)) .nil))) .nil)) (.cons (.tup (.cons (.tup (.cons (.con (.bool true)) (.cons (.con (.int 1)) .nil))) .nil)) .nil)))))))))) (.cons (.set 2 (.call 64 (.cons (.var 0) (.cons (.var 1) .nil)))) (.cons (.set 3 (.call 64 (.cons (.var 0) (.cons (.lst (.cons (.con (.none)) (.cons (.tup (.cons (.con (.int 0)) (.cons (.con (.int 0)) (.cons (.con (.int 1)) .nil)))) (.cons (.tup (.cons (.con (.int 1)) (.cons (.con (.int 0)) .nil))) (.cons (.lst (.cons (.con (.int 1)) (.cons (.con (.int 0)) (.cons (.con (.int 0)) .nil)))) (.cons (.tup (.cons (.con (.int 1)) (.cons (.con (.int 0)) (.cons (.con (.bool true)) .nil)))) (.cons (.tup (.cons (.con (.int 1)) (.cons (.con (.str "0")) (.cons (.con (.int 0)) .nil)))) (.cons (.tup (.cons (.con (.int 1)) (.cons (.con (.int 0)) (.cons (.con (.int 0)) (.cons (.con (.int 0)) .nil))))) .nil)))))))) .nil)))) (.cons (.set 4 (.lst (.cons (.con (.none)) (.cons (.tup .nil) (.cons (.tup (.cons (.con (.str "led")) .nil)) (.cons (.tup (.cons (.con (.str "out")) (.cons (.con (.none)) .nil))) (.cons (.lst (.cons (.con (.str "led")) (.cons (.tup .nil) .nil))) (.cons (.tup (.cons (.con (.str "Led")) (.cons (.tup .nil) .nil))) (.cons (.tup (.cons (.con (.str "led")) (.cons (.con (.none)) .nil))) (.cons (.tup (.cons (.con (.str "led")) (.cons (.lst (.cons (.tup .nil) .nil)) .nil))) .nil)))))))))) (.cons (.set 4 (.bin .add (.var 4) (.lst (.cons (.tup (.cons (.con (.str "out")) (.cons (.tup (.cons (.tup (.cons (.con (.int 1)) (.cons (.con (.int 0)) (.cons (.con (.int 0)) .nil)))) .nil)) .nil))) (.cons (.tup (.cons (.con (.str "out")) (.cons (.tup (.cons (.tup (.cons (.con (.int 1)) (.cons (.con (.int 0)) (.cons (.con (.int 0)) .nil)))) (.cons (.var 2) .nil))) .nil))) (.cons (.tup (.cons (.con (.str "out")) (.cons (.tup (.cons (.var 3) (.cons (.tup (.cons (.tup (.cons (.con (.int 1)) (.cons (.con (.int 1)) .nil))) .nil)) .nil))) .nil))) .nil)))))) (.cons (.set 4 (.bin .add (.var 4) (.lst (.cons (.tup (.cons (.con (.str "led")) (.cons (.tup .nil) (.cons (.tup .nil) .nil)))) (.cons (.tup (.cons (.con (.str "out")) (.cons (.lst (.cons (.tup (.cons (.con (.int 1)) (.cons (.con (.int 0)) (.cons (.con (.int 0)) .nil)))) (.cons (.tup (.cons (.tup (.cons (.con (.int 1)) (.cons (.con (.int 1)) .nil))) .nil)) .nil))) .nil))) .nil))))) (.cons (.ret (.call 64 (.cons (.var 0) (.cons (.var 4) .nil)))) .nil))))))
/-- _law_right -/
def b_70 : ISs := .cons (.set 1 (.tup (.cons (.tup (.cons (.tup .nil) (.cons (.tup (.cons (.con (.int 0)) (.cons (.con (.int 1)) .nil))) (.cons (.tup (.cons (.con (.int 0)) (.cons (.con (.int 1)) .nil))) .nil)))) (.cons (.tup (.cons (.tup (.cons (.neg (.con (.int 1))) (.cons (.con (.int 0)) (.cons (.con (.int 2)) .nil)))) (.cons (.tup (.cons (.con (.int 1)) (.cons (.con (.int 2)) .nil))) (.cons (.tup (.cons (.con (.int 1)) (.cons (.con (.int 1)) .nil))) .nil)))) (.cons (.tup (.cons (.tup (.cons (.con (.int 0)) (.cons (.con (.int 2)) .nil))) (.cons (.tup (.cons (.con (.int 1)) (.cons (.con (.int 3)) .nil))) .nil))) .nil))))) (.cons (.set 2 (.call 64 (.cons (.var 0) (.cons (.lst (.cons (.con (.none)) (.cons (.slc (.var 1) .none (.some (.con (.int 2)))) (.cons (.bin .add (.var 1) (.tup (.cons (.con (.none)) .nil))) (.cons (.bi .list (.cons (.var 1) .nil)) (.cons (.tup (.cons (.call 67 (.cons (.var 0) .nil)) (.cons (.idx (.var 1) (.con (.int 1))) (.cons (.idx (.var 1) (.con (.int 2))) .nil)))) (.cons (.tup (.cons (.idx (.var 1) (.con (.int 0))) (.cons (.call 67 (.cons (.var 0) .nil)) (.cons (.idx (.var 1) (.con (.int 2))) .nil)))) (.cons (.tup (.cons (.idx (.var 1) (.con (.int 0))) (.cons (.idx (.var 1) (.con (.int 1))) (.cons (.call 68 (.cons (.var 0) .nil)) .nil)))) .nil)))))))) .nil)))) (.cons (.set 3 (.call 64 (.cons (.var 0) (.cons (.lst (.cons (.con (.none)) (.cons (.lst (.cons (.var 1) .nil)) (.cons (.con (.int 5)) (.cons (.tup (.cons (.var 2) .nil)) (.cons (.tup (.cons (.var 1) (.cons (.var 2) .nil))) (.cons (.tup (.cons (.var 2) (.cons (.var 1) .nil))) (.cons (.tup (.cons (.var 1) (.cons (.var 1) (.cons (.con (.none)) .nil)))) .nil)))))))) .nil)))) (.cons (.set 4 (.call 64 (.cons (.var 0) (.cons (.lst (.cons (.call 69 (.cons (.var 0) .nil)) (.cons (.tup (.cons (.con (.str "led")) (.cons (.tup (.cons (.var 3) .nil)) .nil))) (.cons (.tup (.cons (.con (.str "led")) (.cons (.tup (.cons (.tup (.cons (.var 1) .nil)) (.cons (.var 3) .nil))) .nil))) .nil)))) .nil)))) (.cons (.set 5 (.lst (.cons (.lam 66 (.call 48 (.cons (.var 3) .nil))) .nil))) (.cons (.app 5 (.lam 66 (.call 61 (.cons (.var 3) .nil)))) (.cons (.app 5 (.lam 66 (.call 49 (.cons (.var 4) .nil)))) (.cons (.app 5 (.lam 66 (.call 62 (.cons (.var 4) .nil)))) (.cons (.ret (.call 65 (.cons (.var 5) (.cons (.bin .add (.bin .mul (.lst (.cons (.tup (.cons (.con (.str "parameter")) (.cons (.var 3) (.cons (.con (.bool true)) .nil)))) .nil)) (.con (.int 2))) (.bin .mul (.lst (.cons (.tup (.cons (.con (.str "parameter")) (.cons (.var 4) (.cons (.con (.bool true)) .nil)))) .nil)) (.con (.int 2)))) .nil)))) .nil))))))))
/-- _law_others_right -/
def b_71 : ISs := .cons (.set 1 (.lst (.cons (.tup (.cons (.con (.none)) (.cons (.tup .nil) .nil))) (.cons (.tup (.cons (.tup .nil) (.cons (.tup .nil) .nil))) (.cons (.tup (.cons (.tup (.cons (.tup (.cons (.con (.int 1)) (.cons (.con (.int 1)) .nil))) .nil)) (.cons (.tup (.cons (.con (.int 0)) (.cons (.con (.int 0)) .nil))) .nil))) (.cons (.tup (.cons (.tup (.cons (.tup (.cons (.tup (.cons (.con (.int 1)) (.cons (.con (.int 1)) .nil))) .nil)) (.cons (.tup .nil) .nil))) (.cons (.tup (.cons (.con (.int 1)) .nil)) .nil))) (.cons (.tup (.cons (.tup (.cons (.tup (.cons (.tup (.cons (.con (.int 1)) (.cons (.con (.int 1)) .nil))) .nil)) (.cons (.tup (.cons (.tup (.cons (.con (.int 1)) (.cons (.con (.int 101)) .nil))) .nil)) .nil))) (.cons (.tup (.cons (.con (.int 1)) (.cons (.con (.int 0)) .nil))) .nil))) .nil))))))) (.cons (.setT [2, 3] (.call 64 (.cons (.var 0) (.cons (.bin .add (.var 1) (.lst (.cons (.tup (.cons (.tup (.cons (.tup (.cons (.tup (.cons (.con (.int 1)) (.cons (.con (.int 1)) .nil))) .nil)) (.cons (.tup (.cons (.tup (.cons (.con (.bool true)) (.cons (.con (.int 1)) .nil))) .nil)) .nil))) (.cons (.tup (.cons (.con (.int 1)) (.cons (.con (.int 0)) .nil))) .nil))) (.cons (.tup (.cons (.tup (.cons (.tup (.cons (.tup (.cons (.con (.int 1)) (.cons (.con (.int 1)) .nil))) .nil)) (.cons (.lst (.cons (.tup (.cons (.con (.int 1)) (.cons (.con (.int 1)) .nil))) .nil)) .nil))) (.cons (.tup (.cons (.con (.int 1)) .nil)) .nil))) .nil)))) .nil)))) (.cons (.set 4 (.lst (.cons (.tup (.cons (.con (.none)) (.cons (.tup .nil) .nil))) (.cons (.tup (.cons (.tup .nil) (.cons (.tup .nil) .nil))) (.cons (.tup (.cons (.tup (.cons (.tup (.cons (.con (.int 1)) (.cons (.con (.int 0)) (.cons (.con (.int 1)) .nil)))) (.cons (.tup (.cons (.con (.int 0)) (.cons (.con (.int 0)) (.cons (.con (.int 1)) .nil)))) .nil))) (.cons (.tup (.cons (.con (.int 1)) .nil)) .nil))) (.cons (.tup (.cons (.tup (.cons (.tup (.cons (.con (.int 1)) (.cons (.con (.int 0)) (.cons (.con (.int 0)) .nil)))) (.cons (.tup (.cons (.neg (.con (.int 1))) (.cons (.con (.int 0)) (.cons (.neg (.con (.int 1))) .nil)))) .nil))) (.cons (.tup .nil) .nil))) (.cons (.tup (.cons (.tup (.cons (.tup (.cons (.con (.int 1)) (.cons (.con (.int 0)) .nil))) .nil)) (.cons (.tup (.cons (.con (.int 0)) .nil)) .nil))) .nil))))))) (.cons (.setT [5, 6] (.call 64 (.cons (.var 0) (.cons (.var 4) .nil)))) (.cons (.set 7 (.lst (.cons (.lam 66 (.call 59 (.cons (.var 2) .nil))) .nil))) (.cons (.app 7 (.lam 66 (.call 60 (.cons (.var 5) .nil)))) (.cons (.ret (.call 65 (.cons (.var 7) (.cons (.lst (.cons (.tup (.cons (.con (.str "pays")) (.cons (.var 3) (.cons (.con (.bool true)) .nil)))) (.cons (.tup (.cons (.con (.str "shape")) (.cons (.var 6) (.cons (.con (.bool true)) .nil)))) .nil))) .nil)))) .nil))))))
/-- law, behind its first row -/
def b_law : ISs := .cons (.for_ [2] (.range (.cons (.con (.int 8)) .nil)) (.cons (.ifs (.or_ (.inv (.call 70 (.cons (.var 1) .nil))) (.inv (.call 71 (.cons (.var 1) .nil)))) (.cons (.ret (.con (.bool false))) .nil) .nil) .nil)) (.cons (.set 3 (.tup (.cons (.tup (.cons (.tup .nil) (.cons (.tup (.cons (.con (.int 1)) (.cons (.con (.int 3)) .nil))) (.cons (.tup (.cons (.con (.int 1)) (.cons (.con (.int 3)) .nil))) .nil)))) (.cons (.tup (.cons (.tup .nil) (.cons (.tup (.cons (.con (.int 0)) (.cons (.con (.int 1)) .nil))) (.cons (.tup (.cons (.con (.int 0)) (.cons (.con (.int 1)) .nil))) .nil)))) (.cons (.tup (.cons (.tup (.cons (.con (.int 0)) (.cons (.con (.int 1)) (.cons (.con (.int 2)) (.cons (.con (.int 3)) .nil))))) (.cons (.tup (.cons (.con (.int 0)) (.cons (.con (.int 1)) (.cons (.con (.int 2)) (.cons (.con (.int 3)) .nil))))) .nil))) .nil))))) (.cons (.set 4 (.lst (.cons (.kcall 48 [0] .nil (.cons (.tup (.cons (.var 3) (.cons (.var 3) .nil))) .nil)) (.cons (.kcall 49 [0] .nil (.cons (.tup (.cons (.con (.str "led")) (.cons (.tup (.cons (.tup .nil) (.cons (.tup (.cons (.var 3) .nil)) .nil))) .nil))) .nil)) (.cons (.call 48 (.cons (.tup .nil) .nil)) .nil))))) (.cons (.ret (.call 65 (.cons (.var 4) (.cons (.lst (.cons (.tup (.cons (.var 3) (.cons (.var 3) .nil))) (.cons (.tup (.cons (.con (.str "led")) (.cons (.tup (.cons (.tup .nil) (.cons (.tup (.cons (.var 3) .nil)) .nil))) .nil))) (.cons (.tup .nil) .nil)))) .nil)))) .nil)))
def N_law : List Str := [.ofString "script", .ofString "state_so", .ofString "turn", .ofString "link", .ofString "got"]
def cost_law : Nat := 88
def fs_ : List FD := [.code 1 1 0 b_0, .code 3 3 0 b_1, .code 1 1 0 b_2, .code 3 2 0 b_3, .code 2 2 0 b_4, .code 2 2 0 b_5, .code 2 2 0 b_6, .code 2 2 0 b_7, .code 3 1 0 b_8, .code 1 1 0 b_9, .code 5 1 0 b_10, .code 3 2 0 b_11, .code 2 1 0 b_12, .code 2 1 0 b_13, .code 3 2 0 b_14, .code 3 1 0 b_15, .code 3 1 0 b_16, .code 3 1 0 b_17, .code 12 2 0 b_18, .code 5 3 0 b_19, .code 2 2 0 b_20, .code 3 2 0 b_21, .code 1 1 0 b_22, .code 3 1 0 b_23, .code 5 2 0 b_24, .code 7 2 0 b_25, .code 5 3 0 b_26, .code 1 1 0 b_27, .code 4 1 0 b_28, .code 2 1 0 b_29, .code 3 1 0 b_30, .code 2 2 0 b_31, .code 3 2 0 b_32, .code 2 2 0 b_33, .code 3 2 0 b_34, .code 4 2 0 b_35, .code 5 2 0 b_36, .code 5 1 0 b_37, .code 4 2 0 b_38, .code 2 1 0 b_39, .code 1 1 0 b_40, .code 1 1 0 b_41, .code 4 1 0 b_42, .code 1 1 0 b_43, .code 1 1 0 b_44, .code 2 1 0 b_45, .code 2 1 0 b_46, .code 2 1 0 b_47, .code 1 1 0 b_48, .code 1 1 0 b_49, .code 3 1 0 b_50, .code 1 1 0 b_51, .code 2 1 0 b_52, .code 2 1 0 b_53, .code 4 1 0 b_54, .code 2 1 0 b_55, .code 3 2 0 b_56, .code 2 1 0 b_57, .code 3 1 0 b_58, .code 2 1 0 b_59, .code 4 1 0 b_60, .code 1 1 0 b_61, .code 8 1 0 b_62, .draw, .code 2 2 1 b_64, .code 2 2 0 b_65, .code 3 1 0 b_66, .code 2 1 1 b_67, .code 2 1 1 b_68, .code 5 1 3 b_69, .code 6 1 9 b_70, .code 8 1 2 b_71]
def gl_ : List D := [.tuple [.int 0, .int 1], .tuple [.int 1, .int 1], .int 4, .int 100, .int 41, .int 8, .int 1000, .int 400, .int 2000, .int 40, .int 4, .int 10000000000000000000000000000000000000000000000000000000000000000]
def pr_ : Pr := ⟨fs_, gl_⟩
def stAt (i : Nat) : Stmt := ((PySem.Challenge.pw_withinshapes_k73_texts_refused.main.body)[i]?).getD (.Pass default)
def ns_ : List Str := [.ofString "is_integer", .ofString "is_from", .ofString "is_fraction", .ofString "reduced_in", .ofString "plus_in", .ofString "minus_in", .ofString "times_in", .ofString "is_less", .ofString "total_in", .ofString "is_pay", .ofString "check_pays", .ofString "is_parts", .ofString "is_poly", .ofString "cut_in", .ofString "poly_scaled", .ofString "divisor_in", .ofString "whole_in", .ofString "slope_in", .ofString "parted_in", .ofString "lessened_in", .ofString "rest_in", .ofString "common_in", .ofString "plain_in", .ofString "row_in", .ofString "sign_of", .ofString "changes_in", .ofString "count_in", .ofString "is_within", .ofString "is_root", .ofString "is_line", .ofString "check_lines", .ofString "across_of", .ofString "height_in", .ofString "lets_in", .ofString "is_in_shape", .ofString "meeting_of", .ofString "foot_of", .ofString "corners_in", .ofString "feet_of", .ofString "some_point", .ofString "has_point_in", .ofString "check_shape", .ofString "is_side", .ofString "is_kernel_form", .ofString "is_part_form", .ofString "is_chain_form", .ofString "is_out_form", .ofString "is_paper_form", .ofString "need_chain", .ofString "need_paper", .ofString "is_long", .ofString "number_word", .ofString "fraction_word", .ofString "numbers_words", .ofString "root_words", .ofString "part_row", .ofString "block_rows", .ofString "chain_rows", .ofString "act_row", .ofString "pays_text", .ofString "shape_text", .ofString "chain_text", .ofString "paper_text", .ofString "_law_draw", .ofString "_law_of", .ofString "_law_like", .ofString "_law_told", .ofString "_law_odd_root", .ofString "_law_odd_kernel", .ofString "_law_odd_paper", .ofString "_law_right", .ofString "_law_others_right"]
def sts_ : List Stmt := [stAt 11, stAt 12, stAt 13, stAt 14, stAt 15, stAt 16, stAt 17, stAt 18, stAt 19, stAt 23, stAt 24, stAt 25, stAt 28, stAt 29, stAt 30, stAt 31, stAt 32, stAt 33, stAt 34, stAt 35, stAt 36, stAt 37, stAt 38, stAt 39, stAt 40, stAt 41, stAt 42, stAt 44, stAt 45, stAt 49, stAt 50, stAt 51, stAt 52, stAt 53, stAt 54, stAt 55, stAt 56, stAt 57, stAt 58, stAt 59, stAt 60, stAt 61, stAt 68, stAt 69, stAt 70, stAt 71, stAt 72, stAt 73, stAt 74, stAt 75, stAt 76, stAt 77, stAt 78, stAt 79, stAt 80, stAt 81, stAt 82, stAt 83, stAt 84, stAt 85, stAt 86, stAt 87, stAt 88, stAt 92, stAt 93, stAt 94, stAt 95, stAt 96, stAt 97, stAt 98, stAt 99, stAt 100]
def Ns_ : List (List Str) := [[.ofString "value"], [.ofString "value", .ofString "low", .ofString "high"], [.ofString "value"], [.ofString "above", .ofString "below", .ofString "common"], [.ofString "one", .ofString "other"], [.ofString "one", .ofString "other"], [.ofString "one", .ofString "other"], [.ofString "one", .ofString "other"], [.ofString "numbers", .ofString "found", .ofString "number"], [.ofString "value"], [.ofString "value", .ofString "act", .ofString "line", .ofString "answer", .ofString "item"], [.ofString "size", .ofString "value", .ofString "part"], [.ofString "value", .ofString "item"], [.ofString "items", .ofString "size"], [.ofString "poly", .ofString "number", .ofString "item"], [.ofString "items", .ofString "found", .ofString "item"], [.ofString "poly", .ofString "common", .ofString "item"], [.ofString "poly", .ofString "place", .ofString "item"], [.ofString "one", .ofString "other", .ofString "left", .ofString "found", .ofString "often", .ofString "lead", .ofString "size", .ofString "place", .ofString "factor", .ofString "item", .ofString "share", .ofString "spot"], [.ofString "near", .ofString "far", .ofString "often", .ofString "common", .ofString "item"], [.ofString "one", .ofString "other"], [.ofString "one", .ofString "other", .ofString "found"], [.ofString "poly"], [.ofString "poly", .ofString "found", .ofString "more"], [.ofString "poly", .ofString "t", .ofString "above", .ofString "below", .ofString "item"], [.ofString "row", .ofString "t", .ofString "signs", .ofString "sign", .ofString "poly", .ofString "near", .ofString "far"], [.ofString "poly", .ofString "low", .ofString "high", .ofString "row", .ofString "found"], [.ofString "value"], [.ofString "value", .ofString "poly", .ofString "low", .ofString "high"], [.ofString "value", .ofString "number"], [.ofString "value", .ofString "number", .ofString "line"], [.ofString "one", .ofString "other"], [.ofString "line", .ofString "point", .ofString "near"], [.ofString "line", .ofString "point"], [.ofString "lines", .ofString "point", .ofString "line"], [.ofString "one", .ofString "other", .ofString "below", .ofString "near"], [.ofString "line", .ofString "point", .ofString "share", .ofString "below", .ofString "near"], [.ofString "lines", .ofString "found", .ofString "one", .ofString "other", .ofString "point"], [.ofString "lines", .ofString "point", .ofString "foot", .ofString "line"], [.ofString "lines", .ofString "found"], [.ofString "lines"], [.ofString "value"], [.ofString "value", .ofString "item", .ofString "near", .ofString "far"], [.ofString "value"], [.ofString "value"], [.ofString "value", .ofString "part"], [.ofString "value", .ofString "item"], [.ofString "value", .ofString "chain"], [.ofString "chain"], [.ofString "paper"], [.ofString "number", .ofString "left", .ofString "figures"], [.ofString "number"], [.ofString "value", .ofString "above"], [.ofString "numbers", .ofString "number"], [.ofString "root", .ofString "poly", .ofString "low", .ofString "high"], [.ofString "part", .ofString "words"], [.ofString "word", .ofString "rows", .ofString "row"], [.ofString "chain", .ofString "part"], [.ofString "line", .ofString "found", .ofString "item"], [.ofString "pays", .ofString "line"], [.ofString "shape", .ofString "rows", .ofString "item", .ofString "line"], [.ofString "chain"], [.ofString "paper", .ofString "wall", .ofString "odds", .ofString "words", .ofString "item", .ofString "part", .ofString "rows", .ofString "chain"], [.ofString "state_so", .ofString "limit", .ofString "at", .ofString "spot", .ofString "left", .ofString "mixed"], [.ofString "state_so", .ofString "some"], [.ofString "got", .ofString "due"], [.ofString "call", .ofString "found", .ofString "error_so"], [.ofString "state_so", .ofString "some"], [.ofString "state_so", .ofString "some"], [.ofString "state_so", .ofString "lot", .ofString "odds_so", .ofString "wall_so", .ofString "some"], [.ofString "state_so", .ofString "link", .ofString "bent", .ofString "odd", .ofString "wrong", .ofString "got"], [.ofString "state_so", .ofString "pairs", .ofString "bad", .ofString "spot", .ofString "sides", .ofString "odd", .ofString "place", .ofString "got"]]
def gls_ : List Str := [.ofString "NOUGHT", .ofString "WHOLE", .ofString "MOST_SIDE_points", .ofString "MOST_PAY", .ofString "MOST_THINGS", .ofString "MOST_LINES", .ofString "MOST_NUMBER", .ofString "MOST_FIGURES", .ofString "MOST_PARTS", .ofString "MOST_CHAINS", .ofString "MOST_SIDE_texts", .ofString "LIMIT"]
def exs_ : List Str := [.ofString "ShapeError", .ofString "BadPays", .ofString "BadShape", .ofString "BadParameter", .ofString "TooGreat"]
def flds_ : List (List Str) := [[], [.ofString "place"], [.ofString "place"], [.ofString "value"], [.ofString "most"]]
def lms_ : List Bool := [false, false, false, false, false, false, false, false, false, false, false, false, false, false, false, false, false, false, false, false, false, false, false, false, false, false, false, false, false, false, false, false, false, false, false, false, false, false, false, false, false, false, false, false, false, false, false, false, false, false, false, false, false, false, false, false, false, false, false, false, false, false, false, false, false, false, false, false, false, false, true, true]
def pars_ : List (List Str) := [[.ofString "value"], [.ofString "value", .ofString "low", .ofString "high"], [.ofString "value"], [.ofString "above", .ofString "below"], [.ofString "one", .ofString "other"], [.ofString "one", .ofString "other"], [.ofString "one", .ofString "other"], [.ofString "one", .ofString "other"], [.ofString "numbers"], [.ofString "value"], [.ofString "value"], [.ofString "size", .ofString "value"], [.ofString "value"], [.ofString "items"], [.ofString "poly", .ofString "number"], [.ofString "items"], [.ofString "poly"], [.ofString "poly"], [.ofString "one", .ofString "other"], [.ofString "near", .ofString "far", .ofString "often"], [.ofString "one", .ofString "other"], [.ofString "one", .ofString "other"], [.ofString "poly"], [.ofString "poly"], [.ofString "poly", .ofString "t"], [.ofString "row", .ofString "t"], [.ofString "poly", .ofString "low", .ofString "high"], [.ofString "value"], [.ofString "value"], [.ofString "value"], [.ofString "value"], [.ofString "one", .ofString "other"], [.ofString "line", .ofString "point"], [.ofString "line", .ofString "point"], [.ofString "lines", .ofString "point"], [.ofString "one", .ofString "other"], [.ofString "line", .ofString "point"], [.ofString "lines"], [.ofString "lines", .ofString "point"], [.ofString "lines"], [.ofString "lines"], [.ofString "value"], [.ofString "value"], [.ofString "value"], [.ofString "value"], [.ofString "value"], [.ofString "value"], [.ofString "value"], [.ofString "chain"], [.ofString "paper"], [.ofString "number"], [.ofString "number"], [.ofString "value"], [.ofString "numbers"], [.ofString "root"], [.ofString "part"], [.ofString "word", .ofString "rows"], [.ofString "chain"], [.ofString "line"], [.ofString "pays"], [.ofString "shape"], [.ofString "chain"], [.ofString "paper"], [.ofString "state_so", .ofString "limit"], [.ofString "state_so", .ofString "some"], [.ofString "got", .ofString "due"], [.ofString "call"], [.ofString "state_so"], [.ofString "state_so"], [.ofString "state_so"], [.ofString "state_so"], [.ofString "state_so"]]
def tx_ : Tx := ⟨ns_, sts_, Ns_, gls_, exs_, flds_, lms_, pars_, true⟩
def inits_ : List (Str × List Str × Stmt) := [(.ofString "BadPays", [.ofString "place"], L2.inClass (stAt 4) 0), (.ofString "BadShape", [.ofString "place"], L2.inClass (stAt 5) 0), (.ofString "BadParameter", [.ofString "value"], L2.inClass (stAt 6) 0), (.ofString "TooGreat", [.ofString "most"], L2.inClass (stAt 7) 0)]
def ixDraw : Nat := 63
abbrev Pw : Program := PySem.Challenge.pw_withinshapes_k73_texts_refused
abbrev Rw : PySem.W.OpenLaw := PySem.Challenge.rw_withinshapes_k73_texts_refused
def top0_ : List Str := [.ofString "ShapeError", .ofString "BadPays", .ofString "BadShape", .ofString "BadParameter", .ofString "TooGreat", .ofString "NOUGHT", .ofString "WHOLE", .ofString "is_integer", .ofString "is_from", .ofString "is_fraction", .ofString "reduced_in", .ofString "plus_in", .ofString "minus_in", .ofString "times_in", .ofString "is_less", .ofString "total_in", .ofString "MOST_SIDE_points", .ofString "MOST_PAY", .ofString "is_pay", .ofString "check_pays", .ofString "is_parts", .ofString "MOST_THINGS", .ofString "is_poly", .ofString "cut_in", .ofString "poly_scaled", .ofString "divisor_in", .ofString "whole_in", .ofString "slope_in", .ofString "parted_in", .ofString "lessened_in", .ofString "rest_in", .ofString "common_in", .ofString "plain_in", .ofString "row_in", .ofString "sign_of", .ofString "changes_in", .ofString "count_in", .ofString "is_within", .ofString "is_root", .ofString "MOST_LINES"]
def top1_ : List Str := [.ofString "MOST_NUMBER", .ofString "is_line", .ofString "check_lines", .ofString "across_of", .ofString "height_in", .ofString "lets_in", .ofString "is_in_shape", .ofString "meeting_of", .ofString "foot_of", .ofString "corners_in", .ofString "feet_of", .ofString "some_point", .ofString "has_point_in", .ofString "check_shape", .ofString "MOST_FIGURES", .ofString "MOST_PARTS", .ofString "MOST_CHAINS", .ofString "MOST_SIDE_texts", .ofString "LIMIT", .ofString "is_side", .ofString "is_kernel_form", .ofString "is_part_form", .ofString "is_chain_form", .ofString "is_out_form", .ofString "is_paper_form", .ofString "need_chain", .ofString "need_paper", .ofString "is_long", .ofString "number_word", .ofString "fraction_word", .ofString "numbers_words", .ofString "root_words", .ofString "part_row", .ofString "block_rows", .ofString "chain_rows", .ofString "act_row", .ofString "pays_text", .ofString "shape_text", .ofString "chain_text", .ofString "paper_text"]
def top2_ : List Str := [.ofString "_law_mixed", .ofString "_law_begin", .ofString "_law_draw", .ofString "_law_of", .ofString "_law_like", .ofString "_law_told", .ofString "_law_odd_root", .ofString "_law_odd_kernel", .ofString "_law_odd_paper", .ofString "_law_right", .ofString "_law_others_right"]
def top_ : List Str := top0_ ++ top1_ ++ top2_
def tf_ : List (Str × Option Str) := [(.ofString "_law_right", none), (.ofString "_law_others_right", none)]
def st_law_mixed : Stmt := stAt 90
def st_law_begin : Stmt := stAt 91
def st_law_draw : Stmt := stAt 92
def st_law : Stmt := stAt 101
def chk (i : Nat) : Bool := match pr_.fs[i]? with
  | some d => ckF tx_ i d
  | none => false
theorem all_ck : ((List.range ns_.length).all fun i => chk i) = true := by decide +kernel
end Rf
set_option Elab.async false
set_option linter.all false
set_option maxRecDepth 100000
set_option maxHeartbeats 1000000
/-! RfA: the law's own draws: _law_mixed, _law_draw. -/
namespace RfA
open PySem PySem.Spec PyProof.Rows
open L2 hiding St

/-- no exception leaves: also where one may -/
theorem fn_x {P : Program} {w : World} {K : PySem.W.Frag} {mg : Str → Option Value} {base : Heap} {k : Nat} {f : Addr} {fd : FuncData} {ps : List Str} {sp : Sp} (F : FnOk P w K mg base CX0 k f fd ps sp) : FnOk P w K mg base (L2.CX P w) k f fd ps sp :=
  ⟨F.len, fun A outer s H args us vs Q E hr he hb hv hs => codeAny_mono (F.run A outer s H args us vs Q E hr he hb hv hs) fun r s' h => by
    cases r with
    | error e => exact h.elim
    | ok fl => cases fl <;> exact h⟩
theorem mulS {i j : Int} (hi : i.natAbs < 2 ^ 400) (hj : j.natAbs < 2 ^ 400) : CMulW i j := wide_mul hi hj (by decide) (by decide) (by decide)
theorem big {i : Int} {n : Nat} (h : i.natAbs ≤ n) (hn : n < 2 ^ 400 := by decide) : i.natAbs < 2 ^ 400 := Nat.lt_of_le_of_lt h hn
def TOP : Nat := 18446744073709551616
def spMixed : Sp := fun vs H Q _ => ∃ c k : Int, vs = [.int c, .int k] ∧ 0 ≤ k ∧ k < 36893488147419103232 ∧ ∀ r : Int, 0 ≤ r → r < 2147483629 → Q (.int r) H
theorem scM : FnScope ["cell", "k"] ["cell", "k"] (defScope Rf.st_law_mixed) := ⟨rfl, rfl, rfl, by decide +kernel, rfl, by decide +kernel, by decide +kernel⟩
section
variable {P : Program} {w : World} {K : PySem.W.Frag} {mg : Str → Option Value} {base : Heap}
theorem ok_mixed {f : Addr} {fd : FuncData} (F : Fun K "_law_mixed" "_law_mixed" Rf.st_law_mixed f fd) (mi : mg "int" = none) : FnOk P w K mg base CX0 1 f fd ["cell", "k"] spMixed := by
  refine F.ok scM (fun vs H Q E h => ?_) (fun cdv A outer s H vs Q E hr h => ?_)
  · obtain ⟨c, k, rfl, _⟩ := h
    rfl
  · obtain ⟨c, k, rfl, hk0, hk1, q⟩ := h
    refine ⟨_, pss_cons (ps_set (i := 0) scM.nd rfl (.inl rfl) (pe_op op_mod (pe_callTy call_int1 (by rfl) mi (by decide +kernel) (pa_cons (pv 0) pa_nil)) pe_int))
      (pss_one (ps_ret (pe_op op_mod (pe_op op_mulW (pe_op op_mod (pe_op op_add (pe_op op_add (pe_op op_mulW (pv 0) (pe_op op_add pe_int (pe_op op_mulW (pe_op op_mulW pe_int (pv 1)) (pv 1)))) (pe_op op_mulW pe_int (pv 1))) pe_int) pe_int) pe_int) pe_int))), ?_⟩
    have c0 : 0 ≤ c % 2147483647 := Int.emod_nonneg c (by decide)
    have c1 : c % 2147483647 < 2147483647 := Int.emod_lt_of_pos c (by decide)
    have kb : k.natAbs < 2 ^ 65 := by omega
    have b1 : (2 * k).natAbs < 2 ^ 66 := by omega
    have b2 : (2 * k * k).natAbs < 2 ^ (66 + 65) := wide_lt b1 kb
    have b3 : (48271 + 2 * k * k).natAbs < 2 ^ 140 := by omega
    have b4 : (c % 2147483647).natAbs < 2 ^ 31 := by omega
    refine ⟨_, rfl, .inl ⟨c, rfl, _, _, rfl, rfl, (by decide : (0 : Int) < 2147483647), ?_⟩⟩
    refine ⟨_, rfl, _, rfl, _, _, rfl, rfl, wide_mul (a := 2) (b := 65) (by decide) kb (by decide) (by decide) (by decide), _, rfl, _, _, rfl, rfl, wide_mul b1 kb (by decide) (by decide) (by decide), _, _, rfl, rfl, _, _, rfl, rfl, wide_mul b4 b3 (by decide) (by decide) (by decide),
      _, rfl, _, _, rfl, rfl, wide_mul (a := 17) (b := 65) (by decide) kb (by decide) (by decide) (by decide), _, _, rfl, rfl, _, _, rfl, rfl, _, _, rfl, rfl, (by decide : (0 : Int) < 2147483647), _, _, rfl, rfl, wide_mul (a := 31) (b := 17) ?_ (by decide) (by decide) (by decide) (by decide), _, _, rfl, rfl, (by decide : (0 : Int) < 2147483629), q _ (Int.emod_nonneg _ (by decide)) (Int.emod_lt_of_pos _ (by decide))⟩
    have h0 := Int.emod_nonneg (c % 2147483647 * (48271 + 2 * k * k) + 69621 * k + 11) (b := 2147483647) (by decide)
    have h1 := Int.emod_lt_of_pos (c % 2147483647 * (48271 + 2 * k * k) + 69621 * k + 11) (b := 2147483647) (by decide)
    omega
/-! ### the state -/
/-- the state's dict -/
def stD (c l : Addr) (at_ : Int) : List (Key × V) := [(.inr "cells", .ref c), (.inr "lefts", .ref l), (.inr "at", .int at_)]
theorem n1 : ¬ (Sum.inr ("cells" : Str) : Key) = Sum.inr ("lefts" : Str) := by decide +kernel
theorem n2 : ¬ (Sum.inr ("cells" : Str) : Key) = Sum.inr ("at" : Str) := by decide +kernel
theorem n3 : ¬ (Sum.inr ("lefts" : Str) : Key) = Sum.inr ("at" : Str) := by decide +kernel
theorem val_cells (c l : Addr) (a : Int) : valV (stD c l a) (.inr "cells") = some (.ref c) := valV_pos rfl
theorem val_lefts (c l : Addr) (a : Int) : valV (stD c l a) (.inr "lefts") = some (.ref l) := (valV_neg n1).trans (valV_pos rfl)
theorem val_at (c l : Addr) (a : Int) : valV (stD c l a) (.inr "at") = some (.int a) := (valV_neg n2).trans ((valV_neg n3).trans (valV_pos rfl))
theorem put_at (c l : Addr) (a b : Int) : putK (stD c l a) (.inr "at") (.int b) = stD c l b := by
  unfold putK stD
  have e2 : ¬ ("cells" : Str) = "at" := fun e => n2 (by rw [e])
  have e3 : ¬ ("lefts" : Str) = "at" := fun e => n3 (by rw [e])
  simp [e2, e3]
theorem get_cells {H : Hp} {S c l : Addr} {a : Int} (h : H S = some (.dK (stD c l a))) : DGet H S (.str "cells") (some (.ref c)) := by
  have := DGet.k (k := .inr "cells") h
  rwa [val_cells] at this
theorem get_lefts {H : Hp} {S c l : Addr} {a : Int} (h : H S = some (.dK (stD c l a))) : DGet H S (.str "lefts") (some (.ref l)) := by
  have := DGet.k (k := .inr "lefts") h
  rwa [val_lefts] at this
theorem get_at {H : Hp} {S c l : Addr} {a : Int} (h : H S = some (.dK (stD c l a))) : DGet H S (.str "at") (some (.int a)) := by
  have := DGet.k (k := .inr "at") h
  rwa [val_at] at this
theorem dput_at {H : Hp} {S c l : Addr} {a : Int} (b : Int) (h : H S = some (.dK (stD c l a))) : DPut H S (.str "at") (.int b) (upd H S (.dK (stD c l b))) := by
  have := DPut.k (k := .inr "at") (v := .int b) h (by show 3 < sizeLine; decide)
  rwa [put_at] at this
/-- the state stands -/
structure StAt (K : PySem.W.Frag) (H : Hp) (S c l : Addr) (a : Nat) (cells lefts : List Int) : Prop where
  d : H S = some (.dK (stD c l a))
  c : SqL K H c (cells.map V.int)
  l : H l = some (.lst (lefts.map V.int))
  ne : cells ≠ []
  len : lefts.length = cells.length
theorem sql_upd {H : Hp} {S c : Addr} {xs : List V} {kvs : List (Key × V)} {o : HO} (h : SqL K H c xs) (hS : H S = some (.dK kvs)) : SqL K (upd H S o) c xs := by
  rcases h with (h | ⟨ob, h⟩) | h
  · exact .inl (.inl (by rw [upd_ne (fun e => by rw [e, hS] at h; cases h)]; exact h))
  · exact .inl (.inr ⟨ob, by rw [upd_ne (fun e => by rw [e, hS] at h; cases h)]; exact h⟩)
  · exact .inr h
theorem ix_nat {n : Nat} {i : Int} (h0 : 0 ≤ i) (h1 : i < n) : ixN n i = some i.toNat := by
  unfold ixN
  rw [if_pos h0, if_pos h1]
def spDraw (K : PySem.W.Frag) (S c l : Addr) : Sp := fun vs H Q _ => ∃ (lim : Int) (a : Nat) (cells lefts : List Int), vs = [.ref S, .int lim] ∧ 0 < lim ∧ lim.natAbs.log2 < 9000 ∧ StAt K H S c l a cells lefts ∧ a < TOP ∧
  ∀ (r : Int) (lefts' : List Int) (H' : Hp), 0 ≤ r → r < lim → (∀ b, b ≠ S → b ≠ l → H' b = H b) → H' S = some (.dK (stD c l ((a + 1 : Nat) : Int))) → H' l = some (.lst (lefts'.map V.int)) → lefts'.length = lefts.length → Q (.int r) H'
theorem scD : FnScope ["state_so", "limit", "at", "spot", "left", "mixed"] ["state_so", "limit"] (defScope Rf.st_law_draw) := ⟨rfl, rfl, rfl, by decide +kernel, rfl, by decide +kernel, by decide +kernel⟩
theorem at_map {ns : List Int} {i : Int} {n : Int} (h0 : 0 ≤ i) (h1 : i < ns.length) (e : ns[i.toNat]? = some n) : atI (ns.map V.int) i = some (.int n) := by
  unfold atI ixN
  rw [if_pos h0, if_pos (by rw [List.length_map]; exact h1)]
  show (ns.map V.int)[i.toNat]? = _
  rw [List.getElem?_map, e]
  rfl
theorem ok_draw {S c l : Addr} {f fM : Addr} {fd fdM : FuncData} (F : Fun K "_law_draw" "_law_draw" Rf.st_law_draw f fd) (FM : Fun K "_law_mixed" "_law_mixed" Rf.st_law_mixed fM fdM) (gM : mg "_law_mixed" = some (.ref fM)) (mi : mg "int" = none) (ml : mg "len" = none) :
    FnOk P w K mg base CX0 2 f fd ["state_so", "limit"] (spDraw K S c l) := by
  have GM : FnOk P w K mg base CX0 1 fM fdM ["cell", "k"] spMixed := ok_mixed FM mi
  have bM : Binds K fdM ["cell", "k"] [] := FM.binds fun _ _ _ _ _ _ us hl => match us, hl with | [_, _], _ => rfl
  refine F.ok scD (fun vs H Q E h => ?_) (fun cdv A outer s H vs Q E hr h => ?_)
  · obtain ⟨lim, a, cells, lefts, rfl, _⟩ := h
    rfl
  · obtain ⟨lim, a, cells, lefts, rfl, hl0, hl1, T, ha, q⟩ := h
    have hu := hu_of hr
    refine ⟨_, pss_cons (ps_set (i := 2) scD.nd rfl (.inl rfl) (pe_dget hu (pv 0) pe_str (fun _ _ => rfl)))
      (pss_cons (ps_dput hu (pv 0) pe_str (pe_op op_add (pv 2) pe_int) rfl)
      (pss_cons (ps_set (i := 3) scD.nd rfl (.inl rfl) (pe_op op_mod (pe_callTy call_int1 (by rfl) mi (by decide +kernel) (pa_cons (pv 2) pa_nil)) (pe_callB call_len (by rfl) ml (by decide +kernel) (pa_cons (pe_dget hu (pv 0) pe_str (fun _ _ => rfl)) pa_nil))))
      (pss_cons (ps_set (i := 4) scD.nd rfl (.inl rfl) (pe_ix ix_list (pe_dget hu (pv 0) pe_str (fun _ _ => rfl)) (pv 3) (fun _ _ => rfl)))
      (pss_cons (ps_if (pt_cmpR op_gt (pv 4) pe_int rfl) (pss_cons (ps_asg (pe_op op_fdivW (pv 4) (pv 1)) (pg_sub (pe_dget hu (pv 0) pe_str (fun _ _ => rfl)) (pv 3) set_list (fun _ => rfl)) rfl rfl rfl) (pss_one (ps_ret (pe_op op_mod (pe_callTy call_int1 (by rfl) mi (by decide +kernel) (pa_cons (pv 4) pa_nil)) (pv 1))))) pss_nil)
      (pss_cons (ps_set (i := 5) scD.nd rfl (.inl rfl) (pe_call GM hr rfl gM FM.kp bM .nil pass0 (pa_cons (pe_call GM hr rfl gM FM.kp bM .nil pass0 (pa_cons (pe_ix ix_list (pe_dget hu (pv 0) pe_str (fun _ _ => rfl)) (pv 3) (fun _ _ => rfl)) (pa_cons (pv 2) pa_nil))) (pa_cons (pe_op op_add pe_int (pv 2)) pa_nil))))
      (pss_one (ps_ret (pe_op op_mod (pe_op op_fdivW (pe_callTy call_int1 (by rfl) mi (by decide +kernel) (pa_cons (pe_op op_add (pe_op op_mulW (pv 5) pe_int) (pe_call GM hr rfl gM FM.kp bM .nil pass0 (pa_cons (pv 5) (pa_cons (pe_op op_add pe_int (pv 2)) pa_nil)))) pa_nil)) pe_int) (pv 1))))))))), ?_⟩
    have hn : 0 < (cells.length : Int) := by
      have := List.length_pos_iff.mpr T.ne
      omega
    have s0 : 0 ≤ (a : Int) % (cells.length : Int) := Int.emod_nonneg _ (by omega)
    have s1 : (a : Int) % (cells.length : Int) < (cells.length : Int) := Int.emod_lt_of_pos _ hn
    have hlt : ((a : Int) % (cells.length : Int)).toNat < cells.length := by omega
    have Sl : l ≠ S := fun e => by
      have := T.l
      rw [e, T.d] at this
      cases this
    have hl' : (upd H S (.dK (stD c l ((a : Int) + 1)))) l = some (.lst (lefts.map V.int)) := by rw [upd_ne Sl]; exact T.l
    have hc' : SqL K (upd H S (.dK (stD c l ((a : Int) + 1)))) c (cells.map V.int) := sql_upd T.c T.d
    have gl : lefts[((a : Int) % (cells.length : Int)).toNat]? = some (lefts[((a : Int) % (cells.length : Int)).toNat]'(by rw [T.len]; exact hlt)) := by simp
    have gc : cells[((a : Int) % (cells.length : Int)).toNat]? = some (cells[((a : Int) % (cells.length : Int)).toNat]'hlt) := by simp
    have ea : ((a : Int) + 1) = ((a + 1 : Nat) : Int) := by omega
    have hk : (a : Int) < 18446744073709551616 := by
      have : a < 18446744073709551616 := ha
      omega
    refine ⟨_, rfl, S, .int a, rfl, get_at T.d, ?_⟩
    refine ⟨_, rfl, _, _, rfl, rfl, _, rfl, S, _, rfl, dput_at _ T.d, ?_⟩
    refine ⟨_, rfl, .inl ⟨_, rfl, _, rfl, S, .ref c, rfl, get_cells upd_same, .ref c, cells.length, rfl, .inl ⟨_, hc', by rw [List.length_map]⟩, _, _, rfl, rfl, hn, ?_⟩⟩
    refine ⟨_, rfl, S, .ref l, rfl, get_lefts upd_same, _, rfl, l, _, _, _, rfl, rfl, .inl (.inl hl'), at_map s0 (by rw [T.len]; exact s1) gl, ?_⟩
    generalize lefts[((a : Int) % (cells.length : Int)).toNat]'(by rw [T.len]; exact hlt) = left at gl ⊢
    generalize cells[((a : Int) % (cells.length : Int)).toNat]'hlt = cell at gc
    refine ⟨_, rfl, _, _, rfl, rfl, _, rfl, ?_⟩
    by_cases hp : 0 < left
    · dsimp only
      rw [if_pos (decide_eq_true hp)]
      refine ⟨_, rfl, _, rfl, _, _, rfl, rfl, ⟨hl0, hl1⟩, _, rfl, S, .ref l, rfl, get_lefts upd_same, _, rfl, l, _, _, _, rfl, rfl, hl', ix_nat s0 (by rw [List.length_map, T.len]; exact s1), ?_⟩
      refine ⟨_, rfl, .inl ⟨_, rfl, _, rfl, _, _, rfl, rfl, hl0, q _ (lefts.set ((a : Int) % (cells.length : Int)).toNat (left / lim)) _ (Int.emod_nonneg _ (by omega)) (Int.emod_lt_of_pos _ hl0) (fun b h1 h2 => by rw [upd_ne h2, upd_ne h1]) ?_ ?_ (List.length_set ..)⟩⟩
      · rw [upd_ne (Ne.symm Sl), upd_same, ea]
      · rw [upd_same, List.map_set]
    · dsimp only
      rw [if_neg (fun z => hp (of_decide_eq_true z))]
      refine ⟨_, rfl, S, .ref c, rfl, get_cells upd_same, _, rfl, c, _, _, _, rfl, rfl, hc', at_map s0 s1 gc, _, rfl, _, _, rfl, by omega, by omega, fun r1 h1 h2 => ?_⟩
      refine ⟨_, rfl, _, _, rfl, rfl, _, _, rfl, by omega, by omega, fun r2 h3 h4 => ?_⟩
      refine ⟨_, rfl, _, _, rfl, rfl, wide_mul (a := 31) (b := 32) (by omega) (by decide) (by decide) (by decide) (by decide), _, rfl, _, rfl, _, _, rfl, rfl, _, _, rfl, by omega, by omega, fun r3 h5 h6 => ?_⟩
      refine ⟨_, _, rfl, rfl, .inl ⟨_, rfl, _, _, rfl, rfl, ⟨by decide, by decide⟩, _, rfl, _, _, rfl, rfl, hl0, q _ lefts _ (Int.emod_nonneg _ (by omega)) (Int.emod_lt_of_pos _ hl0) (fun b h1 h2 => by rw [upd_ne h1]) (by rw [upd_same, ea]) hl' rfl⟩⟩
end
end RfA
set_option Elab.async false
set_option linter.all false
set_option maxRecDepth 100000
set_option maxHeartbeats 1000000
/-! RfB: the law's state as the frames' law (Lw); what a draw promises. -/
namespace RfA
open PySem PySem.Spec PyProof.Rows
open L2 hiding St

def OkN (S c l : Addr) (T : List (Addr × Str)) (n : Nat) (H : Hp) : Prop := ∃ (a : Nat) (cells lefts : List Int), H S = some (.dK (stD c l a)) ∧ Rf.SqF H c (cells.map V.int) ∧ H l = some (.lst (lefts.map V.int)) ∧ cells ≠ [] ∧ lefts.length = cells.length ∧ a + n ≤ TOP ∧ LamX.Tabs T H
theorem tabs_keep {T : List (Addr × Str)} {H H' : Hp} (h : LamX.Tabs T H) (k : ∀ p ∈ T, H' p.1 = H p.1) (i : Rf.Imm H H') : LamX.Tabs T H' := fun p hp => by
  obtain ⟨ps, h1, h2, h3⟩ := h p hp
  refine ⟨ps, by rw [k p hp]; exact h1, h2, fun pos cv hc => ?_⟩
  obtain ⟨c, e1, e2⟩ := h3 pos cv hc
  exact ⟨c, e1, i _ _ e2 trivial⟩
def lawL (S c l : Addr) (T : List (Addr × Str)) : Rf.Lw where
  S := S
  A := fun b => b = S ∨ b = l ∨ ∃ p ∈ T, b = p.1
  ok := OkN S c l T
  keep := fun n H H' ⟨a, cells, lefts, h1, h2, h3, h4, h5, h6, h7⟩ k i => ⟨a, cells, lefts, by rw [k S (.inl rfl)]; exact h1, h2.imm i, by rw [k l (.inr (.inl rfl))]; exact h3, h4, h5, h6, tabs_keep h7 (fun p hp => k _ (.inr (.inr ⟨p, hp, rfl⟩))) i⟩
  mono := fun n m H ⟨a, cells, lefts, h1, h2, h3, h4, h5, h6, h7⟩ hm => ⟨a, cells, lefts, h1, h2, h3, h4, h5, by omega, h7⟩
  there := fun n H b ⟨a, cells, lefts, h1, h2, h3, h4, h5, h6, h7⟩ hb => by
    rcases hb with rfl | rfl | ⟨p, hp, rfl⟩
    · exact ⟨_, h1, fun z => z⟩
    · exact ⟨_, h3, fun z => z⟩
    · obtain ⟨ps, e, _⟩ := h7 p hp
      exact ⟨_, e, fun z => z⟩
  am := S
  T := T
  tA := fun p hp => .inr (.inr ⟨p, hp, rfl⟩)
  tabs := fun n H ⟨a, cells, lefts, h1, h2, h3, h4, h5, h6, h7⟩ => h7
  tabk := fun n H H1 p ⟨a, cells, lefts, h1, h2, h3, h4, h5, h6, h7⟩ hp k t => by
    obtain ⟨ps, e, _⟩ := h7 p hp
    have ne : ∀ {b : Addr} {o : HO}, H b = some o → (∀ ps, o ≠ .tbl ps) → b ≠ p.1 := fun {b o} hb no z => by
      rw [z, e] at hb
      cases hb
      exact no _ rfl
    obtain ⟨o, h2⟩ := h2
    exact ⟨a, cells, lefts, k _ _ (ne h1 fun _ z => nomatch z) h1, ⟨o, k _ _ (ne h2 fun _ z => nomatch z) h2⟩, k _ _ (ne h3 fun _ z => nomatch z) h3, h4, h5, h6, t⟩
section
variable {P : Program} {w : World} {K : PySem.W.Frag} {mg : Str → Option Value} {base : Heap}
theorem drawn_inv {cs : List Rf.Cell} {n : Nat} {Pc : Rf.Cell × Nat → Prop} {E : Nat → List PyData → Rf.Sl → Prop} (h : (Rf.drawn cs n).All Pc E) : ∃ (lim : Int) (b : Nat), cs = [.st, .sh (.int lim)] ∧ n = b + 1 ∧ 0 < lim ∧ lim.natAbs.log2 < 9000 ∧ ∀ k : Nat, k < lim.toNat → Pc (.sh (.int k), b) := by
  unfold Rf.drawn at h
  split at h
  · rename_i lim b
    split at h
    · rename_i hl
      exact ⟨lim, b, rfl, rfl, hl.1, hl.2, fun k hk => h k hk⟩
    · exact h.elim
  · exact h.elim
theorem draw_fp {S c l : Addr} {T : List (Addr × Str)} {xi : Rf.XI} {f fM : Addr} {fd fdM : FuncData} (F : Fun K "_law_draw" "_law_draw" Rf.st_law_draw f fd) (FM : Fun K "_law_mixed" "_law_mixed" Rf.st_law_mixed fM fdM) (gM : mg "_law_mixed" = some (.ref fM)) (mi : mg "int" = none) (ml : mg "len" = none) (am : Addr) (m : Nat) :
    Rf.FnG P w K mg base 3 f fd ["state_so", "limit"] (Rf.Fp K (((lawL S c l T).amb am).shift m) xi Rf.drawn) := by
  have F2 := Rf.FnG.of (fn_x (ok_draw (P := P) (w := w) (mg := mg) (base := base) (S := S) (c := c) (l := l) F FM gM mi ml))
  refine (F2.mono (by decide : 2 ≤ 3)).imp fun vs H Q E ⟨cs, n, q1, q2, q3, q4⟩ => ?_
  obtain ⟨lim, b, rfl, rfl, h1, h2, h3⟩ := drawn_inv q4
  obtain ⟨v, u, rfl, rv, ru⟩ := q2.two
  have rv : v = .ref S := rv
  have ru : u = .int lim := Rf.sh_int ru
  subst rv ru
  obtain ⟨a, cells, lefts, k1, k2, k3, k4, k5, k6, k7⟩ : OkN S c l T (m + (b + 1)) H := q1
  refine ⟨lim, a, cells, lefts, rfl, h1, h2, ⟨k1, k2.sq, k3, k4, k5⟩, by omega, fun r lefts' H' hr0 hr1 hk hS hl hlen => ?_⟩
  have neS : ∀ {x : Addr} {o : HO}, H x = some o → Rf.Im o → x ≠ S := fun {x o} e im z => by rw [z, k1] at e; cases e; exact im
  have neL : ∀ {x : Addr} {o : HO}, H x = some o → Rf.Im o → x ≠ l := fun {x o} e im z => by rw [z, k3] at e; cases e; exact im
  have imm : Rf.Imm H H' := fun x o e im => by rw [hk x (neS e im) (neL e im)]; exact e
  have e := h3 r.toNat (by omega) (.int r) H' (fun x o ex nx => by rw [hk x (fun z => nx (.inl z)) (fun z => nx (.inr (.inl z)))]; exact ex)
    (show OkN S c l T (m + b) H' from ⟨a + 1, cells, lefts', hS, k2.imm imm, hl, k4, by rw [hlen, k5], by omega, tabs_keep k7 (fun p hp => by
      obtain ⟨ps, ep, _⟩ := k7 p hp
      exact hk _ (fun z => by rw [z, k1] at ep; cases ep) (fun z => by rw [z, k3] at ep; cases ep)) imm⟩)
  exact e (by
    have : ((r.toNat : Nat) : Int) = r := by omega
    rw [this]
    exact .int r) trivial
end
end RfA
set_option Elab.async false
set_option linter.all false
set_option maxRecDepth 100000
set_option maxHeartbeats 1000000
/-! RfC: _law_begin: the state is made. -/
namespace RfA
open PySem PySem.Spec PyProof.Rows
open L2 hiding St

/-- what is kept of a number -/
def lef (n : Int) : Int := if 1000000000000000000 ≤ n then n else 0
def eltB : Rf.IE := .ite (.cmp .ge (.var 2) (.bin .pow (.con (.int 10)) (.con (.int 18)))) (.var 2) (.con (.int 0))
theorem elt_ev (G : Rf.Env) (x y : Option Rf.Cell) (n : Int) : Rf.ev G eltB ⟨[x, y, some (.sh (.int n))], 0⟩ = .ok (.sh (.int (lef n)), ⟨[x, y, some (.sh (.int n))], 0⟩) := by
  have e : (10 : Int) ^ ((18 : Int).toNat) = 1000000000000000000 := by decide
  by_cases h : 1000000000000000000 ≤ n
  · simp [eltB, lef, h, e, Rf.ev, Rf.pk, Rf.peek, Rf.take, Rf.T.opt, Rf.T.bind, Rf.slot?, Rf.again, Rf.opCmp, Rf.opBin, Rf.Cell.bool?, Rf.Cell.fz, Rf.Cell.kept]
  · simp [eltB, lef, h, e, Rf.ev, Rf.pk, Rf.peek, Rf.take, Rf.T.opt, Rf.T.bind, Rf.slot?, Rf.again, Rf.opCmp, Rf.opBin, Rf.Cell.bool?, Rf.Cell.fz, Rf.Cell.kept]
theorem map_ev (G : Rf.Env) (x y : Option Rf.Cell) : ∀ (ns : List Int) (acc : List PyData), acc.length + ns.length ≤ 1000 → Rf.mapL (Rf.ev G eltB) (Rf.evq G .none) [2] (ns.map .int) acc ⟨[x, y, none], 0⟩ = .ok (acc ++ ns.map (fun n => .int (lef n)), ⟨[x, y, none], 0⟩)
  | [], acc, _ => by simp [Rf.mapL]
  | n :: ns, acc, h => by
    have hl : acc.length < Rf.LINE := by
      have : acc.length ≤ 1000 := by omega
      unfold Rf.LINE
      omega
    have ih := map_ev G x y ns (acc ++ [.int (lef n)]) (by simp at h ⊢; omega)
    rw [List.map_cons]
    unfold Rf.mapL
    simp only [Rf.bindT, Rf.T.opt, Rf.T.bind, Rf.evq, Rf.Cell.bool?, cond_true, Rf.Sl.set, List.set]
    rw [elt_ev]
    simp only [Rf.T.bind, Rf.Cell.fz, Rf.Cell.sh?, Rf.T.opt, if_pos hl, Rf.Sl.forget, Rf.Sl.set, List.set, List.map_cons]
    rw [ih]
    simp
/-- nothing is drawn yet -/
def L0 : Rf.Lw where
  S := 0
  A := fun _ => False
  ok := fun _ _ => True
  keep := fun _ _ _ _ _ _ => trivial
  mono := fun _ _ _ _ _ => trivial
  there := fun _ _ _ _ h => h.elim
  am := 0
  T := []
  tA := fun _ h => by cases h
  tabs := fun _ _ _ _ h => by cases h
  tabk := fun _ _ _ _ _ _ _ _ => trivial
def t0 : Rf.Tx := ⟨[], [], [], [], [], [], [], [], false⟩
def p0 : Rf.Pr := ⟨[], []⟩
/-- what the module's names are, for every frame -/
structure Bs (K : PySem.W.Frag) (mg : Str → Option Value) (xi : Rf.XI) : Prop where
  blt : ∀ n ∈ Rf.bltN, mg n = none
  gcd : mg "gcd" = some (.builtin "math.gcd")
  sup : mg "super" = none
  xf : Rf.XF K xi
section
variable {P : Program} {w : World} {K : PySem.W.Frag} {mg : Str → Option Value} {base : Heap} {xi : Rf.XI}
theorem mf0 (B : Bs K mg xi) : Rf.MF t0 p0 P w K mg base L0 xi where
  blt := B.blt
  gcd := B.gcd
  cmb := fun h => by cases h
  sup := B.sup
  code := fun f n a b c body st h => by simp [t0] at h
  draw := fun f n h => by simp [t0] at h
  all := fun f n h => by simp [t0] at h
  gls := fun f n h => by simp [t0] at h
  xf := B.xf
  exs := fun f n h => by simp [t0] at h
  flds := fun f n h => by simp [t0] at h
  own := fun f n h => by simp [t0] at h
def NB : List Str := ["script", "cells_so", "cell"]
theorem scB : FnScope NB ["script"] (defScope Rf.st_law_begin) := ⟨rfl, rfl, rfl, by decide +kernel, rfl, by decide +kernel, by decide +kernel⟩
/-- the comprehension, as the checker has it -/
def lcB : Rf.IE := .lc eltB [2] (.seq (.var 1)) .none
def retE : Stmt → Expr
  | .Return (some e) _ => e
  | _ => .Constant .none 0 default
def dictV : Expr → Nat → Expr
  | .Dict _ vs _, i => vs.getD i (.Constant .none 0 default)
  | e, _ => e
def exprLc : Expr := dictV (retE ((defBody Rf.st_law_begin).getD 1 (.Pass default))) 1
theorem lc_ck : Rf.ckE lcB (t0.ck NB (defScope Rf.st_law_begin) (t0.lm 0)) exprLc = true := by decide +kernel
def spBegin (K : PySem.W.Frag) : Sp := fun vs H Q _ => ∃ (a : Addr) (ns : List Int), vs = [.ref a] ∧ SqL K H a (ns.map V.int) ∧ ns.length ≤ 999 ∧
  ∀ (S c l : Addr) (cells lefts : List Int) (H' : Hp), H S = none → H l = none → (∀ b o, H b = some o → H' b = some o) → H' S = some (.dK (stD c l 0)) → Rf.SqF H' c (cells.map V.int) → H' l = some (.lst (lefts.map V.int)) → cells ≠ [] → lefts.length = cells.length → Q (.ref S) H'
theorem dp_ints {H : Hp} {a : Addr} {ns : List Int} (h : SqL K H a (ns.map V.int)) : Dp K H (.ref a) (.list (ns.map .int)) := .lst h (by
  clear h
  induction ns with
  | nil => exact .nil
  | cons n ns ih => exact .cons (.int n) ih)
theorem shaped_ints : ∀ ns : List Int, SeqAt.shaped (.list (ns.map .int)) = true := fun ns => by
  have h1 : ∀ ns : List Int, PyData.canLayAll0 (ns.map .int) = true := fun ns => by
    induction ns with
    | nil => rfl
    | cons n ns ih => simpa [PyData.canLayAll0, PyData.canLay0] using ih
  have h2 : ∀ ns : List Int, PyData.depthAll (ns.map .int) = 0 := fun ns => by
    induction ns with
    | nil => rfl
    | cons n ns ih => simpa [PyData.depthAll, PyData.depth] using ih
  unfold SeqAt.shaped
  simp [PyData.canLay0, PyData.depth, h1, h2]
theorem eqv_nil (ns : List Int) : PyData.eqv (.list (ns.map .int)) (.list []) = decide (ns = []) := by
  cases ns with
  | nil => rfl
  | cons n ns => simp [PyData.eqv, PyData.eqvAll]
theorem merge_st (c l : Addr) : mergeK [] [(.inr "cells", V.ref c), (.inr "lefts", .ref l), (.inr "at", .int 0)] = stD c l 0 := by
  have e1 : ¬ ("cells" : Str) = "lefts" := fun e => n1 (by rw [e])
  have e2 : ¬ ("cells" : Str) = "at" := fun e => n2 (by rw [e])
  have e3 : ¬ ("lefts" : Str) = "at" := fun e => n3 (by rw [e])
  simp [mergeK, putK, stD, e1, e2, e3]
theorem sql_new {H : Hp} {p c : Addr} {xs : List V} {o : HO} (h : SqL K H c xs) (hp : H p = none) : SqL K (upd H p o) c xs := by
  rcases h with (h | ⟨ob, h⟩) | h
  · exact .inl (.inl (by rw [upd_ne (ne_of_none h hp)]; exact h))
  · exact .inl (.inr ⟨ob, by rw [upd_ne (ne_of_none h hp)]; exact h⟩)
  · exact .inr h
theorem ints_map : ∀ ns : List Int, Rf.ints? (ns.map .int) = some ns
  | [] => rfl
  | n :: ns => by
    rw [List.map_cons]
    unfold Rf.ints?
    rw [ints_map ns]
theorem lc_ev (G : Rf.Env) (cells : List Int) (hl : cells.length ≤ 1000) : Rf.ev G lcB ⟨[none, some (.ow (cells.map .int)), none], 0⟩ = .ok (.ow ((cells.map lef).map .int), ⟨[none, some (.sh (.list (cells.map .int))), none], 0⟩) := by
  unfold lcB Rf.ev Rf.evi
  have e : Rf.ev G (.var 1) ⟨[none, some (.ow (cells.map .int)), none], 0⟩ = .ok (.sh (.list (cells.map .int)), ⟨[none, some (.sh (.list (cells.map .int))), none], 0⟩) := by
    unfold Rf.ev
    rfl
  rw [e]
  have m := map_ev G none (some (.sh (.list (cells.map .int)))) cells [] (by simpa using hl)
  show (Rf.T.noex (Rf.mapL (Rf.ev G eltB) (Rf.evq G .none) [2] (cells.map .int) [] ⟨[none, some (.sh (.list (cells.map .int))), none], 0⟩)).bind _ = _
  rw [m]
  simp [Rf.T.noex, Rf.T.bind]
theorem rel_b {H H1 : Hp} {a p p1 : Addr} {cells : List Int} (h0 : H p1 = none) (hk : ∀ b o, H b = some o → H1 b = some o) (h1 : H1 p1 = some (.lst (cells.map V.int))) (hp : H1 p = none) :
    Rf.RelS K L0 H (upd H1 p (.dK [])) [some (.ref a), some (.ref p1), none] ⟨[none, some (.ow (cells.map .int)), none], 0⟩ where
  ext := fun b o e _ => by rw [upd_ne (ne_of_none (hk b o e) hp)]; exact hk b o e
  law := trivial
  len := rfl
  slot := fun i c e => match i, e with
    | 0, e => by cases e
    | 1, e => by
      have : some (some (Rf.Cell.ow (cells.map .int))) = some (some c) := e
      cases this
      exact ⟨.ref p1, rfl, p1, _, rfl, by rw [upd_ne (ne_of_none h1 hp)]; exact h1, Rf.dfs_ints cells⟩
    | 2, e => by cases e
    | n + 3, e => by cases e
  own := fun b ⟨i, ds, e1, e2⟩ => match i, e1, e2 with
    | 0, e1, _ => by cases e1
    | 1, _, e2 => by
      have : some (some (V.ref p1)) = some (some (V.ref b)) := e2
      cases this
      exact ⟨h0, fun z => z⟩
    | 2, e1, _ => by cases e1
    | n + 3, e1, _ => by cases e1
  dist := fun i j ds es b e1 e2 _ _ => by
    have k : ∀ (i : Nat) (ds : List PyData), ([none, some (Rf.Cell.ow (cells.map .int)), none] : List (Option Rf.Cell))[i]? = some (some (.ow ds)) → i = 1 := fun i ds e => match i, e with
      | 0, e => by cases e
      | 1, _ => rfl
      | 2, e => by cases e
      | n + 3, e => by cases e
    rw [k i ds e1, k j es e2]
theorem ok_begin {f : Addr} {fd : FuncData} (F : Fun K "_law_begin" "_law_begin" Rf.st_law_begin f fd) (B : Bs K mg xi) : Rf.FnG P w K mg base 3 f fd ["script"] (spBegin K) := by
  obtain ⟨oc, od, kV, doc, pm, an, cdv, ct, osl, efd, lk, hcd⟩ := F.ex
  subst efd
  have len : ∀ vs H Q E, spBegin K vs H Q E → vs.length = (["script"] : List Str).length := fun vs H Q E ⟨a, ns, e, _⟩ => by rw [e]; rfl
  refine ⟨len, fun A outer s H args us vs Q E gu hr he hbt hv h => ?_⟩
  refine LamX.run_ofS (k := 2) lk hcd scB hr he hbt hv (len vs H Q E h) fun hr => ?_
  obtain ⟨a, ns, rfl, hS, hl, q⟩ := h
  have good := (Rf.mf_good (f := 0) (fa := f) (outer := outer) (s := s) (H := H) (B := H) (E := E) (cl := fun _ _ _ => .bad) (cm := fun _ _ => .bad) (am := .bad) (fuel := 0) (mf0 (P := P) (w := w) (base := base) B) (fun g n hn => by simp [t0] at hn) (fun X R g n _ _ _ _ _ _ _ _ hn => by simp [t0] at hn) (N := NB) (qual := "_law_begin") (scope := defScope Rf.st_law_begin) (cdv := cdv) (lv := 0) (A := A) ⟨scB.nd, scB.kind, hr, gu, fun z => by cases z⟩ Rf.act_none).toGood
  have plc := (Rf.sndE lcB _ _ _ _ 0 _ good lc_ck).1
  have hu := good.hu
  refine ⟨_, pss_cons (ps_set (i := 1) scB.nd rfl (.inl rfl) (pe_ifExp (pt_cmpR (op_neD (by omega)) (pv 0) (pe_lst pa_nil) rfl) (pe_callTy call_list_of (by rfl) (B.blt _ (by decide)) (by decide +kernel) (pa_cons (pv 0) pa_nil)) (pe_lst (pa_cons pe_int pa_nil))))
    (pss_one (ps_ret (pe_disp (pps_cons pe_str (pv 1) (pps_cons pe_str plc (pps_cons pe_str pe_int pps_nil))) rfl rfl (by simp) (by decide)))), ?_⟩
  have fin : ∀ (p1 : Addr) (cells : List Int) (H1 : Hp), H p1 = none → (∀ b o, H b = some o → H1 b = some o) → H1 p1 = some (.lst (cells.map V.int)) → cells ≠ [] → cells.length ≤ 1000 →
      tDisp [(tC (V.str (Str.ofString "cells")), tVar 1), (tC (V.str (Str.ofString "lefts")), Rf.Rd K ⟨L0, H, xi, fun cls d _ H => E cls d H⟩ (Rf.ev ⟨fun _ _ _ => .bad, fun _ _ => .bad, .bad, p0.gl, 0⟩ lcB)), (tC (V.str (Str.ofString "at")), tC (V.int 0))] [some (.ref a), some (.ref p1), none] H1 Q := by
    intro p1 cells H1 h0 hk h1 ne hz p hp
    have hpH : H p = none := by
      cases z : H p with
      | none => rfl
      | some o => rw [hk p o z] at hp; cases hp
    refine ⟨_, rfl, _, rel_b h0 hk h1 hp, ?_⟩
    rw [lc_ev _ cells hz]
    intro v H' s1 r1 rv fr
    obtain ⟨l, xs, rfl, hl', g⟩ := rv
    have ex := g.ints (ints_map _)
    subst ex
    obtain ⟨f1, _⟩ := fr l rfl
    obtain ⟨v1, e1, d1⟩ := r1.slot 1 _ rfl
    have e1 : some (some (V.ref p1)) = some (some v1) := e1
    cases e1
    have pl : l ≠ p := fun z => by rw [z, upd_same] at f1; cases f1
    have hlH : H l = none := by
      cases z : H l with
      | none => rfl
      | some o => rw [upd_ne pl, hk l o z] at f1; cases f1
    have pp : p1 ≠ p := ne_of_none h1 hp
    have own1 : ∀ b, b ≠ p1 → ¬ Rf.Owns [some (V.ref a), some (.ref p1), none] ⟨[none, some (.ow (cells.map .int)), none], 0⟩ b := fun b nb ⟨i, ds, e1, e2⟩ => match i, e1, e2 with
      | 0, e1, _ => by cases e1
      | 1, _, e2 => by
        have : some (some (V.ref p1)) = some (some (V.ref b)) := e2
        cases this
        exact nb rfl
      | 2, e1, _ => by cases e1
      | n + 3, e1, _ => by cases e1
    have sq : Rf.SqF H' p1 (cells.map V.int) := by
      cases d1 with
      | lst q1 q2 =>
        have := q2.ints (ints_map cells)
        rw [this] at q1
        exact q1
    refine ⟨s1.fr p _ upd_same (fun z => z) (own1 p (Ne.symm pp)), [(.inr "cells", .ref p1), (.inr "lefts", .ref l), (.inr "at", .int 0)], rfl, (by show 3 ≤ 15; decide), ?_⟩
    rw [merge_st]
    refine q p p1 l cells (cells.map lef) _ hpH hlH (fun b o e => ?_) upd_same ?_ (by rw [upd_ne pl]; exact hl') ne (List.length_map ..)
    · have nb : b ≠ p := ne_of_none e hpH
      rw [upd_ne nb]
      exact s1.fr b o (by rw [upd_ne nb]; exact hk b o e) (fun z => z) (own1 b (ne_of_none e h0))
    · obtain ⟨o, sq⟩ := sq
      exact ⟨o, by rw [upd_ne pp]; exact sq⟩
  refine ⟨_, rfl, Nat.zero_le _, fun p0 np => ⟨.list (ns.map .int), .list [], dp_ints ?_, .lst (.inl (.inl upd_same)) .nil, shaped_ints ns, rfl, _, rfl, ?_⟩⟩
  · exact sql_new hS np
  · rw [eqv_nil]
    have k0 : ∀ b o, H b = some o → (upd H p0 (.lst [])) b = some o := fun b o e => by rw [upd_ne (ne_of_none e np)]; exact e
    by_cases hn : ns = []
    · show (if (!decide (ns = [])) = true then _ else _)
      rw [if_neg (by simp [hn])]
      refine ⟨by show 1 ≤ sizeLine; decide, fun p1 h1 => ?_⟩
      refine fin p1 [0] _ ?_ (fun b o e => ?_) upd_same (by simp) (by decide)
      · cases z : H p1 with
        | none => rfl
        | some o => rw [k0 p1 o z] at h1; cases h1
      · rw [upd_ne (ne_of_none (k0 b o e) h1)]; exact k0 b o e
    · show (if (!decide (ns = [])) = true then _ else _)
      rw [if_pos (by simp [hn])]
      refine ⟨_, rfl, a, ns.map V.int, rfl, .inl (sql_new hS np), fun p1 h1 => ?_⟩
      refine fin p1 ns _ ?_ (fun b o e => ?_) upd_same hn (by omega)
      · cases z : H p1 with
        | none => rfl
        | some o => rw [k0 p1 o z] at h1; cases h1
      · rw [upd_ne (ne_of_none (k0 b o e) h1)]; exact k0 b o e
end
end RfA
set_option Elab.async false
set_option linter.all false
set_option maxRecDepth 100000
set_option maxHeartbeats 1000000
/-! RfD: law: the state is made, the rest is told by the evaluator. -/
namespace RfA
open PySem PySem.Spec PyProof.Rows
open L2 hiding St

section
variable {X : Cx} {W : WX}
theorem pe_callG {x : Expr} {xs : List Expr} {k : Nat} {fa : Addr} {fd : FuncData} {ps : List Str} {n : Str} {p1 pos : Pos} {t : TA} {sp : Sp} (tk : Takes X W) (F : Rf.FnG X.prog X.w X.K X.mg X.base k fa fd ps sp) (gu : X.A.guards = some []) (hr : Room k X.A) (hg : Gl X n) (hm : X.mg n = some (.ref fa)) (hk : PySem.W.keepIn X.K (.ref fa) = true) (hb : L2.Binds X.K fd ps [])
    (ha : PA X (x :: xs) t) (hdb : (n == ("__debug__" : Str)) = false := by decide) (he : starEach (x :: xs) X.env = (false, eval x X.env) :: starEach xs X.env := by rfl) (hpl : (backTo pos (starEach xs X.env)).any (·.1) = false := by rfl) :
    PE X (.Call (.Name n p1) (x :: xs) [] pos) (fun σ H Q => t σ H fun vs H1 => sp vs H1 Q (WE W σ)) := by
  refine ⟨fun pins s σ H Q I h => ?_⟩
  refine wpAny_Call_Name_kw (ld_glob I hg hm ?_ hdb)
  refine PySem.W.callWith_K (h₀ := X.base) I.ok.mod.kin hk (thn (ha.run pos pins s σ H _ I h) fun us s1 ⟨vs, H1, I1, r, q⟩ => ⟨I1.kIn, ?_⟩) he hpl
  exact Rf.run_fnG F gu hr hb tk I1 r q
/-- one of many readings -/
theorem pss_ex {ι : Type} {ss : List Stmt} {t : ι → TS} (h : ∀ i, PSs X ss (t i)) : PSs X ss (fun D σ H => ∃ i, t i D σ H) := ⟨fun pins s σ H D I ⟨i, q⟩ => (h i).run pins s σ H D I q⟩
end
/-- law's slots behind its first row -/
def stL (n b : Nat) : Rf.Sl := ⟨none :: some .st :: List.replicate n none, b⟩
theorem stL_get {n b i : Nat} {c : Rf.Cell} (h : (stL n b).cs[i]? = some (some c)) : i = 1 ∧ c = .st := by
  match i, h with
  | 0, h => cases h
  | 1, h =>
    have : some (some Rf.Cell.st) = some (some c) := h
    cases this
    exact ⟨rfl, rfl⟩
  | j + 2, h =>
    have h : (List.replicate n (none : Option Rf.Cell))[j]? = some (some c) := h
    rw [List.getElem?_replicate] at h
    split at h <;> cases h
def spLaw (K : PySem.W.Frag) (T : List (Addr × Str)) : Sp := fun vs H Q _ => ∃ (a : Addr) (ns : List Int), vs = [.ref a] ∧ SqL K H a (ns.map V.int) ∧ ns.length ≤ 999 ∧ LamX.Tabs T H ∧ ∀ H', Q (.bl true) H'
theorem scLaw : FnScope Rf.N_law ["script"] (defScope Rf.st_law) := ⟨rfl, rfl, rfl, by decide +kernel, rfl, by decide +kernel, by decide +kernel⟩
theorem law_ck : Rf.ckSs Rf.b_law (Rf.tx_.ck Rf.N_law (defScope Rf.st_law) (Rf.tx_.lm Rf.ns_.length)) ((defBody Rf.st_law).drop 1) = true := by decide +kernel
theorem law_lm : Rf.tx_.lm Rf.ns_.length = false := by decide +kernel
/-- what the evaluator tells of law -/
def Plain (fuel k : Nat) : Prop := ((Rf.exs ⟨(Rf.run Rf.pr_ fuel k).1, (Rf.run Rf.pr_ fuel k).2, .bad, Rf.pr_.gl, fuel⟩ Rf.b_law (stL (Rf.N_law.length - 2) Rf.cost_law)).bind Rf.Out.cell).All (fun p => p.1 = .sh (.bool true)) (fun _ _ _ => False)
section
variable {P : Program} {w : World} {K : PySem.W.Frag} {mg : Str → Option Value} {base : Heap} {xi : Rf.XI} {T : List (Addr × Str)}
theorem rel_law {S c l a : Addr} {H : Hp} {n b : Nat} {N : List Str} (hN : N.length = n + 2) (h : OkN S c l T b H) : Rf.RelS K (lawL S c l T) H H ((L2.start N [.ref a]).set 1 (some (.ref S))) (stL n b) where
  ext := Rf.Ext.refl _ H
  law := h
  len := by
    rw [List.length_set]
    show (none :: some Rf.Cell.st :: List.replicate n (none : Option Rf.Cell)).length = _
    unfold L2.start
    simp [hN]
  slot := fun i cl e => by
    obtain ⟨rfl, rfl⟩ := stL_get e
    refine ⟨.ref S, List.getElem?_set_self ?_, rfl⟩
    unfold L2.start
    simp [hN]
  own := fun x ⟨i, ds, e, _⟩ => by cases (stL_get e).2
  dist := fun i j ds es x e _ _ _ => by cases (stL_get e).2
theorem ok_law {f fB : Addr} {fd fdB : FuncData} {fuel k : Nat} (F : Fun K "law" "law" Rf.st_law f fd) (FB : Fun K "_law_begin" "_law_begin" Rf.st_law_begin fB fdB) (gB : mg "_law_begin" = some (.ref fB)) (B : Bs K mg xi)
    (M : ∀ S c l, Rf.MF Rf.tx_ Rf.pr_ P w K mg base (lawL S c l T) xi) (hz : ∀ (f : Nat) (n : Str), Rf.tx_.ns[f]? = some n → ∃ fa fd ps, mg n = some (.ref fa) ∧ PySem.W.keepIn K (.ref fa) = true ∧ Rf.ParOk Rf.tx_ f fd ps)
    (hc : Rf.cost_law ≤ TOP) (plain : Plain fuel (k + 1)) : Rf.FnG P w K mg base (3 * (k + 1) + 3) f fd ["script"] (spLaw K T) := by
  have GB : Rf.FnG P w K mg base 3 fB fdB ["script"] (spBegin K) := ok_begin FB B
  have bB : L2.Binds K fdB ["script"] [] := FB.binds fun _ _ _ _ _ _ us hl => match us, hl with | [_], _ => rfl
  obtain ⟨oc, od, kV, doc, pm, an, cdv, ct, osl, efd, lk, hcd⟩ := F.ex
  subst efd
  have len : ∀ vs H Q E, spLaw K T vs H Q E → vs.length = (["script"] : List Str).length := fun vs H Q E ⟨a, ns, e, _⟩ => by rw [e]; rfl
  refine ⟨len, fun A outer s H args us vs Q E gu hr he hbt hv h => ?_⟩
  refine LamX.run_ofS (k := 3 * (k + 1) + 2) lk hcd scLaw hr he hbt hv (len vs H Q E h) fun hr => ?_
  obtain ⟨a, ns, rfl, hS, hl, hT, q⟩ := h
  have good : ∀ i : Addr × Addr × Addr × Hp, Rf.GoodS (Rf.tx_.ck Rf.N_law (defScope Rf.st_law) (Rf.tx_.lm Rf.ns_.length)) (cxOf (L2.CX P w) P w K mg base Rf.N_law "law" (defScope Rf.st_law) f cdv A outer s H E) ⟨lawL i.1 i.2.1 i.2.2.1 T, i.2.2.2, xi, fun cls d _ H => E cls d H⟩ ⟨(Rf.run Rf.pr_ fuel (k + 1)).1, (Rf.run Rf.pr_ fuel (k + 1)).2, .bad, Rf.pr_.gl, fuel⟩ (3 * (k + 1)) := fun i =>
    Rf.mf_good (f := Rf.ns_.length) (fa := f) (outer := outer) (s := s) (H := H) (B := i.2.2.2) (E := E) (M i.1 i.2.1 i.2.2.1) (Rf.run_ok (k + 1) (M i.1 i.2.1 i.2.2.1) hz).1 (Rf.run_ok (k + 1) (M i.1 i.2.1 i.2.2.1) hz).2 (N := Rf.N_law) (qual := "law") (scope := defScope Rf.st_law) (cdv := cdv) (lv := 3 * (k + 1)) (A := A)
      ⟨scLaw.nd, scLaw.kind, hr, gu, fun z => by rw [law_lm] at z; cases z⟩ Rf.act_none
  have g0 := (good (0, 0, 0, H)).toGood
  have rest := pss_ex fun i => Rf.sndSs Rf.b_law _ _ _ _ (3 * (k + 1)) _ (good i) law_ck
  refine ⟨_, pss_cons (ps_set (i := 1) scLaw.nd rfl (.inl rfl) (pe_callG g0.tk GB g0.gu (g0.room.mono (by omega)) (by rfl) gB FB.kp bB (pa_cons (pv 0) pa_nil))) rest, ?_⟩
  refine ⟨_, rfl, a, ns, rfl, hS, hl, fun S c l cells lefts H' hS' hl' hk h1 h2 h3 h4 h5 => ?_⟩
  have ok : OkN S c l T Rf.cost_law H' := ⟨0, cells, lefts, h1, h2, h3, h4, h5, by omega, hT.ext hk⟩
  refine ⟨(S, c, l, H'), stL (Rf.N_law.length - 2) Rf.cost_law, rel_law (by decide +kernel) ok, ?_⟩
  refine Rf.out_all (R := ⟨lawL S c l T, H', xi, fun cls d _ H => E cls d H⟩) plain (fun n h => by cases h) (fun c' n h H2 v e k' rv ow => ?_) (fun _ _ _ h => h.elim)
  have h : c' = .sh (.bool true) := h
  subst h
  cases rv
  exact q H2
end
end RfA
set_option Elab.async false
set_option linter.all false
set_option maxRecDepth 100000
set_option maxHeartbeats 2000000
/-! RfF: the end: a law whose promise holds where no repr is under way. -/
namespace RfA
open PySem PySem.Spec PyProof.Rows
open L2 hiding St

/-- the script's list and the empty tables, and nothing else, are tracked -/
def Trk (K : PySem.W.Frag) (a : Addr) (ob : Obj) (xs : List V) (ts : List Addr) (H : Hp) : Prop :=
  ∀ b, H b = none ∨ (b = a ∧ H b = some (.frz ob (.lst xs)) ∧ K.lookup a = none) ∨ (b ∈ ts ∧ H b = some (.tbl #[]))
section
variable {P : Program} {w : World} {K : PySem.W.Frag} {mg mb : Str → Option Value} {s1 : Shared} {a : Addr} {xs : List V} {ts : List Addr} {ob : Obj} {H : Hp}
theorem Trk.free (t : Trk K a ob xs ts H) (ha : s1.heap.get? a = some ob) (hd : ∃ its n, ob.data = .seq its n) (hT : ∀ b ∈ ts, s1.heap.get? b = some { cls := .none, data := .fields #[] }) {b : Addr} {o : Obj} (e : s1.heap.get? b = some o)
    (n1 : ∀ its n, o.data ≠ .seq its n) (n2 : o.data ≠ .fields #[]) : H b = none := by
  rcases t b with h | ⟨rfl, _, _⟩ | ⟨hb, _⟩
  · exact h
  · obtain ⟨its, n, q⟩ := hd
    rw [ha] at e
    cases e
    exact absurd q (n1 its n)
  · rw [hT b hb] at e
    cases e
    exact absurd rfl n2
theorem ns_hid {b : Addr} {m : Str → Option Value} (fr : ∀ {b : Addr} {o : Obj}, s1.heap.get? b = some o → (∀ its n, o.data ≠ .seq its n) → o.data ≠ .fields #[] → H b = none) (h : s1.heap.Ns b m) : (hidT s1.heap H).Ns b m := by
  obtain ⟨o, es, ep, e, d, r⟩ := h
  refine ⟨o, es, ep, hidT_get e (fr e (fun its n z => ?_) fun z => ?_), d, r⟩
  · rw [d] at z; cases z
  · rw [d] at z; cases z
theorem end_G {fa : Addr} {cs : List (Addr × Addr)} {fd : FuncData} {x : Str} {sp : Sp} {vs : List Value} {ns : List Int} {k : Nat}
    (KX : K.In s1.heap) (hns : s1.heap.Ns mainGlobals mg) (hb : s1.heap.Ns builtinsNs mb) (hbb : ∀ x : Str, x ≠ "__name__" → mb x = bootBuiltins x) (hlim : s1.heap.NoLimit) (hg : s1.gens = #[])
    (hT : ∀ p ∈ cs, s1.heap.get? p.2 = some { cls := .none, data := .fields #[] }) (nT : ∀ p ∈ cs, K.lookup p.2 = none) (C : ∀ p ∈ cs, PySem.W.CodeHd s1.heap p.1 p.2)
    (hbm : ∃ (bm : Addr) (ob : Obj), mg "__builtins__" = some (.ref bm) ∧ bm ≠ builtinsNs ∧ s1.heap.get? bm = some ob ∧ ob.cls = .type "module" ∧ ob.dict = some builtinsNs ∧ ob.data = .plain)
    (ha : s1.heap.get? a = some { cls := .type "list", data := .seq vs.toArray }) (hi : IntsAre vs ns) (hl : ns.length ≤ sizeLine) (hr : Room k callerA)
    (F : ∀ base : Heap, K.In base → base.Ns mainGlobals mg → (∀ p ∈ cs, LamX.TabB base mg p.1 p.2) → Rf.FnG P w K mg base k fa fd [x] sp) (hbind : ∀ (s : Shared) (u : Value), BindsTo s fd ⟨[u], []⟩ [(x, u)])
    (hsp : ∀ H : Hp, (∀ p ∈ cs, H p.2 = some (.tbl #[])) → SqL K H a (ns.map V.int) → sp [.ref a] H (fun v _ => v = .bl true) fun _ _ _ => False)
    (hCX : ∀ H e s', L2.CX P w [] H s1 (fun _ _ _ => False) e s' → False) :
    codeAny (model P w) callerA (.call (.ref fa) ⟨[.ref a], []⟩) (fun r s' => r = .ok (.ret (.bool true)) ∧ OldK s1.heap s'.heap ∧ s'.os = s1.os ∧ AllBare s'.gens) s1 := by
  have rv := vals_ints hi
  have lv := hi.length
  have inT : ∀ b ∈ cs.map (·.2), ∃ p ∈ cs, p.2 = b := fun b hb => let ⟨p, hp, e⟩ := List.mem_map.mp hb; ⟨p, hp, e⟩
  have isT : ∀ b ∈ cs.map (·.2), s1.heap.get? b = some { cls := .none, data := .fields #[] } := fun b hb => let ⟨p, hp, e⟩ := inT b hb; e ▸ hT p hp
  have aT : a ∉ cs.map (·.2) := fun z => by
    have q := (isT a z).symm.trans ha
    cases q
  -- what is tracked
  obtain ⟨H, tr, hH, hS⟩ : ∃ H : Hp, Trk K a { cls := .type "list", data := .seq vs.toArray } (ns.map V.int) (cs.map (·.2)) H ∧ (∀ p ∈ cs, H p.2 = some (.tbl #[])) ∧ SqL K H a (ns.map V.int) := by
    cases hk : K.lookup a with
    | none =>
      have at_ : (fun b => if b = a then some (HO.frz { cls := .type "list", data := .seq vs.toArray } (.lst (ns.map V.int))) else if b ∈ cs.map (·.2) then some (.tbl #[]) else none : Hp) a = some (.frz { cls := .type "list", data := .seq vs.toArray } (.lst (ns.map V.int))) := if_pos rfl
      refine ⟨fun b => if b = a then some (.frz { cls := .type "list", data := .seq vs.toArray } (.lst (ns.map V.int))) else if b ∈ cs.map (·.2) then some (.tbl #[]) else none, fun b => ?_, fun p hp => ?_, .inl (.inr ⟨_, at_⟩)⟩
      · by_cases h1 : b = a
        · exact .inr (.inl ⟨h1, if_pos h1, hk⟩)
        · by_cases h2 : b ∈ cs.map (·.2)
          · exact .inr (.inr ⟨h2, (if_neg h1).trans (if_pos h2)⟩)
          · exact .inl ((if_neg h1).trans (if_neg h2))
      · have m : p.2 ∈ cs.map (·.2) := List.mem_map.mpr ⟨p, hp, rfl⟩
        exact (if_neg (show ¬ p.2 = a from fun z => aT (by rw [← z]; exact m))).trans (if_pos m)
    | some o =>
      have e := (KX a o hk).symm.trans ha
      cases e
      refine ⟨fun b => if b ∈ cs.map (·.2) then some (.tbl #[]) else none, fun b => ?_, fun p hp => if_pos (List.mem_map.mpr ⟨p, hp, rfl⟩), .inr ⟨_, vs.toArray, _, hk, rfl, rfl, rfl, by rw [List.size_toArray, lv]; exact hl, by simpa using rv⟩⟩
      by_cases h2 : b ∈ cs.map (·.2)
      · exact .inr (.inr ⟨h2, if_pos h2⟩)
      · exact .inl (if_neg h2)
  have fr : ∀ {b : Addr} {o : Obj}, s1.heap.get? b = some o → (∀ its n, o.data ≠ .seq its n) → o.data ≠ .fields #[] → H b = none := fun e n1 n2 => tr.free ha ⟨_, _, rfl⟩ isT e n1 n2
  have ok : HOk P w H s1.heap := fun b u z => by
    rcases tr b with h | ⟨rfl, h, _⟩ | ⟨hb, h⟩
    · rw [h] at z; cases z
    · rw [h] at z
      cases z
      exact ⟨ha, by rw [List.length_map]; exact hl, vs, _, rv, ha⟩
    · rw [h] at z
      cases z
      exact isT b hb
  have hKb : K.In (hidT s1.heap H) := fun b o e => hidT_get (KX b o e) (by
    rcases tr b with h | ⟨rfl, _, hk⟩ | ⟨hb, _⟩
    · exact h
    · rw [hk] at e; cases e
    · obtain ⟨p, hp, ep⟩ := inT b hb
      rw [← ep, nT p hp] at e
      cases e)
  have hM : L2.Mod K mg (hidT s1.heap H) := ⟨hKb, ns_hid fr hns, ⟨mb, ns_hid fr hb, hbb⟩, let ⟨mc, h1, h2⟩ := hlim; ⟨mc, ns_hid fr h1, h2⟩⟩
  have TB : ∀ p ∈ cs, LamX.TabB (hidT s1.heap H) mg p.1 p.2 := fun p hp => by
    refine ⟨?_, ?_, fun z => ?_⟩
    · obtain ⟨o, us, file, tf, flags, tg, inF, text, tt, e1, r1, r2, r3, r⟩ := C p hp
      refine ⟨o, us, file, tf, flags, tg, inF, text, tt, hidT_get e1 (fr e1 (fun its n z => ?_) fun z => ?_), r1, r2, r3, r⟩
      · rw [r2] at z; cases z
      · rw [r2] at z
        cases z
        simp at r3
    · obtain ⟨bm, ob, b1, b2, b3, b4, b5, b6⟩ := hbm
      refine ⟨bm, ob, b1, b2, fun q => ?_, fun q => ?_, hidT_get b3 (fr b3 (fun its n z => ?_) fun z => ?_), b4, b5, b6⟩
      · obtain ⟨o, es, ep, e, hd, _⟩ := hns
        rw [q, e] at b3
        cases b3
        rw [hd] at b6
        cases b6
      · rw [q, hT p hp] at b3
        cases b3
        cases b6
      · rw [b6] at z; cases z
      · rw [b6] at z; cases z
    · obtain ⟨o, es, ep, e, hd, _⟩ := hns
      rw [z, hT p hp] at e
      cases e
      cases hd
  have e0 : Env0 P w K mg (hidT s1.heap H) callerA [] s1 H := ⟨rfl, hM, fun b o e => of_hidT e, Nat.le_of_eq (hidT_size _ _), trivial, fun b hb => absurd (show b ∈ ([] : List Addr) from hb) (by simp), ok, .of_eq hg⟩
  refine codeAny_mono ((F _ hKb (ns_hid fr hns) TB).run callerA [] s1 H ⟨[.ref a], []⟩ [.ref a] [.ref a] _ _ rfl hr e0 (hbind s1 (.ref a)) (.cons rfl .nil) (hsp H hH hS)) fun r s' h => ?_
  match r, h with
  | .error e, h => exact (hCX H e s' h).elim
  | .ok .next, h => exact False.elim h
  | .ok .brk, h => exact False.elim h
  | .ok .cont, h => exact False.elim h
  | .ok (.ret u), h =>
    obtain ⟨v, H', os, bare, un, ok', r', q⟩ := h
    have q : v = .bl true := q
    subst q
    have r' : u = .bool true := r'
    subst r'
    have same : ∀ b o, b ∉ cs.map (·.2) → s1.heap.get? b = some o → s'.heap.get? b = some o := fun b o nb e => by
      rcases tr b with h | ⟨rfl, h, _⟩ | ⟨hb, _⟩
      · exact un.keep b o e h (by intro z; exact absurd (show b ∈ ([] : List Addr) from z) (by simp)) (by simp)
      · obtain ⟨e1, _⟩ := ok b _ h
        obtain ⟨e2, _⟩ := ok' b _ (un.frzs b _ _ h)
        rw [e] at e1
        cases e1
        exact e2
      · exact absurd hb nb
    have grew : ∀ p ∈ cs, ∃ more : Array Value, s'.heap.get? p.2 = some { cls := .none, data := .fields more } := fun p hp => by
      obtain ⟨more, z⟩ := un.tbls p.2 #[] (hH p hp)
      exact ⟨_, ok' p.2 _ z⟩
    refine ⟨rfl, ⟨fun b o e => ?_, fun b o e => ?_⟩, os, bare⟩
    · by_cases hb : b ∈ cs.map (·.2)
      · obtain ⟨p, hp, ep⟩ := inT b hb
        subst ep
        obtain ⟨more, hm⟩ := grew p hp
        rw [hT p hp] at e
        cases e
        exact .inr (.inl ⟨((C p hp).tab (hT p hp)).isCodeTable, rfl, #[], more, rfl, by rw [Array.empty_append]; exact hm⟩)
      · exact .inl (same b o hb e)
    · by_cases hb : b ∈ cs.map (·.2)
      · obtain ⟨p, hp, ep⟩ := inT b hb
        subst ep
        obtain ⟨more, hm⟩ := grew p hp
        exact ⟨_, hm⟩
      · exact ⟨o, same b o hb e⟩
end
end RfA
set_option Elab.async false
set_option linter.all false
set_option maxRecDepth 100000
set_option maxHeartbeats 2000000
/-! RfE: what the head's heap says of the module, as Bools. -/
namespace RfA
open PySem PySem.Spec PyProof.Rows
open L2 hiding St

abbrev Fg := PySem.W.Frag
def gv (K : Fg) (n : Str) : Option (Option Value) := PySem.W.nsIn K mainGlobals n
/-! ### constants -/
mutual
def datB (K : Fg) : PyData → Value → Bool
  | .none, u => (match u with | .none => true | _ => false)
  | .bool b, u => (match u with | .bool c => b == c | _ => false)
  | .int i, u => (match u with | .int j _ => decide (i = j) | _ => false)
  | .str x, u => (match u with | .str y _ => decide (x = y) | _ => false)
  | .tuple ds, u => (match u with
    | .ref a => (match K.lookup a with
      | some ⟨.type t, _, .seq its _, _⟩ => decide (t = "tuple") && (decide (its.size ≤ sizeLine) && datsB K ds its.toList)
      | _ => false)
    | _ => false)
  | .list _, _ => false
  | .dict _, _ => false
def datsB (K : Fg) : List PyData → List Value → Bool
  | [], us => us.isEmpty
  | d :: ds, us => (match us with
    | u :: us => datB K d u && datsB K ds us
    | [] => false)
end
mutual
theorem datB_ok {K : Fg} : ∀ (d : PyData) (u : Value), datB K d u = true → ∃ v, RelV v u ∧ ∀ H, Rf.DF K H v d
  | .none, u, h => by
    unfold datB at h
    split at h
    · exact ⟨.non, rfl, fun _ => .non⟩
    · cases h
  | .bool b, u, h => by
    unfold datB at h
    split at h
    · have e := eq_of_beq h
      subst e
      exact ⟨.bl b, rfl, fun _ => .bl b⟩
    · cases h
  | .int i, u, h => by
    unfold datB at h
    split at h
    · have e := of_decide_eq_true h
      subst e
      exact ⟨.int i, ⟨_, rfl⟩, fun _ => .int i⟩
    · cases h
  | .str x, u, h => by
    unfold datB at h
    split at h
    · have e := of_decide_eq_true h
      subst e
      exact ⟨.str x, ⟨_, rfl⟩, fun _ => .str x⟩
    · cases h
  | .tuple ds, u, h => by
    unfold datB at h
    split at h
    · split at h
      · rename_i a xx t dd its n sl q
        obtain ⟨h1, h2⟩ := Bool.and_eq_true_iff.mp h
        obtain ⟨h3, h4⟩ := Bool.and_eq_true_iff.mp h2
        obtain ⟨vs, r, g⟩ := datsB_ok ds _ h4
        exact ⟨.ref a, rfl, fun H => .tup (.inr ⟨_, its, n, q, congrArg Value.type (of_decide_eq_true h1), rfl, of_decide_eq_true h3, r⟩) (g H)⟩
      · cases h
    · cases h
  | .list _, u, h => by unfold datB at h; cases h
  | .dict _, u, h => by unfold datB at h; cases h
theorem datsB_ok {K : Fg} : ∀ (ds : List PyData) (us : List Value), datsB K ds us = true → ∃ vs, Vals vs us ∧ ∀ H, Rf.DFs K H vs ds
  | [], us, h => by
    unfold datsB at h
    cases us with
    | nil => exact ⟨[], .nil, fun _ => .nil⟩
    | cons _ _ => cases h
  | d :: ds, us, h => by
    unfold datsB at h
    cases us with
    | nil => cases h
    | cons u us =>
      obtain ⟨h1, h2⟩ := Bool.and_eq_true_iff.mp h
      obtain ⟨v, r, g⟩ := datB_ok d u h1
      obtain ⟨vs, rs, gs⟩ := datsB_ok ds us h2
      exact ⟨v :: vs, .cons r rs, fun H => .cons (g H) (gs H)⟩
end
/-! ### own errors -/
def initAd (K : Fg) (n : Str) : Addr := He.ma K (He.ga K n) "__init__"
def excB (K : Fg) (D : Addr) : Bool := decide (PySem.W.findIn K (.ref D) "__getattribute__" = some (some (.builtin "BaseException.__getattribute__"))) && (decide (PySem.W.findIn K (.ref D) "__getattr__" = some none) && (decide (PySem.W.subIn K (.ref D) (.type "BaseException") = some true) && (PySem.W.hasDictIn K D &&
  (decide (PySem.W.findIn K (.ref D) "__class__" = some (some (.builtin "object.__class__"))) && (decide (PySem.W.specialIn K (.builtin "object.__class__") "__get__" = some (some (.builtin "getset_descriptor.__get__"))) && (decide (PySem.W.takesIn K (.builtin "object.__class__") = some true) && decide (PySem.W.mroIn K D (.type "object") = some true)))))))
theorem and_ {a b : Bool} (h : (a && b) = true) : a = true ∧ b = true := Bool.and_eq_true_iff.mp h
theorem excB_ok {K : Fg} {D : Addr} (h : excB K D = true) : ExcC K D := by
  obtain ⟨h1, h⟩ := and_ h
  obtain ⟨h2, h⟩ := and_ h
  obtain ⟨h3, h⟩ := and_ h
  obtain ⟨h4, h⟩ := and_ h
  obtain ⟨h5, h⟩ := and_ h
  obtain ⟨h6, h⟩ := and_ h
  obtain ⟨h7, h8⟩ := and_ h
  exact ⟨of_decide_eq_true h1, of_decide_eq_true h2, of_decide_eq_true h3, h4, of_decide_eq_true h5, of_decide_eq_true h6, of_decide_eq_true h7, of_decide_eq_true h8⟩
def clsShape (K : Fg) (C : Addr) : Bool := match K.lookup C with
  | some ⟨.type t, _, .cls cd, sl⟩ => (match cd.mro, sl.toList with
    | .ref C' :: bm, [_, _, _, _, some (.builtin n), _] => decide (t = "type") && (decide (C' = C) && (decide (n = "ValueError.__new__") && (!cd.hasDel && (cd.hasDict && HandSPX.refsVE bm))))
    | _, _ => false)
  | _ => false
theorem clsShape_ok {K : Fg} {C : Addr} (h : clsShape K C = true) : ∃ nm q N bs bm sn sub ab col dd k0 k1 k2 k3 k5, K.lookup C = some (excClassObj nm q C N bs bm true sn sub ab col dd k0 k1 k2 k3 k5 "ValueError.__new__") ∧ HandSPX.refsVE bm = true := by
  unfold clsShape at h
  split at h
  · rename_i t dd cd sl ho
    split at h
    · rename_i C' bm k0 k1 k2 k3 n k5 hm hs
      obtain ⟨e1, h⟩ := and_ h
      obtain ⟨e2, h⟩ := and_ h
      obtain ⟨e3, h⟩ := and_ h
      obtain ⟨e4, h⟩ := and_ h
      obtain ⟨e5, e6⟩ := and_ h
      have e1 := of_decide_eq_true e1
      have e2 := of_decide_eq_true e2
      have e3 := of_decide_eq_true e3
      subst e1 e2 e3
      obtain ⟨nm, bs, mro, ns, qn, hd, sn, sub, ab, col, del⟩ := cd
      dsimp only at hm e4 e5
      have e4 : del = false := by simpa using e4
      subst hm e4 e5
      have hsl : sl = #[k0, k1, k2, k3, some (.builtin "ValueError.__new__"), k5] := by
        obtain ⟨l⟩ := sl
        simp only at hs
        rw [hs]
      subst hsl
      exact ⟨_, _, _, _, _, _, _, _, _, _, _, _, _, _, _, ho, e6⟩
    · cases h
  · cases h
def initShape (P : Program) (K : Fg) (C fI : Addr) : Bool := match K.lookup fI with
  | some ⟨_, _, .func fd, _⟩ => PySem.W.codeIn K fd.code fd.qualname && (decide (fd.globals = mainGlobals) && (decide (fd.builtins = builtinsNs) && ((match fd.defaults with | .none => true | _ => false) && ((match fd.closure with
    | [(n, cc)] => decide (n = PySem.Str.ofString "__class__") && (match K.lookup cc with
      | some ⟨_, _, .cell (some (.ref C')), _⟩ => decide (C' = C)
      | _ => false)
    | _ => false) && (match fd.code with
    | .ref cda => (match K.lookup cda with
      | some ⟨_, _, .fields vs, _⟩ => (match (vs[2]? : Option Value) with
        | some (.str file _) => ((P.main.file : Str) == file)
        | _ => false)
      | _ => false)
    | _ => false)))))
  | _ => false
/-- what the __init__'s text says -/
def InitVal : Type := Option (Arguments × FuncBody × Scope)
def initObs (K : Fg) (n : Str) : InitVal := match K.lookup (initAd K n) with
  | some ⟨_, _, .func fd, _⟩ => some (fd.params, fd.body, fd.scope)
  | _ => none
def initVal (p : Str × List Str × Stmt) : InitVal := some (defArgs p.2.2, .stmts (defBody p.2.2), RfX.iS p.2.1)
/-- super().__init__(f ..); self.f = f .. -/
def bodyB (fs : List Str) (b : List Stmt) : Bool := match fs, b with
  | [f], [.Expr (.Call (.Attribute (.Call (.Name s _) [] [] _) i p2) [.Name g _] [] p3) _, .Assign [.Attribute (.Name se _) h _] (.Name k _) _] =>
    decide (s = "super") && (decide (i = "__init__") && (decide (g = f) && (decide (se = "self") && (decide (h = f) && (decide (k = f) && (p2.endLine == p3.line))))))
  | [f, f2], [.Expr (.Call (.Attribute (.Call (.Name s _) [] [] _) i p2) [.Name g _, .Name g2 _] [] p3) _, .Assign [.Attribute (.Name se _) h _] (.Name k _) _, .Assign [.Attribute (.Name se2 _) h2 _] (.Name k2 _) _] =>
    decide (s = "super") && (decide (i = "__init__") && (decide (g = f) && (decide (se = "self") && (decide (h = f) && (decide (k = f) && ((p2.endLine == p3.line) && (decide (g2 = f2) && (decide (se2 = "self") && (decide (h2 = f2) && decide (k2 = f2))))))))))
  | _, _ => false
theorem bodyB_ok {fs : List Str} {b : List Stmt} {fd : FuncData} (hb : fd.body = .stmts b) (h : bodyB fs b = true) : RfX.BodyX fd fs := by
  unfold bodyB at h
  split at h
  · obtain ⟨e1, h⟩ := and_ h
    obtain ⟨e2, h⟩ := and_ h
    obtain ⟨e3, h⟩ := and_ h
    obtain ⟨e4, h⟩ := and_ h
    obtain ⟨e5, h⟩ := and_ h
    obtain ⟨e6, e7⟩ := and_ h
    have e1 := of_decide_eq_true e1
    have e2 := of_decide_eq_true e2
    have e3 := of_decide_eq_true e3
    have e4 := of_decide_eq_true e4
    have e5 := of_decide_eq_true e5
    have e6 := of_decide_eq_true e6
    subst e1 e2 e3 e4 e5 e6
    exact .one hb e7
  · obtain ⟨e1, h⟩ := and_ h
    obtain ⟨e2, h⟩ := and_ h
    obtain ⟨e3, h⟩ := and_ h
    obtain ⟨e4, h⟩ := and_ h
    obtain ⟨e5, h⟩ := and_ h
    obtain ⟨e6, h⟩ := and_ h
    obtain ⟨e7, h⟩ := and_ h
    obtain ⟨e8, h⟩ := and_ h
    obtain ⟨e9, h⟩ := and_ h
    obtain ⟨e10, e11⟩ := and_ h
    have e1 := of_decide_eq_true e1
    have e2 := of_decide_eq_true e2
    have e3 := of_decide_eq_true e3
    have e4 := of_decide_eq_true e4
    have e5 := of_decide_eq_true e5
    have e6 := of_decide_eq_true e6
    have e8 := of_decide_eq_true e8
    have e9 := of_decide_eq_true e9
    have e10 := of_decide_eq_true e10
    have e11 := of_decide_eq_true e11
    subst e1 e2 e3 e4 e5 e6 e8 e9 e10 e11
    exact .two hb e7
  · cases h
/-- what the text alone must say of an error class's __init__ -/
def txtB (P : Program) (fs : List Str) (st : Stmt) : Bool := Rf.argsB (defArgs st) (PySem.Str.ofString "self" :: fs) && (bodyB fs (defBody st) && (decide (PySem.Str.ofString "self" :: fs).Nodup && (decide ((RfX.iS fs).names.lookup ("super" : Str) = some .globalImplicit) && (decide ((RfX.iS fs).names.lookup ("__class__" : Str) = some .free) &&
  ((PySem.Str.ofString "self" :: fs).all (fun f => decide ((RfX.iS fs).names.lookup f = some .local)) && (fs.all (fun f => !(f == ("__debug__" : Str))) && (!(P.main.scope.names.lookup ("super" : Str)).isSome && decide (fs.length ≤ 1000))))))))
def ownB (P : Program) (K : Fg) (n : Str) (fs : List Str) : Bool := clsShape K (He.ga K n) && (decide (PySem.W.findIn K (.ref (He.ga K n)) "__setattr__" = some (some (.builtin "object.__setattr__"))) && (fs.all (fun f => decide (PySem.W.findIn K (.ref (He.ga K n)) f = some none)) && (decide (PySem.W.findIn K (.ref (He.ga K n)) "__init__" = some (some (.ref (initAd K n)))) &&
  (decide (PySem.W.typeIn K (.ref (initAd K n)) = some (.type "function")) && (decide (PySem.W.ks_superIn K (He.ga K n) (He.ga K n) "__init__" = some (some (.builtin "ValueError.__init__"))) && (decide (PySem.W.subIn K (.ref (He.ga K n)) (.type "ValueError") = some true) && (decide (PySem.W.mroIn K (He.ga K n) (.ref (He.ga K n)) = some true) &&
  (decide (PySem.W.nsIn K cStatics "thirdparty.any" = some none) && (initShape P K (He.ga K n) (initAd K n) && (PySem.W.keepIn K (.ref (He.ga K n)) && (decide (PySem.W.subIn K (.ref (He.ga K n)) (.type "BaseException") = some true) && decide (PySem.W.typeIn K (.ref (He.ga K n)) = some (.type "type")))))))))))))
theorem own_ok {P : Program} {K : Fg} {p : Str × List Str × Stmt} (ho : ownB P K p.1 p.2.1 = true) (ht : txtB P p.2.1 p.2.2 = true) (hi : initObs K p.1 = initVal p) :
    (PySem.W.keepIn K (.ref (He.ga K p.1)) = true ∧ PySem.W.subIn K (.ref (He.ga K p.1)) (.type "BaseException") = some true ∧ PySem.W.typeIn K (.ref (He.ga K p.1)) = some (.type "type") ∧ ∃ fI fd, RfX.OwnX P K (He.ga K p.1) fI p.2.1 fd ∧ RfX.BodyX fd p.2.1) ∧ p.2.1.length ≤ 1000 := by
  obtain ⟨n, fs, st⟩ := p
  dsimp only at ho ht hi ⊢
  obtain ⟨c1, h⟩ := and_ ho
  obtain ⟨c2, h⟩ := and_ h
  obtain ⟨c3, h⟩ := and_ h
  obtain ⟨c4, h⟩ := and_ h
  obtain ⟨c5, h⟩ := and_ h
  obtain ⟨c6, h⟩ := and_ h
  obtain ⟨c7, h⟩ := and_ h
  obtain ⟨c8, h⟩ := and_ h
  obtain ⟨c9, h⟩ := and_ h
  obtain ⟨c10, h⟩ := and_ h
  obtain ⟨c11, h⟩ := and_ h
  obtain ⟨c12, c13⟩ := and_ h
  obtain ⟨t1, h⟩ := and_ ht
  obtain ⟨t2, h⟩ := and_ h
  obtain ⟨t3, h⟩ := and_ h
  obtain ⟨t4, h⟩ := and_ h
  obtain ⟨t5, h⟩ := and_ h
  obtain ⟨t6, h⟩ := and_ h
  obtain ⟨t7, h⟩ := and_ h
  obtain ⟨t8, t9⟩ := and_ h
  refine ⟨⟨c11, of_decide_eq_true c12, of_decide_eq_true c13, initAd K n, ?_⟩, of_decide_eq_true t9⟩
  unfold initShape at c10
  unfold initObs initVal at hi
  cases q : K.lookup (initAd K n) with
  | none => rw [q] at c10; cases c10
  | some o =>
    obtain ⟨oc, od, dt, osl⟩ := o
    rw [q] at c10 hi
    cases dt with
    | func fd =>
      have hi : some (fd.params, fd.body, fd.scope) = some (defArgs st, FuncBody.stmts (defBody st), RfX.iS fs) := hi
      simp only [Option.some.injEq, Prod.mk.injEq] at hi
      obtain ⟨i1, i2, i3⟩ := hi
      obtain ⟨d1, h⟩ := and_ c10
      obtain ⟨d2, h⟩ := and_ h
      obtain ⟨d3, h⟩ := and_ h
      obtain ⟨d4, h⟩ := and_ h
      obtain ⟨d5, d6⟩ := and_ h
      refine ⟨fd, ?_, bodyB_ok i2 t2⟩
      have par : RfX.PlainPar fd (PySem.Str.ofString "self" :: fs) := by
        unfold Rf.argsB at t1
        obtain ⟨a, a5⟩ := and_ t1
        obtain ⟨a, a4⟩ := and_ a
        obtain ⟨a, a3⟩ := and_ a
        obtain ⟨a1, a2⟩ := and_ a
        refine ⟨by rw [i1]; exact List.isEmpty_iff.mp a1, by rw [i1]; exact beq_iff_eq.mp a5, by rw [i1]; exact Option.isNone_iff_eq_none.mp a2, by rw [i1]; exact List.isEmpty_iff.mp a3, by rw [i1]; exact Option.isNone_iff_eq_none.mp a4, ?_⟩
        split at d4
        · assumption
        · cases d4
      have clo : ∃ cc cl cld csl, fd.closure = [(PySem.Str.ofString "__class__", cc)] ∧ K.lookup cc = some ⟨cl, cld, .cell (some (.ref (He.ga K n))), csl⟩ := by
        split at d5
        · rename_i nn cc hcl
          obtain ⟨z1, z2⟩ := and_ d5
          have z1 := of_decide_eq_true z1
          subst z1
          split at z2
          · rename_i cl cld C' csl hl
            have z2 := of_decide_eq_true z2
            subst z2
            exact ⟨cc, cl, cld, csl, hcl, hl⟩
          · cases z2
        · cases d5
      have file : ∃ cda ccl cdd vs ccs tf file, fd.code = .ref cda ∧ K.lookup cda = some ⟨ccl, cdd, .fields vs, ccs⟩ ∧ vs[2]? = some (.str file tf) ∧ ((P.main.file : Str) == file) = true := by
        split at d6
        · rename_i cda hcd
          split at d6
          · rename_i ccl cdd vs ccs hl
            split at d6
            · rename_i file tf hf
              exact ⟨cda, ccl, cdd, vs, ccs, tf, file, hcd, hl, hf, d6⟩
            · cases d6
          · cases d6
        · cases d6
      exact { cls := clsShape_ok c1, sa := of_decide_eq_true c2, noN := fun f hf => of_decide_eq_true (List.all_eq_true.mp c3 f hf), iC := of_decide_eq_true c4, tC := of_decide_eq_true c5, sup := of_decide_eq_true c6, ve := of_decide_eq_true c7, self := of_decide_eq_true c8, tp := of_decide_eq_true c9,
              fn := ⟨oc, od, osl, q⟩, code := d1, glob := of_decide_eq_true d2, blt := of_decide_eq_true d3, clo := clo, file := file, top := by simpa using t8, sc := i3, par := par, nd := of_decide_eq_true t3, ks := of_decide_eq_true t4, kc := of_decide_eq_true t5,
              kf := fun f hf => of_decide_eq_true (List.all_eq_true.mp t6 f hf), dbg := fun f hf => by
                have := List.all_eq_true.mp t7 f hf
                simpa using this }
    | _ => cases c10
end RfA
set_option Elab.async false
set_option linter.all false
set_option maxRecDepth 100000
set_option maxHeartbeats 2000000
/-! RfG: the Hook, and what it says: the module as the frames want it. -/
namespace RfA
open PySem PySem.Spec PyProof.Rows
open L2 hiding St

def defD (p : Str × Stmt) : He.DefD := ⟨(p.1, none), p.1, p.1, defArgs p.2, defBody p.2, defScope p.2, [], []⟩
/-- the defs: the module's, the law's own three -/
def fnP : List (Str × Stmt) := Rf.ns_.zip Rf.sts_ ++ [(Str.ofString "_law_mixed", Rf.st_law_mixed), (Str.ofString "_law_begin", Rf.st_law_begin), (Str.ofString "law", Rf.st_law)]
def fnL : List He.DefD := fnP.map defD
def xiOf (K : Fg) : Rf.XI := ⟨Rf.exs_.length, fun x => He.ga K (Rf.exs_.getD x Str.empty), fun x => Rf.flds_.getD x []⟩
def xfAll (K : Fg) : Bool := (List.range Rf.exs_.length).all fun x => (List.range Rf.exs_.length).all (fun y => decide (PySem.W.exmOne K (.ref ((xiOf K).cls x)) (.ref ((xiOf K).cls y)) = some (Rf.subC x y)) && decide (PySem.W.kitOne K (.ref ((xiOf K).cls x)) (.ref ((xiOf K).cls y)) = some (Rf.subC x y))) &&
  ((PySem.W.clsIn K ((xiOf K).cls x)).isSome && (xfB K ((xiOf K).cls x) && (excB K ((xiOf K).cls x) && ((xiOf K).fld x).all fun f => decide (PySem.W.findIn K (.ref ((xiOf K).cls x)) f = some none))))
def tabK (K : Fg) (p : Str × Option Str) : Addr := (He.cT K p).2
/-- all that is asked of the head's heap -/
def exB (P : Program) (K : Fg) : Bool := Rf.bltN.all (fun n => decide (gv K n = some none)) && (decide (gv K "gcd" = some (some (.builtin "math.gcd"))) && ((!Rf.tx_.cm || decide (gv K "combinations" = some (some (.type Rf.CB)))) && (decide (gv K "super" = some none) &&
  (fnP.all (fun p => decide (gv K p.1 = some (some (.ref (He.ga K p.1))))) && (Rf.exs_.all (fun n => decide (gv K n = some (some (.ref (He.ga K n))))) && ((Rf.gls_.zip Rf.gl_).all (fun p => match gv K p.1 with
    | some (some u) => datB K p.2 u
    | _ => false) && (xfAll K && (Rf.inits_.all (fun p => ownB P K p.1 p.2.1) && Rf.tf_.all (fun p => Rf.tf_.all fun q => !decide (tabK K p = tabK K q) || decide (p = q))))))))))
abbrev AlY : Type := (Bool × List He.FnW) × List InitVal
def obsK (P : Program) (g : Addr → Option Obj) (K : Fg) : AlY := (((fnL.all fun d => d.ok K) && (exB P K && He.tabsB g Rf.tf_ K), fnL.map fun d => He.fnW K d.at_), Rf.inits_.map fun p => initObs K p.1)
def valY : AlY := ((true, fnL.map He.DefD.val), Rf.inits_.map initVal)
/-- what an object leads to: a namespace, a function's code and cells, a class's namespace and bases, a tuple's things -/
def stepA (g : Addr → Option Obj) (a : Addr) : List Addr := match g a with
  | some o => (match o.data with
    | .dict es _ => es.toList.flatMap fun e => He.refV e.val
    | .func fd => He.refV fd.code ++ fd.closure.map (·.2)
    | .cls cd => cd.ns :: cd.mro.flatMap He.refV
    | .seq its _ => its.toList.flatMap He.refV
    | _ => [])
  | none => []
def lvls (g : Addr → Option Obj) : Nat → List Addr → List Addr
  | 0, l => l
  | n + 1, l => l ++ lvls g n (l.flatMap (stepA g))
def frY (n : Nat) (g : Addr → Option Obj) : Fg := He.frT g (cStatics :: lvls g n [mainGlobals])
structure SaysY (P : Program) (h : Heap) (K : Fg) : Prop where
  ok : ∀ d ∈ fnL, d.ok K = true
  fn : ∀ d ∈ fnL, He.fnW K d.at_ = d.val
  ex : exB P K = true
  ini : ∀ p ∈ Rf.inits_, initObs K p.1 = initVal p
  hd : ∀ p ∈ Rf.tf_, PySem.W.codeHdIn K (He.cT K p).1 (He.cT K p).2 = true
  out : ∀ p ∈ Rf.tf_, K.lookup (He.cT K p).2 = none
  empty : ∀ p ∈ Rf.tf_, h.get? (He.cT K p).2 = some { cls := .none, data := .fields #[] }
theorem map_at {α β : Type} {f g : α → β} : ∀ {l : List α}, l.map f = l.map g → ∀ a ∈ l, f a = g a
  | [], _, a, h => by cases h
  | b :: l, e, a, h => by
    rw [List.map_cons, List.map_cons] at e
    obtain ⟨e1, e2⟩ := List.cons.inj e
    rcases List.mem_cons.mp h with rfl | h
    · exact e1
    · exact map_at e2 a h
theorem saysY_of {P : Program} {n : Nat} {h : Heap} (e : obsK P h.get? (frY n h.get?) = valY) : SaysY P h (frY n h.get?) := by
  have e1 : ((fnL.all fun d => d.ok (frY n h.get?)) && (exB P (frY n h.get?) && He.tabsB h.get? Rf.tf_ (frY n h.get?))) = true := congrArg (fun z : AlY => z.1.1) e
  have e2 : (fnL.map fun d => He.fnW (frY n h.get?) d.at_) = fnL.map He.DefD.val := congrArg (fun z : AlY => z.1.2) e
  have e3 : (Rf.inits_.map fun p => initObs (frY n h.get?) p.1) = Rf.inits_.map initVal := congrArg (fun z : AlY => z.2) e
  obtain ⟨h1, h2⟩ := and_ e1
  obtain ⟨h2, h3⟩ := and_ h2
  have key : ∀ p ∈ Rf.tf_, PySem.W.codeHdIn (frY n h.get?) (He.cT (frY n h.get?) p).1 (He.cT (frY n h.get?) p).2 = true ∧ ∃ o, h.get? (He.cT (frY n h.get?) p).2 = some o ∧ He.emptyTab o = true := fun p hp => by
    obtain ⟨k1, k2⟩ := and_ (List.all_eq_true.mp h3 p hp)
    refine ⟨k1, ?_⟩
    cases q : h.get? (He.cT (frY n h.get?) p).2 with
    | none => rw [q] at k2; cases k2
    | some o => rw [q] at k2; exact ⟨o, rfl, k2⟩
  refine ⟨fun d hd => List.all_eq_true.mp h1 d hd, map_at e2, h2, map_at e3, fun p hp => (key p hp).1, fun p hp => ?_, fun p hp => ?_⟩
  · obtain ⟨_, o, q, z⟩ := key p hp
    exact He.frT_none q z
  · obtain ⟨_, o, q, z⟩ := key p hp
    rw [q, He.emptyTab_eq z]
def hookY (P : Program) (n : Nat) : PySem.W.Hook where
  α := AlY
  obs := fun s => obsK P s.heap.get? (frY n s.heap.get?)
  val := fun _ => valY
  says := fun _ h => ∃ K : Fg, K.In h ∧ SaysY P h K
  of := fun _ _ e => ⟨_, He.frT_in, saysY_of e⟩
  keeps := fun _ _ _ ⟨K, hK, c⟩ k => ⟨K, PySem.W.Frag.In.keeps hK k, ⟨c.ok, c.fn, c.ex, c.ini, c.hd, c.out, fun p hp => k _ _ (c.empty p hp)⟩⟩
def obY (P : Program) (n : Nat) (s : PySem.W.SharedT) (g : Addr → Option Obj) : AlY := obsK P g (frY n g)
theorem obY_eq {P : Program} {n : Nat} {g : Addr → Option Obj} {s : Shared} (h : ∀ a, g a = s.heap.get? a) : obsK P g (frY n g) = (hookY P n).obs s := by
  have e : g = s.heap.get? := funext h
  rw [e]
  rfl
/-! ### from what is said -/
section
variable {P : Program} {h : Heap} {K : Fg}
theorem SaysY.fun_ (c : SaysY P h K) {p : Str × Stmt} (hp : p ∈ fnP) : ∃ fd, Fun K p.1 p.1 p.2 (He.ga K p.1) fd := by
  have hd : defD p ∈ fnL := List.mem_map.mpr ⟨p, hp, rfl⟩
  obtain ⟨fd, F⟩ := He.DefD.funD (c.fn _ hd) (c.ok _ hd)
  obtain ⟨oc, od, dV, kV, doc, pm, an, cdv, ct, osl, e1, e2, e3, e4, e5⟩ := F.ex
  have e4 : dV = .none := by
    rcases e4 with ⟨_, z⟩ | ⟨z, _⟩
    · exact z
    · exact absurd rfl z
  subst e4
  exact ⟨fd, ⟨oc, od, kV, doc, pm, an, cdv, ct, osl, e1, e2, e3⟩, F.kp⟩
structure Ex (P : Program) (K : Fg) : Prop where
  blt : ∀ n ∈ Rf.bltN, gv K n = some none
  gcd : gv K "gcd" = some (some (.builtin "math.gcd"))
  cmb : Rf.tx_.cm = true → gv K "combinations" = some (some (.type Rf.CB))
  sup : gv K "super" = some none
  fns : ∀ p ∈ fnP, gv K p.1 = some (some (.ref (He.ga K p.1)))
  exs : ∀ n ∈ Rf.exs_, gv K n = some (some (.ref (He.ga K n)))
  gls : ∀ p ∈ Rf.gls_.zip Rf.gl_, ∃ u, gv K p.1 = some (some u) ∧ datB K p.2 u = true
  xf : xfAll K = true
  own : ∀ p ∈ Rf.inits_, ownB P K p.1 p.2.1 = true
  tab : ∀ p ∈ Rf.tf_, ∀ q ∈ Rf.tf_, tabK K p = tabK K q → p = q
theorem ex_ok (e : exB P K = true) : Ex P K := by
  obtain ⟨c1, e⟩ := and_ e
  obtain ⟨c2, e⟩ := and_ e
  obtain ⟨c3, e⟩ := and_ e
  obtain ⟨c4, e⟩ := and_ e
  obtain ⟨c5, e⟩ := and_ e
  obtain ⟨c6, e⟩ := and_ e
  obtain ⟨c7, e⟩ := and_ e
  obtain ⟨c8, e⟩ := and_ e
  obtain ⟨c9, c10⟩ := and_ e
  refine ⟨fun n hn => of_decide_eq_true (List.all_eq_true.mp c1 n hn), of_decide_eq_true c2, fun z => ?_, of_decide_eq_true c4, fun p hp => of_decide_eq_true (List.all_eq_true.mp c5 p hp), fun n hn => of_decide_eq_true (List.all_eq_true.mp c6 n hn), fun p hp => ?_, c8, fun p hp => List.all_eq_true.mp c9 p hp, fun p hp q hq z => ?_⟩
  · rw [z] at c3
    exact of_decide_eq_true (by simpa using c3)
  · have := List.all_eq_true.mp c7 p hp
    split at this
    · rename_i u hu
      exact ⟨u, hu, this⟩
    · cases this
  · have := List.all_eq_true.mp (List.all_eq_true.mp c10 p hp) q hq
    rw [Bool.or_eq_true] at this
    rcases this with k | k
    · rw [decide_eq_true z] at k; cases k
    · exact of_decide_eq_true k
theorem xf_ok (e : xfAll K = true) : Rf.XF K (xiOf K) := by
  have key : ∀ x, x < (xiOf K).num → ((List.range Rf.exs_.length).all (fun y => decide (PySem.W.exmOne K (.ref ((xiOf K).cls x)) (.ref ((xiOf K).cls y)) = some (Rf.subC x y)) && decide (PySem.W.kitOne K (.ref ((xiOf K).cls x)) (.ref ((xiOf K).cls y)) = some (Rf.subC x y))) = true) ∧
      (PySem.W.clsIn K ((xiOf K).cls x)).isSome = true ∧ xfB K ((xiOf K).cls x) = true ∧ excB K ((xiOf K).cls x) = true ∧ (((xiOf K).fld x).all fun f => decide (PySem.W.findIn K (.ref ((xiOf K).cls x)) f = some none)) = true := fun x hx => by
    obtain ⟨a1, a⟩ := and_ (List.all_eq_true.mp e x (List.mem_range.mpr hx))
    obtain ⟨a2, a⟩ := and_ a
    obtain ⟨a3, a⟩ := and_ a
    obtain ⟨a4, a5⟩ := and_ a
    exact ⟨a1, a2, a3, a4, a5⟩
  exact ⟨fun x y hx hy => of_decide_eq_true (and_ (List.all_eq_true.mp (key x hx).1 y (List.mem_range.mpr hy))).1, fun x y hx hy => of_decide_eq_true (and_ (List.all_eq_true.mp (key x hx).1 y (List.mem_range.mpr hy))).2, fun x hx => (key x hx).2.1, fun x hx => xfB_ok (key x hx).2.2.1, fun x hx => excB_ok (key x hx).2.2.2.1,
    fun x hx f hf => of_decide_eq_true (List.all_eq_true.mp (key x hx).2.2.2.2 f hf)⟩
end
end RfA
set_option Elab.async false
set_option linter.all false
set_option maxRecDepth 100000
set_option maxHeartbeats 2000000
/-! RfH: the module's facts for the frames; the walk of the law. -/
namespace RfA
open PySem PySem.Spec PyProof.Rows
open L2 hiding St

/-! ### what the text says, by the kernel -/
theorem st_draw : Rf.ns_[Rf.ixDraw]? = some (Str.ofString "_law_draw") ∧ Rf.pars_[Rf.ixDraw]? = some [Str.ofString "state_so", Str.ofString "limit"] := by decide +kernel
theorem st_drawS : Rf.sts_[Rf.ixDraw]? = some Rf.st_law_draw := rfl
theorem one_draw : ((List.range Rf.fs_.length).all fun f => match Rf.fs_[f]? with
    | some .draw => decide (f = Rf.ixDraw)
    | _ => true) = true := by decide +kernel
theorem draw_args : Rf.argsB (defArgs Rf.st_law_draw) [Str.ofString "state_so", Str.ofString "limit"] = true := by decide +kernel
theorem law_args : Rf.argsB (defArgs Rf.st_law) [Str.ofString "script"] = true := by decide +kernel
theorem lens : Rf.ns_.length = Rf.sts_.length ∧ Rf.gls_.length = Rf.gl_.length ∧ Rf.ns_.length = Rf.fs_.length := by decide +kernel
theorem tf_ck : ((List.range Rf.ns_.length).all fun f => !Rf.tx_.lm f || Rf.tf_.any fun p => decide (some p.1 = Rf.ns_[f]?) && p.2.isNone) = true := by decide +kernel
theorem tf_in : (Rf.tf_.all fun p => p.2.isNone) = true := by decide +kernel
theorem own_ck : ((List.range Rf.exs_.length).all fun x => decide (Rf.flds_.getD x [] = []) || Rf.inits_.any fun p => decide (some p.1 = Rf.exs_[x]?) && decide (p.2.1 = Rf.flds_.getD x [])) = true := by decide +kernel
theorem txt_ck : (Rf.inits_.all fun p => txtB Rf.Pw p.2.1 p.2.2) = true := by decide +kernel
def TL (K : Fg) : List (Addr × Str) := Rf.tf_.map fun p => (tabK K p, p.1 ++ ".<locals>." ++ "<lambda>")
theorem zip_mem {α β : Type} : ∀ {l : List α} {l' : List β} {i : Nat} {a : α} {b : β}, l[i]? = some a → l'[i]? = some b → (a, b) ∈ l.zip l'
  | [], _, _, _, _, h, _ => by simp at h
  | _ :: _, [], _, _, _, _, h => by simp at h
  | x :: l, y :: l', 0, a, b, h, h' => by simp at h h'; subst h h'; simp
  | x :: l, y :: l', i + 1, a, b, h, h' => List.mem_cons_of_mem _ (zip_mem (by simpa using h) (by simpa using h'))
section
variable {w : World} {h base : Heap} {K : Fg} {mg : Str → Option Value}
theorem par_ok {f : Nat} {n : Str} {st : Stmt} {fa : Addr} {fd : FuncData} (hn : Rf.tx_.ns[f]? = some n) (hst : Rf.tx_.sts[f]? = some st) (F : Fun K n n st fa fd) : ∃ ps, Rf.ParOk Rf.tx_ f fd ps := by
  have hlt : f < Rf.ns_.length := (List.getElem?_eq_some_iff.mp hn).1
  have hc := List.all_eq_true.mp Rf.all_ck f (List.mem_range.mpr hlt)
  unfold Rf.chk at hc
  split at hc
  · rename_i d hd
    cases d with
    | draw =>
      have hf : f < Rf.fs_.length := (List.getElem?_eq_some_iff.mp hd).1
      have h1 := List.all_eq_true.mp one_draw f (List.mem_range.mpr hf)
      have hd' : Rf.fs_[f]? = some .draw := hd
      rw [hd'] at h1
      have e : f = Rf.ixDraw := of_decide_eq_true h1
      subst e
      have es : st = Rf.st_law_draw := by
        have := hst.symm.trans st_drawS
        exact Option.some.inj this
      subst es
      exact ⟨_, Rf.argsB_ok F draw_args, by decide, fun qs e => by
        have := st_draw.2.symm.trans e
        exact Option.some.inj this⟩
    | code a m cost body =>
      obtain ⟨st', N, e1, c1, S, c3, c4, c6, c5⟩ := Rf.ckF_ok hn hc
      have : st = st' := Option.some.inj (hst.symm.trans e1)
      subst this
      exact ⟨_, Rf.argsB_ok F c1, S.nd.sublist (List.take_sublist _ _), fun qs e => by rw [c6] at e; cases e; rfl⟩
  · cases hc
theorem mem_fn {f : Nat} {n : Str} {st : Stmt} (hn : Rf.tx_.ns[f]? = some n) (hst : Rf.tx_.sts[f]? = some st) : (n, st) ∈ fnP := List.mem_append_left _ (zip_mem hn hst)
theorem st_of {f : Nat} {n : Str} (hn : Rf.tx_.ns[f]? = some n) : ∃ st, Rf.tx_.sts[f]? = some st := by
  have hlt : f < Rf.ns_.length := (List.getElem?_eq_some_iff.mp hn).1
  exact ⟨Rf.sts_[f]'(by rw [← lens.1]; exact hlt), List.getElem?_eq_getElem _⟩
theorem hz_of (c : SaysY Rf.Pw h K) (KX : K.In base) (G : base.Ns mainGlobals mg) (f : Nat) (n : Str) (hn : Rf.tx_.ns[f]? = some n) : ∃ fa fd ps, mg n = some (.ref fa) ∧ PySem.W.keepIn K (.ref fa) = true ∧ Rf.ParOk Rf.tx_ f fd ps := by
  obtain ⟨st, hst⟩ := st_of hn
  have hp := mem_fn hn hst
  obtain ⟨fd, F⟩ := c.fun_ hp
  obtain ⟨ps, PO⟩ := par_ok hn hst F
  exact ⟨_, fd, ps, PySem.W.mg_of KX G ((ex_ok c.ex).fns _ hp), F.kp, PO⟩
theorem bs_of (c : SaysY Rf.Pw h K) (KX : K.In base) (G : base.Ns mainGlobals mg) : Bs K mg (xiOf K) where
  blt := fun n hn => PySem.W.mg_none_of KX G ((ex_ok c.ex).blt n hn)
  gcd := PySem.W.mg_of KX G (ex_ok c.ex).gcd
  sup := PySem.W.mg_none_of KX G (ex_ok c.ex).sup
  xf := xf_ok (ex_ok c.ex).xf
theorem mem_extra (i : Nat) {p : Str × Stmt} (h : ([(Str.ofString "_law_mixed", Rf.st_law_mixed), (Str.ofString "_law_begin", Rf.st_law_begin), (Str.ofString "law", Rf.st_law)] : List (Str × Stmt))[i]? = some p) : p ∈ fnP := List.mem_append_right _ (List.mem_of_getElem? h)
theorem mf_of (c : SaysY Rf.Pw h K) (KX : K.In base) (G : base.Ns mainGlobals mg) (TB : ∀ p ∈ Rf.tf_.map (He.cT K), LamX.TabB base mg p.1 p.2) (S cc l : Addr) : Rf.MF Rf.tx_ Rf.pr_ Rf.Pw w K mg base (lawL S cc l (TL K)) (xiOf K) where
  blt := (bs_of c KX G).blt
  gcd := (bs_of c KX G).gcd
  cmb := fun z => PySem.W.mg_of KX G ((ex_ok c.ex).cmb z)
  sup := (bs_of c KX G).sup
  code := fun f n a b cost body st hn hst hd => by
    have hp := mem_fn hn hst
    obtain ⟨fd, F⟩ := c.fun_ hp
    refine ⟨_, fd, PySem.W.mg_of KX G ((ex_ok c.ex).fns _ hp), F, fun hlm => ?_⟩
    have hlt : f < Rf.ns_.length := (List.getElem?_eq_some_iff.mp hn).1
    have t1 := List.all_eq_true.mp tf_ck f (List.mem_range.mpr hlt)
    rw [hlm] at t1
    obtain ⟨p, hpt, t2⟩ := List.any_eq_true.mp (show (Rf.tf_.any fun p => decide (some p.1 = Rf.ns_[f]?) && p.2.isNone) = true by simpa using t1)
    obtain ⟨t3, t4⟩ := and_ t2
    have t3 : some p.1 = some n := (of_decide_eq_true t3).trans hn
    obtain ⟨p1, p2⟩ := p
    obtain rfl : p1 = n := Option.some.inj t3
    obtain rfl : p2 = none := Option.isNone_iff_eq_none.mp t4
    obtain ⟨oc, od, kV, doc, pm, an, cdv, ct, osl, efd, lk, hcd⟩ := F.ex
    obtain ⟨cd, rfl⟩ := He.codeIn_ref hcd
    have ec : fd.code = .ref cd := by rw [efd]
    have e1 : He.codeOf K (p1, none) = cd := He.codeOf_eq lk ec
    refine ⟨cd, tabK K (p1, none), ec, ?_, List.mem_map.mpr ⟨_, hpt, rfl⟩, fun q hq eq => ?_⟩
    · have := TB _ (List.mem_map.mpr ⟨_, hpt, rfl⟩)
      rw [← e1]
      exact this
    · obtain ⟨r, hr, rfl⟩ := List.mem_map.mp hq
      have := (ex_ok c.ex).tab r hr (p1, none) hpt eq
      subst this
      rfl
  draw := fun f n hn hd => by
    have hf : f < Rf.fs_.length := (List.getElem?_eq_some_iff.mp hd).1
    have h1 := List.all_eq_true.mp one_draw f (List.mem_range.mpr hf)
    have hd' : Rf.fs_[f]? = some .draw := hd
    rw [hd'] at h1
    have e : f = Rf.ixDraw := of_decide_eq_true h1
    subst e
    have en : n = Str.ofString "_law_draw" := Option.some.inj (hn.symm.trans st_draw.1)
    subst en
    have hp := mem_fn hn st_drawS
    obtain ⟨fd, F⟩ := c.fun_ hp
    obtain ⟨fdM, FM⟩ := c.fun_ (mem_extra 0 rfl)
    exact ⟨_, fd, _, PySem.W.mg_of KX G ((ex_ok c.ex).fns _ hp), F.kp, ⟨Rf.argsB_ok F draw_args, by decide, fun qs e => by
        have := st_draw.2.symm.trans e
        exact Option.some.inj this⟩, fun am m => draw_fp F FM (PySem.W.mg_of KX G ((ex_ok c.ex).fns _ (mem_extra 0 rfl))) ((bs_of c KX G).blt _ (by decide)) ((bs_of c KX G).blt _ (by decide)) am m⟩
  all := fun f n hn => by
    have hlt : f < Rf.ns_.length := (List.getElem?_eq_some_iff.mp hn).1
    have hc := List.all_eq_true.mp Rf.all_ck f (List.mem_range.mpr hlt)
    unfold Rf.chk at hc
    split at hc
    · rename_i d hd
      exact ⟨d, hd, hc⟩
    · cases hc
  gls := fun g n hn => by
    have hlt : g < Rf.gls_.length := (List.getElem?_eq_some_iff.mp hn).1
    have hd : Rf.gl_[g]? = some (Rf.gl_[g]'(by rw [← lens.2.1]; exact hlt)) := List.getElem?_eq_getElem _
    obtain ⟨u, e1, e2⟩ := (ex_ok c.ex).gls _ (zip_mem hn hd)
    obtain ⟨v, r, q⟩ := datB_ok _ _ e2
    exact ⟨u, v, _, PySem.W.mg_of KX G e1, r, hd, q⟩
  xf := (bs_of c KX G).xf
  exs := fun x n hn => by
    have hlt : x < Rf.exs_.length := (List.getElem?_eq_some_iff.mp hn).1
    refine ⟨hlt, ?_⟩
    have e : Rf.exs_.getD x Str.empty = n := by
      have hn : Rf.exs_[x]? = some n := hn
      rw [List.getD_eq_getElem?_getD, hn]
      rfl
    show mg n = some (.ref (He.ga K (Rf.exs_.getD x Str.empty)))
    rw [e]
    exact PySem.W.mg_of KX G ((ex_ok c.ex).exs n (List.mem_of_getElem? hn))
  flds := fun x fs hf => by
    have hf : Rf.flds_[x]? = some fs := hf
    show Rf.flds_.getD x [] = fs
    rw [List.getD_eq_getElem?_getD, hf]
    rfl
  own := fun x n hn hne => by
    have hlt : x < Rf.exs_.length := (List.getElem?_eq_some_iff.mp hn).1
    have t1 := List.all_eq_true.mp own_ck x (List.mem_range.mpr hlt)
    have hne : ¬ Rf.flds_.getD x [] = [] := hne
    obtain ⟨p, hp, t2⟩ := List.any_eq_true.mp (show (Rf.inits_.any fun p => decide (some p.1 = Rf.exs_[x]?) && decide (p.2.1 = Rf.flds_.getD x [])) = true by
      rw [Bool.or_eq_true] at t1
      rcases t1 with k | k
      · exact absurd (of_decide_eq_true k) hne
      · exact k)
    obtain ⟨t3, t4⟩ := and_ t2
    have t3 : some p.1 = some n := (of_decide_eq_true t3).trans hn
    have t3 : p.1 = n := Option.some.inj t3
    have t4 := of_decide_eq_true t4
    have O := own_ok ((ex_ok c.ex).own p hp) (List.all_eq_true.mp txt_ck p hp) (c.ini p hp)
    have e : Rf.exs_.getD x Str.empty = p.1 := by
      have hn : Rf.exs_[x]? = some n := hn
      rw [List.getD_eq_getElem?_getD, hn, t3]
      rfl
    show (PySem.W.keepIn K (.ref (He.ga K (Rf.exs_.getD x Str.empty))) = true ∧ PySem.W.subIn K (.ref (He.ga K (Rf.exs_.getD x Str.empty))) (.type "BaseException") = some true ∧ PySem.W.typeIn K (.ref (He.ga K (Rf.exs_.getD x Str.empty))) = some (.type "type") ∧
      ∃ fI fd, RfX.OwnX Rf.Pw K (He.ga K (Rf.exs_.getD x Str.empty)) fI (Rf.flds_.getD x []) fd ∧ RfX.BodyX fd (Rf.flds_.getD x [])) ∧ (Rf.flds_.getD x []).length ≤ 1000
    rw [e, ← t4]
    exact O
end
end RfA
set_option Elab.async false
set_option linter.all false
set_option maxRecDepth 100000
set_option maxHeartbeats 2000000
/-! RfI: the law walked behind the head. -/
namespace RfA
open PySem PySem.Spec PyProof.Rows
open L2 hiding St

theorem walkY {n k fuel lv : Nat} {q : Program} {loose : List Str} {XP : (Str → Option Value) → Heap → Prop} {d : DefRec} (hm : Rf.Rw.most = some n) (hn : n ≤ 999) (hdf : d.params.defaults = []) (hd : d.name = Str.ofString "law") (hP : Rf.Rw.prog = Rf.Pw) (hc : Rf.cost_law ≤ TOP) (hr : Room (3 * (k + 1) + 3) callerA) (plain : Plain fuel (k + 1)) :
    PySem.W.WalkO q loose XP (hookY Rf.Pw lv).says Rf.Rw.row.toRowW d [] (fun f vs => PySem.call f vs) := by
  refine Att.attach_callB hm hdf fun w s₀ s₁ mg mb fa o pm cd doc a vs ns G Y ho hd2 hcd hmg hobj hints hlen hbits hg => ?_
  obtain ⟨K, KX, c⟩ := Y
  rw [hd] at hmg
  obtain ⟨fd, F⟩ := c.fun_ (mem_extra 2 rfl)
  obtain ⟨fdB, FB⟩ := c.fun_ (mem_extra 1 rfl)
  have ef : fa = He.ga K (Str.ofString "law") := by
    have := hmg.symm.trans (PySem.W.mg_of KX G.T.g ((ex_ok c.ex).fns _ (mem_extra 2 rfl)))
    cases this
    rfl
  subst ef
  have bl : L2.Binds K fd [Str.ofString "script"] [] := by
    obtain ⟨oc, od, kV, doc, pm, an, cdv, ct, osl, efd, lk, hcd⟩ := F.ex
    have pp := Rf.argsB_ok F law_args
    rw [efd] at pp ⊢
    exact Binds.all fun us hl => RfX.bind_plain pp (by decide) us hl
  have hz : ns.length ≤ sizeLine := Nat.le_trans hlen (Nat.le_trans hn (by decide))
  rw [hP]
  refine end_G (cs := Rf.tf_.map (He.cT K)) (sp := spLaw K (TL K)) (x := Str.ofString "script") KX G.T.g G.T.b G.T.builtins G.T.nolimit hg (fun p hp => ?_) (fun p hp => ?_) (fun p hp => ?_) G.T.bmain hobj hints hz hr
    (fun base hb hg2 TB => ok_law F FB (PySem.W.mg_of hb hg2 ((ex_ok c.ex).fns _ (mem_extra 1 rfl))) (bs_of c hb hg2) (fun S cc l => mf_of c hb hg2 TB S cc l) (hz_of c hb hg2) hc plain) (fun s u => ?_) (fun H hH hS => ?_) (fun H e s' h => ?_)
  · obtain ⟨r, hr, rfl⟩ := List.mem_map.mp hp
    exact c.empty r hr
  · obtain ⟨r, hr, rfl⟩ := List.mem_map.mp hp
    exact c.out r hr
  · obtain ⟨r, hr, rfl⟩ := List.mem_map.mp hp
    exact PySem.W.codeHd_of_K KX (c.hd r hr)
  · obtain ⟨oc, od, kV, doc, pm, an, cdv, ct, osl, efd, lk, hcd⟩ := F.ex
    have pp := Rf.argsB_ok F law_args
    exact .of_eq (RfX.bind_plain pp (by decide) [u] rfl)
  · exact ⟨a, ns, rfl, hS, Nat.le_trans hlen hn, fun p hp => by
      obtain ⟨r, hr, rfl⟩ := List.mem_map.mp hp
      exact LamX.TabS.nil (hH _ (List.mem_map.mpr ⟨r, hr, rfl⟩)), fun _ => rfl⟩
  · obtain ⟨_, _, _, _, _, _, _, _, _, _, _, _, z⟩ := h
    exact z
end RfA
set_option Elab.async false
set_option linter.all false
set_option maxRecDepth 100000
set_option maxHeartbeats 0
/-! RfJ: the head's run. -/
namespace RfA
open PySem PySem.Spec PyProof.Rows
abbrev RR : PySem.W.OpenRow := PySem.W.OpenLaw.row Rf.Rw
def obJ (s : PySem.W.SharedT) : AlY := obsK Rf.Pw (HandSHeadRun.getT s) (frY 4 (HandSHeadRun.getT s))
theorem obJ_eq (s : PySem.W.SharedT) : obJ s = (hookY Rf.Pw 4).obs s.abs := obY_eq (HandSHeadRun.getT_eq s)
theorem runJ (w : World) : HandSHeadRun.RunEqI RR (PySem.W.view RR.prog [0, 1, 101]) (hookY Rf.Pw 4) obJ 8000 Rf.top_ w := by
  unfold HandSHeadRun.RunEqI
  kernel_rfl
end RfA
set_option Elab.async false
set_option linter.all false
set_option maxRecDepth 100000
set_option maxHeartbeats 4000000
/-! RfS: the evaluator told again by structure, for the kernel; it is the same. -/
namespace Rf
open PySem

mutual
/-- the evaluator by structure: k: kept -/
def evf (G : Env) : IE → Bool → Sl → T (Cell × Sl)
  | .con d, _, st => .ok (.sh d, st)
  | .var i, k, st => cond k (take st i) (peek st i)
  | .gl g, _, st => (T.opt G.gl[g]?).bind fun d => .ok (.sh d, st)
  | .bin op a b, _, st => (evf G a false st).bind fun p => (evf G b false p.2).bind fun q => (again a p.1 q.2).bind fun c => (T.opt (opBin op c q.1)).bind fun r => .ok (r, q.2)
  | .neg a, _, st => (evf G a true st).bind fun p => (T.opt p.1.int?).bind fun i => .ok (.sh (.int (-i)), p.2)
  | .inv a, _, st => (evf G a true st).bind fun p => (T.opt p.1.bool?).bind fun b => .ok (.sh (.bool (!b)), p.2)
  | .and_ a b, _, st => (evf G a true st).bind fun p => (T.opt p.1.bool?).bind fun c => cond c (evf G b true p.2) (.ok (.sh (.bool false), p.2))
  | .or_ a b, _, st => (evf G a true st).bind fun p => (T.opt p.1.bool?).bind fun c => cond c (.ok (.sh (.bool true), p.2)) (evf G b true p.2)
  | .cmp op a b, _, st => (evf G a false st).bind fun p => (evf G b false p.2).bind fun q => (again a p.1 q.2).bind fun c => (T.opt (opCmp op c q.1)).bind fun r => .ok (.sh (.bool r), q.2)
  | .chain o1 o2 a b c, _, st => (evf G a true st).bind fun p => (evf G b true p.2).bind fun q => (T.opt (opCmp o1 p.1 q.1)).bind fun k =>
      cond k ((evf G c true q.2).bind fun r => (T.opt (opCmp o2 q.1 r.1)).bind fun x => .ok (.sh (.bool x), r.2)) (.ok (.sh (.bool false), q.2))
  | .isN a, _, st => (evf G a false st).bind fun p => (T.opt p.1.d?).bind fun d => .ok (.sh (.bool (isNone d)), p.2)
  | .notN a, _, st => (evf G a false st).bind fun p => (T.opt p.1.d?).bind fun d => .ok (.sh (.bool (!isNone d)), p.2)
  | .ite c a b, _, st => (evf G c true st).bind fun p => (T.opt p.1.bool?).bind fun k => cond k (evf G a true p.2) (evf G b true p.2)
  | .tup es, _, st => (evsf G es st).bind fun p => if p.1.length ≤ LINE then .ok (.sh (.tuple p.1), p.2) else .bad
  | .lst es, _, st => (evsf G es st).bind fun p => if p.1.length ≤ LINE then .ok (.ow p.1, p.2) else .bad
  | .idx a b, _, st => (evf G a false st).bind fun p => (evf G b false p.2).bind fun q => (again a p.1 q.2).bind fun c => (T.opt (opIdx c q.1)).bind fun d => .ok (.sh d, q.2)
  | .slc a lo hi, _, st => (evf G a false st).bind fun p => (evof G lo p.2).bind fun q => (evof G hi q.2).bind fun r => (again a p.1 r.2).bind fun c => (T.opt (opSlc c q.1 r.1)).bind fun x => .ok (x, r.2)
  | .rev a, _, st => (evf G a false st).bind fun p => (T.opt (opRev p.1)).bind fun x => .ok (x, p.2)
  | .call f as, _, st => (evcf G as st).bind fun p => ((G.cl f p.1 p.2.n).at_ p.2).bind fun c => .ok (c.1, p.2.spent c.2)
  | .bi f as, _, st => (evbf G as st).bind fun p => (T.opt (opB f p.1)).bind fun c => .ok (c, p.2)
  | .lc elt tg it test, _, st => (evif G it st).bind fun p => (T.noex (mapL (evf G elt true) (evqf G test) tg p.1 [] (Sl.forget tg p.2))).bind fun q => .ok (.ow q.1, q.2)
  | .lam f body, _, st => (T.noex (G.cm f ((evf G body true (Sl.shared st)).bind fun p => (T.opt p.1.fz.sh?).bind fun d => .ok (.sh d)))).bind fun c => (T.opt (dataC c)).bind fun c => .ok (c, st)
  | .act i, _, st => (T.opt ((slot? st i).bind isAmb)).bind fun _ => (G.am.at_ st).bind fun c => .ok (c, st.spent 0)
  | .pop i, _, st => (T.opt ((slot? st i).bind Cell.ow?)).bind fun ds => (T.opt ds.getLast?).bind fun d => .ok (.sh d, st.set i (some (.ow ds.dropLast)))
  | .req i j, _, st => (T.opt (slot? st i)).bind fun c => (T.opt (slot? st j)).bind fun d => (T.opt (reqOf c d)).bind fun b => .ok (.sh (.bool b), st)
  | .join sep a, _, st => (evf G a false st).bind fun p => (T.opt (items? p.1)).bind fun ds => (T.opt (strs? ds)).bind fun ys =>
      if (ys.map (·.length)).sum + ys.length * sep.length ≤ LINE then .ok (.sh (.str (Str.join sep ys)), p.2) else .bad
  | .kcall f ks as bs, _, st => (evcf G as st).bind fun p => (evcf G bs p.2).bind fun q => (T.opt (permC (p.1 ++ q.1) ks)).bind fun cs => ((G.cl f cs q.2.n).at_ q.2).bind fun c => .ok (c.1, q.2.spent c.2)
  | .hole, _, _ => .bad
def evsf (G : Env) : IEs → Sl → T (List D × Sl)
  | .nil, st => .ok ([], st)
  | .cons e es, st => (evf G e true st).bind fun p => (T.opt p.1.fz.sh?).bind fun d => (evsf G es p.2).bind fun q => .ok (d :: q.1, q.2)
/-- a call's arguments -/
def evcf (G : Env) : IEs → Sl → T (List Cell × Sl)
  | .nil, st => .ok ([], st)
  | .cons e es, st => (evf G e true st).bind fun p => (evcf G es p.2).bind fun q => .ok (p.1.fz :: q.1, q.2)
/-- values that are kept, own lists as they are -/
def evnf (G : Env) : IEs → Sl → T (List Cell × Sl)
  | .nil, st => .ok ([], st)
  | .cons e es, st => (evf G e true st).bind fun p => (evnf G es p.2).bind fun q => .ok (p.1 :: q.1, q.2)
/-- a built-in's arguments -/
def evbf (G : Env) : IEs → Sl → T (List Cell × Sl)
  | .nil, st => .ok ([], st)
  | .cons e es, st => (evf G e false st).bind fun p => (evbf G es p.2).bind fun q => (again e p.1 q.2).bind fun c => .ok (c :: q.1, q.2)
def evof (G : Env) : IO → Sl → T (Option Int × Sl)
  | .none, st => .ok (none, st)
  | .some e, st => (evf G e true st).bind fun p => (T.opt p.1.int?).bind fun i => .ok (some i, p.2)
/-- a test, none is True -/
def evqf (G : Env) : IO → Sl → T (Cell × Sl)
  | .none, st => .ok (.sh (.bool true), st)
  | .some e, st => evf G e true st
def evif (G : Env) : II → Sl → T (List D × Sl)
  | .seq a, st => (evf G a true st).bind fun p => (T.opt (items? p.1)).bind fun ds => .ok (ds, p.2)
  | .enum a, st => (evf G a true st).bind fun p => (T.opt (items? p.1)).bind fun ds => .ok (enumD 0 ds, p.2)
  | .zip as, st => (evcf G as st).bind fun p => (T.opt (allItems p.1)).bind fun ls => .ok (zipD ls, p.2)
  | .revd a, st => (evf G a true st).bind fun p => (T.opt (items? p.1)).bind fun ds => .ok (ds.reverse, p.2)
  | .range as, st => (evcf G as st).bind fun p => (T.opt (opRange p.1)).bind fun ds => .ok (ds, p.2)
  | .revrange as, st => (evcf G as st).bind fun p => (T.opt (opRange p.1)).bind fun ds => .ok (ds.reverse, p.2)
  | .comb a k, st => (evf G a true st).bind fun p => (T.opt (items? p.1)).bind fun ds => .ok ((combos k ds).map .tuple, p.2)
end

mutual
def exf (G : Env) : IS → Sl → T (Out × Sl)
  | .set i e, st => (evf G e true st).bind fun p => .ok (.nx, p.2.set i (some p.1))
  | .setT is e, st => (evf G e true st).bind fun p => (T.opt (items? p.1)).bind fun xs => (T.opt (sets is xs p.2)).bind fun st' => .ok (.nx, st')
  | .par is es, st => (evnf G es st).bind fun p => (T.opt (setCs is p.1 p.2)).bind fun st' => .ok (.nx, st')
  | .sub i ix e, st => (evf G e true st).bind fun p => (T.opt p.1.fz.sh?).bind fun d => (T.opt (slot? p.2 i)).bind fun _ => (evf G ix true p.2).bind fun q => (T.opt ((slot? q.2 i).bind Cell.ow?)).bind fun ds =>
      (T.opt (storeI ds q.1 d)).bind fun ds' => .ok (.nx, q.2.set i (some (.ow ds')))
  | .app i e, st => (T.opt ((slot? st i).bind Cell.ow?)).bind fun _ => (evf G e true st).bind fun p => (T.opt p.1.fz.sh?).bind fun d => (T.opt ((slot? p.2 i).bind Cell.ow?)).bind fun ds =>
      if ds.length < LINE then .ok (.nx, p.2.set i (some (.ow (ds ++ [d])))) else .bad
  | .ext i e, st => (T.opt ((slot? st i).bind Cell.ow?)).bind fun _ => (evf G e true st).bind fun p => (T.opt (list? p.1)).bind fun xs => (T.opt ((slot? p.2 i).bind Cell.ow?)).bind fun ds =>
      if ds.length + xs.length ≤ LINE then .ok (.nx, p.2.set i (some (.ow (ds ++ xs)))) else .bad
  | .expr e, st => (evf G e true st).bind fun p => .ok (.nx, p.2)
  | .ret e, st => (evf G e false st).bind fun p => .ok (.ret p.1, p.2)
  | .retN, st => .ok (.ret (.sh .none), st)
  | .ifs c a b, st => (evf G c true st).bind fun p => (T.opt p.1.bool?).bind fun k => cond k (exsf G a p.2) (exsf G b p.2)
  | .for_ tg it body, st => (evif G it st).bind fun p => forL tg (exsf G body) p.1 p.2
  | .while_ c body, st => whileL (evf G c true) (exsf G body) G.fuel st
  | .raise_ x as, st => (evsf G as st).bind fun p => .ex x p.1 p.2
  | .try_ body hs, st => tryT (exh hs) (exsf G body st)
  | .pass, st => .ok (.nx, st)
  | .brk, st => .ok (.brk, st)
  | .hole, _ => .bad
def exsf (G : Env) : ISs → Sl → T (Out × Sl)
  | .nil, st => .ok (.nx, st)
  | .cons s ss, st => (exf G s st).bind fun p => match p.1 with
    | .nx => exsf G ss p.2
    | o => .ok (o, p.2)
end

def runBf (P : Pr) (fuel : Nat) (cl : Nat → List Cell → Nat → T (Cell × Nat)) (cm : Nat → T Cell → T Cell) (am : T Cell) (f : Nat) (as : List Cell) (b : Nat) : T (Cell × Nat) := match P.fs[f]? with
  | some (.code n m c body) => if as.length = m then cond (Nat.ble c b) (T.give (b - c) ((exsf ⟨cl, cm, am, P.gl, fuel⟩ body (entry n as c)).bind Out.cell)) .bad else .bad
  | some .draw => drawn as b
  | none => .bad
/-- the def f at a depth; with a lambda -/
def runf (P : Pr) (fuel : Nat) : Nat → (Nat → List Cell → Nat → T (Cell × Nat)) × (Nat → T Cell → T Cell)
  | 0 => (fun _ _ _ => .bad, fun _ _ => .bad)
  | k + 1 =>
    let r := runf P fuel k
    (fun f as b => runBf P fuel r.1 r.2 .bad f as b, fun f am => (runBf P fuel r.1 r.2 am f [.amb] 0).bind fun p => .ok p.1)
mutual
theorem evf_ok (G : Env) : ∀ e : IE, evf G e true = ev G e ∧ evf G e false = pk G e
  | .con d => by
    have h : ∀ k, evf G (.con d) k = ev G (.con d) := fun k => by
      funext st
      unfold evf ev
      rfl
    exact ⟨h true, (h false).trans (by funext st; unfold pk; rfl)⟩
  | .var i => ⟨by funext st; unfold evf ev; rfl, by funext st; unfold evf pk; rfl⟩
  | .gl g => by
    have h : ∀ k, evf G (.gl g) k = ev G (.gl g) := fun k => by
      funext st
      unfold evf ev
      rfl
    exact ⟨h true, (h false).trans (by funext st; unfold pk; rfl)⟩
  | .bin op a b => by
    have ha := evf_ok G a
    have hb := evf_ok G b
    have h : ∀ k, evf G (.bin op a b) k = ev G (.bin op a b) := fun k => by
      funext st
      unfold evf ev
      simp only [ha.1, ha.2, hb.1, hb.2]
    exact ⟨h true, (h false).trans (by funext st; unfold pk; rfl)⟩
  | .neg a => by
    have ha := evf_ok G a
    have h : ∀ k, evf G (.neg a) k = ev G (.neg a) := fun k => by
      funext st
      unfold evf ev
      simp only [ha.1, ha.2]
    exact ⟨h true, (h false).trans (by funext st; unfold pk; rfl)⟩
  | .inv a => by
    have ha := evf_ok G a
    have h : ∀ k, evf G (.inv a) k = ev G (.inv a) := fun k => by
      funext st
      unfold evf ev
      simp only [ha.1, ha.2]
    exact ⟨h true, (h false).trans (by funext st; unfold pk; rfl)⟩
  | .and_ a b => by
    have ha := evf_ok G a
    have hb := evf_ok G b
    have h : ∀ k, evf G (.and_ a b) k = ev G (.and_ a b) := fun k => by
      funext st
      unfold evf ev
      simp only [ha.1, ha.2, hb.1, hb.2]
    exact ⟨h true, (h false).trans (by funext st; unfold pk; rfl)⟩
  | .or_ a b => by
    have ha := evf_ok G a
    have hb := evf_ok G b
    have h : ∀ k, evf G (.or_ a b) k = ev G (.or_ a b) := fun k => by
      funext st
      unfold evf ev
      simp only [ha.1, ha.2, hb.1, hb.2]
    exact ⟨h true, (h false).trans (by funext st; unfold pk; rfl)⟩
  | .cmp op a b => by
    have ha := evf_ok G a
    have hb := evf_ok G b
    have h : ∀ k, evf G (.cmp op a b) k = ev G (.cmp op a b) := fun k => by
      funext st
      unfold evf ev
      simp only [ha.1, ha.2, hb.1, hb.2]
    exact ⟨h true, (h false).trans (by funext st; unfold pk; rfl)⟩
  | .chain o1 o2 a b c => by
    have ha := evf_ok G a
    have hb := evf_ok G b
    have hc := evf_ok G c
    have h : ∀ k, evf G (.chain o1 o2 a b c) k = ev G (.chain o1 o2 a b c) := fun k => by
      funext st
      unfold evf ev
      simp only [ha.1, ha.2, hb.1, hb.2, hc.1, hc.2]
    exact ⟨h true, (h false).trans (by funext st; unfold pk; rfl)⟩
  | .isN a => by
    have ha := evf_ok G a
    have h : ∀ k, evf G (.isN a) k = ev G (.isN a) := fun k => by
      funext st
      unfold evf ev
      simp only [ha.1, ha.2]
    exact ⟨h true, (h false).trans (by funext st; unfold pk; rfl)⟩
  | .notN a => by
    have ha := evf_ok G a
    have h : ∀ k, evf G (.notN a) k = ev G (.notN a) := fun k => by
      funext st
      unfold evf ev
      simp only [ha.1, ha.2]
    exact ⟨h true, (h false).trans (by funext st; unfold pk; rfl)⟩
  | .ite c a b => by
    have hc := evf_ok G c
    have ha := evf_ok G a
    have hb := evf_ok G b
    have h : ∀ k, evf G (.ite c a b) k = ev G (.ite c a b) := fun k => by
      funext st
      unfold evf ev
      simp only [hc.1, hc.2, ha.1, ha.2, hb.1, hb.2]
    exact ⟨h true, (h false).trans (by funext st; unfold pk; rfl)⟩
  | .tup es => by
    have hes := evsf_ok G es
    have h : ∀ k, evf G (.tup es) k = ev G (.tup es) := fun k => by
      funext st
      unfold evf ev
      simp only [hes.1, hes.2.1, hes.2.2.1, hes.2.2.2]
    exact ⟨h true, (h false).trans (by funext st; unfold pk; rfl)⟩
  | .lst es => by
    have hes := evsf_ok G es
    have h : ∀ k, evf G (.lst es) k = ev G (.lst es) := fun k => by
      funext st
      unfold evf ev
      simp only [hes.1, hes.2.1, hes.2.2.1, hes.2.2.2]
    exact ⟨h true, (h false).trans (by funext st; unfold pk; rfl)⟩
  | .idx a b => by
    have ha := evf_ok G a
    have hb := evf_ok G b
    have h : ∀ k, evf G (.idx a b) k = ev G (.idx a b) := fun k => by
      funext st
      unfold evf ev
      simp only [ha.1, ha.2, hb.1, hb.2]
    exact ⟨h true, (h false).trans (by funext st; unfold pk; rfl)⟩
  | .slc a lo hi => by
    have ha := evf_ok G a
    have hlo := evof_ok G lo
    have hhi := evof_ok G hi
    have h : ∀ k, evf G (.slc a lo hi) k = ev G (.slc a lo hi) := fun k => by
      funext st
      unfold evf ev
      simp only [ha.1, ha.2, hlo.1, hlo.2, hhi.1, hhi.2]
    exact ⟨h true, (h false).trans (by funext st; unfold pk; rfl)⟩
  | .rev a => by
    have ha := evf_ok G a
    have h : ∀ k, evf G (.rev a) k = ev G (.rev a) := fun k => by
      funext st
      unfold evf ev
      simp only [ha.1, ha.2]
    exact ⟨h true, (h false).trans (by funext st; unfold pk; rfl)⟩
  | .call f as => by
    have has := evsf_ok G as
    have h : ∀ k, evf G (.call f as) k = ev G (.call f as) := fun k => by
      funext st
      unfold evf ev
      simp only [has.1, has.2.1, has.2.2.1, has.2.2.2]
    exact ⟨h true, (h false).trans (by funext st; unfold pk; rfl)⟩
  | .bi f as => by
    have has := evsf_ok G as
    have h : ∀ k, evf G (.bi f as) k = ev G (.bi f as) := fun k => by
      funext st
      unfold evf ev
      simp only [has.1, has.2.1, has.2.2.1, has.2.2.2]
    exact ⟨h true, (h false).trans (by funext st; unfold pk; rfl)⟩
  | .lc elt tg it cond => by
    have helt := evf_ok G elt
    have hit := evif_ok G it
    have hcond := evof_ok G cond
    have h : ∀ k, evf G (.lc elt tg it cond) k = ev G (.lc elt tg it cond) := fun k => by
      funext st
      unfold evf ev
      simp only [helt.1, helt.2, hit, hcond.1, hcond.2]
    exact ⟨h true, (h false).trans (by funext st; unfold pk; rfl)⟩
  | .lam f body => by
    have hbody := evf_ok G body
    have h : ∀ k, evf G (.lam f body) k = ev G (.lam f body) := fun k => by
      funext st
      unfold evf ev
      simp only [hbody.1, hbody.2]
    exact ⟨h true, (h false).trans (by funext st; unfold pk; rfl)⟩
  | .act i => by
    have h : ∀ k, evf G (.act i) k = ev G (.act i) := fun k => by
      funext st
      unfold evf ev
      rfl
    exact ⟨h true, (h false).trans (by funext st; unfold pk; rfl)⟩
  | .pop i => by
    have h : ∀ k, evf G (.pop i) k = ev G (.pop i) := fun k => by
      funext st
      unfold evf ev
      rfl
    exact ⟨h true, (h false).trans (by funext st; unfold pk; rfl)⟩
  | .req i j => by
    have h : ∀ k, evf G (.req i j) k = ev G (.req i j) := fun k => by
      funext st
      unfold evf ev
      rfl
    exact ⟨h true, (h false).trans (by funext st; unfold pk; rfl)⟩
  | .join sep a => by
    have ha := evf_ok G a
    have h : ∀ k, evf G (.join sep a) k = ev G (.join sep a) := fun k => by
      funext st
      unfold evf ev
      simp only [ha.1, ha.2]
    exact ⟨h true, (h false).trans (by funext st; unfold pk; rfl)⟩
  | .kcall f ks as bs => by
    have has := evsf_ok G as
    have hbs := evsf_ok G bs
    have h : ∀ k, evf G (.kcall f ks as bs) k = ev G (.kcall f ks as bs) := fun k => by
      funext st
      unfold evf ev
      simp only [has.1, has.2.1, has.2.2.1, has.2.2.2, hbs.1, hbs.2.1, hbs.2.2.1, hbs.2.2.2]
    exact ⟨h true, (h false).trans (by funext st; unfold pk; rfl)⟩
  | .hole => by
    have h : ∀ k, evf G (.hole) k = ev G (.hole) := fun k => by
      funext st
      unfold evf ev
      rfl
    exact ⟨h true, (h false).trans (by funext st; unfold pk; rfl)⟩
theorem evsf_ok (G : Env) : ∀ es : IEs, evsf G es = evs G es ∧ evcf G es = evc G es ∧ evnf G es = evn G es ∧ evbf G es = evb G es
  | .nil => ⟨by funext st; unfold evsf evs; rfl, by funext st; unfold evcf evc; rfl, by funext st; unfold evnf evn; rfl, by funext st; unfold evbf evb; rfl⟩
  | .cons e es => by
    have he := evf_ok G e
    have hs := evsf_ok G es
    exact ⟨by funext st; unfold evsf evs; simp only [he.1, hs.1], by funext st; unfold evcf evc; simp only [he.1, hs.2.1], by funext st; unfold evnf evn; simp only [he.1, hs.2.2.1], by funext st; unfold evbf evb; simp only [he.2, hs.2.2.2]⟩
theorem evof_ok (G : Env) : ∀ o : IO, evof G o = evo G o ∧ evqf G o = evq G o
  | .none => ⟨by funext st; unfold evof evo; rfl, by funext st; unfold evqf evq; rfl⟩
  | .some e => by
    have he := evf_ok G e
    exact ⟨by funext st; unfold evof evo; simp only [he.1], by funext st; unfold evqf evq; simp only [he.1]⟩
theorem evif_ok (G : Env) : ∀ i : II, evif G i = evi G i
  | .seq a => by
    have ha := evf_ok G a
    funext st
    unfold evif evi
    simp only [ha.1, ha.2]
  | .enum a => by
    have ha := evf_ok G a
    funext st
    unfold evif evi
    simp only [ha.1, ha.2]
  | .zip as => by
    have has := evsf_ok G as
    funext st
    unfold evif evi
    simp only [has.1, has.2.1, has.2.2.1, has.2.2.2]
  | .revd a => by
    have ha := evf_ok G a
    funext st
    unfold evif evi
    simp only [ha.1, ha.2]
  | .range as => by
    have has := evsf_ok G as
    funext st
    unfold evif evi
    simp only [has.1, has.2.1, has.2.2.1, has.2.2.2]
  | .revrange as => by
    have has := evsf_ok G as
    funext st
    unfold evif evi
    simp only [has.1, has.2.1, has.2.2.1, has.2.2.2]
  | .comb a k => by
    have ha := evf_ok G a
    funext st
    unfold evif evi
    simp only [ha.1, ha.2]
end
mutual
theorem exf_ok (G : Env) : ∀ s : IS, exf G s = ex G s
  | .set i e => by
    have he := evf_ok G e
    funext st
    unfold exf ex
    simp only [he.1, he.2]
  | .setT is e => by
    have he := evf_ok G e
    funext st
    unfold exf ex
    simp only [he.1, he.2]
  | .par is es => by
    have hes := evsf_ok G es
    funext st
    unfold exf ex
    simp only [hes.1, hes.2.1, hes.2.2.1, hes.2.2.2]
  | .sub i ix e => by
    have hix := evf_ok G ix
    have he := evf_ok G e
    funext st
    unfold exf ex
    simp only [hix.1, hix.2, he.1, he.2]
  | .app i e => by
    have he := evf_ok G e
    funext st
    unfold exf ex
    simp only [he.1, he.2]
  | .ext i e => by
    have he := evf_ok G e
    funext st
    unfold exf ex
    simp only [he.1, he.2]
  | .expr e => by
    have he := evf_ok G e
    funext st
    unfold exf ex
    simp only [he.1, he.2]
  | .ret e => by
    have he := evf_ok G e
    funext st
    unfold exf ex
    simp only [he.1, he.2]
  | .retN => by
    funext st
    unfold exf ex
    rfl
  | .ifs c a b => by
    have hc := evf_ok G c
    have ha := exsf_ok G a
    have hb := exsf_ok G b
    funext st
    unfold exf ex
    simp only [hc.1, hc.2, ha, hb]
  | .for_ tg it body => by
    have hit := evif_ok G it
    have hbody := exsf_ok G body
    funext st
    unfold exf ex
    simp only [hit, hbody]
  | .while_ c body => by
    have hc := evf_ok G c
    have hbody := exsf_ok G body
    funext st
    unfold exf ex
    simp only [hc.1, hc.2, hbody]
  | .raise_ x as => by
    have has := evsf_ok G as
    funext st
    unfold exf ex
    simp only [has.1, has.2.1, has.2.2.1, has.2.2.2]
  | .try_ body hs => by
    have hbody := exsf_ok G body
    funext st
    unfold exf ex
    simp only [hbody]
  | .pass => by
    funext st
    unfold exf ex
    rfl
  | .brk => by
    funext st
    unfold exf ex
    rfl
  | .hole => by
    funext st
    unfold exf ex
    rfl
theorem exsf_ok (G : Env) : ∀ ss : ISs, exsf G ss = exs G ss
  | .nil => by funext st; unfold exsf exs; rfl
  | .cons s ss => by
    have h1 := exf_ok G s
    have h2 := exsf_ok G ss
    funext st
    unfold exsf exs
    simp only [h1, h2]
    try rfl
end
theorem runBf_ok (P : Pr) (fuel : Nat) (cl : Nat → List Cell → Nat → T (Cell × Nat)) (cm : Nat → T Cell → T Cell) (am : T Cell) (f : Nat) (as : List Cell) (b : Nat) : runBf P fuel cl cm am f as b = runB P fuel cl cm am f as b := by
  unfold runBf runB
  simp only [exsf_ok]
  try rfl
theorem runf_ok (P : Pr) (fuel : Nat) : ∀ k, runf P fuel k = run P fuel k
  | 0 => rfl
  | k + 1 => by
    unfold runf run
    simp only [runf_ok P fuel k, runBf_ok]
end Rf
set_option Elab.async false
set_option linter.all false
set_option maxRecDepth 100000
set_option maxHeartbeats 1000000
/-! P0: trees by the kernel; lengths of texts. -/
namespace Rf
open PySem
namespace T
/-- every end is as the Bools say -/
def allB {α : Type} (p : α → Bool) (e : Nat → List D → Bool) : T α → Bool
  | .ok a => p a
  | .ex x as _ => e x as
  | .bad => false
  | .draw l k => (List.range l).all fun n => allB p e (k n)
theorem allB_ok {α : Type} {p : α → Bool} {e : Nat → List D → Bool} : ∀ t : T α, allB p e t = true → All (fun a => p a = true) (fun x as _ => e x as = true) t
  | .ok _, h => h
  | .ex _ _ _, h => h
  | .bad, h => by cases h
  | .draw l k, h => fun n hn => allB_ok (k n) (List.all_eq_true.mp h n (List.mem_range.mpr hn))
/-- what comes out -/
def outs : T (Cell × Nat) → List D
  | .ok (.sh d, _) => [d]
  | .ok _ => []
  | .ex _ _ _ => []
  | .bad => []
  | .draw l k => (List.range l).flatMap fun n => outs (k n)
def fineB (t : T (Cell × Nat)) : Bool := allB (fun p => (match p.1 with | .sh _ => true | _ => false) && decide (p.2 = 0)) (fun _ _ => false) t
theorem fine_ok : ∀ t : T (Cell × Nat), fineB t = true → All (fun p => ∃ d ∈ outs t, p = (.sh d, 0)) (fun _ _ _ => False) t
  | .ok (.sh d, n), h => by
    have h : (true && decide (n = 0)) = true := h
    have h2 : n = 0 := by simpa using h
    subst h2
    exact ⟨d, List.mem_singleton.mpr rfl, rfl⟩
  | .ok (.ow _, _), h => by cases h
  | .ok (.st, _), h => by cases h
  | .ok (.amb, _), h => by cases h
  | .ex _ _ _, h => by cases h
  | .bad, h => by cases h
  | .draw l k, h => fun n hn => by
    have h1 := fine_ok (k n) (List.all_eq_true.mp h n (List.mem_range.mpr hn))
    exact all_mono (fun p ⟨d, hd, e⟩ => ⟨d, List.mem_flatMap.mpr ⟨n, List.mem_range.mpr hn, hd⟩, e⟩) (fun _ _ _ h => h) _ h1
theorem all_give' {α : Type} {P : α × Nat → Prop} {E : Nat → List D → Sl → Prop} {k : Nat} : ∀ t : T (α × Nat), t.All (fun p => P (p.1, k + p.2)) (fun x as st => E x as (st.spent (k + st.n))) → (T.give k t).All P E
  | .ok _, h => h
  | .ex _ _ _, h => h
  | .bad, h => h
  | .draw _ f, h => fun n hn => all_give' (f n) (h n hn)
theorem give_give {α : Type} {k j : Nat} : ∀ t : T (α × Nat), T.give k (T.give j t) = T.give (k + j) t
  | .ok p => by show T.ok (p.1, k + (j + p.2)) = T.ok (p.1, k + j + p.2); rw [Nat.add_assoc]
  | .ex x as st => by show T.ex x as _ = T.ex x as _; simp [Nat.add_assoc]
  | .bad => rfl
  | .draw l f => by
    show T.draw l _ = T.draw l _
    congr 1
    funext n
    exact give_give (f n)
theorem all_at' {α : Type} {P : α → Prop} {E : Nat → List D → Sl → Prop} {st : Sl} : ∀ t : T α, t.All P (fun _ _ _ => False) → (at_ st t).All P E
  | .ok _, h => h
  | .ex _ _ _, h => False.elim h
  | .bad, h => h
  | .draw _ k, h => fun n hn => all_at' (k n) (h n hn)
/-- a call that raises nothing -/
theorem call_all {α : Type} {t : T (Cell × Nat)} {Q : Cell × Nat → Prop} {st : Sl} {k : Cell × Nat → T α} {P : α → Prop} {E : Nat → List D → Sl → Prop} (h : t.All Q (fun _ _ _ => False)) (hk : ∀ c, Q c → (k c).All P E) : ((at_ st t).bind k).All P E :=
  all_bind' _ (all_mono (fun c hc => hk c hc) (fun _ _ _ h => False.elim h) _ (all_at' t h))
/-- it raises x with these -/
def exB (x : Nat) (p : List D → Bool) : T (Cell × Nat) → Bool
  | .ex y as _ => decide (y = x) && p as
  | _ => false
theorem exB_ok {x : Nat} {p : List D → Bool} : ∀ {t : T (Cell × Nat)}, exB x p t = true → ∃ as st, t = .ex x as st ∧ p as = true
  | .ex y as st, h => by
    obtain ⟨h1, h2⟩ := Bool.and_eq_true_iff.mp h
    have h1 := of_decide_eq_true h1
    subst h1
    exact ⟨as, st, rfl, h2⟩
end T
/-- with more draws left -/
theorem run_give {P : Pr} {fuel k f N m c n : Nat} {as : List Cell} {body : ISs} (h : P.fs[f]? = some (.code N m c body)) : (runf P fuel (k + 1)).1 f as (n + c) = T.give n ((runf P fuel (k + 1)).1 f as c) := by
  show runBf P fuel _ _ _ f as (n + c) = T.give n (runBf P fuel _ _ _ f as c)
  unfold runBf
  rw [h]
  dsimp only
  have e1 : Nat.ble c (n + c) = true := Nat.ble_eq_true_of_le (Nat.le_add_left c n)
  have e2 : Nat.ble c c = true := Nat.ble_eq_true_of_le (Nat.le_refl c)
  have e3 : n + c - c = n := Nat.add_sub_cancel n c
  have e4 : c - c = 0 := Nat.sub_self c
  split
  · rw [e1, e2, e3, e4]
    show T.give n _ = T.give n (T.give 0 _)
    rw [T.give_give]
    rfl
  · rfl
theorem fine_give {P : Pr} {fuel k f N m c : Nat} {as : List Cell} {body : ISs} (h : P.fs[f]? = some (.code N m c body)) (hf : T.fineB ((runf P fuel (k + 1)).1 f as c) = true) (n : Nat) :
    ((runf P fuel (k + 1)).1 f as (n + c)).All (fun p => ∃ d ∈ T.outs ((runf P fuel (k + 1)).1 f as c), p = (.sh d, n)) (fun _ _ _ => False) := by
  rw [run_give h]
  refine T.all_give' _ (T.all_mono (fun p ⟨d, hd, e⟩ => ⟨d, hd, by rw [e]; rfl⟩) (fun _ _ _ h => h) _ (T.fine_ok _ hf))
/-! ### data that are the same -/
mutual
def deq : D → D → Bool
  | .none, e => (match e with | .none => true | _ => false)
  | .bool a, e => (match e with | .bool b => a == b | _ => false)
  | .int a, e => (match e with | .int b => decide (a = b) | _ => false)
  | .str a, e => (match e with | .str b => decide (a = b) | _ => false)
  | .list as, e => (match e with | .list bs => deqs as bs | _ => false)
  | .tuple as, e => (match e with | .tuple bs => deqs as bs | _ => false)
  | .dict _, _ => false
def deqs : List D → List D → Bool
  | [], es => es.isEmpty
  | a :: as, es => (match es with | b :: bs => deq a b && deqs as bs | [] => false)
end
mutual
theorem deq_ok : ∀ (a b : D), deq a b = true → a = b
  | .none, b, h => by unfold deq at h; split at h <;> first | rfl | cases h
  | .bool a, b, h => by
    unfold deq at h
    split at h
    · rw [eq_of_beq h]
    · cases h
  | .int a, b, h => by
    unfold deq at h
    split at h
    · rw [of_decide_eq_true h]
    · cases h
  | .str a, b, h => by
    unfold deq at h
    split at h
    · rw [of_decide_eq_true h]
    · cases h
  | .list as, b, h => by
    unfold deq at h
    split at h
    · rw [deqs_ok as _ h]
    · cases h
  | .tuple as, b, h => by
    unfold deq at h
    split at h
    · rw [deqs_ok as _ h]
    · cases h
  | .dict _, b, h => by unfold deq at h; cases h
theorem deqs_ok : ∀ (as bs : List D), deqs as bs = true → as = bs
  | [], bs, h => by unfold deqs at h; exact (List.isEmpty_iff.mp h).symm
  | a :: as, bs, h => by
    unfold deqs at h
    split at h
    · obtain ⟨h1, h2⟩ := Bool.and_eq_true_iff.mp h
      rw [deq_ok a _ h1, deqs_ok as _ h2]
    · cases h
end
/-! ### how long a text is -/
mutual
def lenD : D → Nat
  | .none => 4
  | .bool _ => 5
  | .int i => (PyData.shown (.int i)).length
  | .str x => (PyData.shown (.str x)).length
  | .list xs => lenDs xs + 2
  | .tuple xs => lenDs xs + 3
  | .dict kvs => (PyData.shown (.dict kvs)).length
def lenDs : List D → Nat
  | [] => 0
  | x :: xs => lenD x + 2 + lenDs xs
end
theorem from_len : ∀ (ts : List Str) (k : Nat) (acc : Str), (textFrom k acc ts).length ≤ acc.length + (ts.map fun t => t.length + 2).sum
  | [], k, acc => Nat.le_refl _
  | t :: r, k, acc => by
    have ih := from_len r (k + 1) (acc ++ (if k > 0 then ", " else "" : String) ++ t)
    have e : (acc ++ (if k > 0 then ", " else "" : String) ++ t).length = acc.length + (if k > 0 then 2 else 0) + t.length := by
      rw [strLen_append, strLen_append]
      split <;> rfl
    rw [e] at ih
    show (textFrom (k + 1) _ r).length ≤ _
    rw [List.map_cons, List.sum_cons]
    have : (if k > 0 then 2 else 0) ≤ 2 := by split <;> omega
    omega
theorem join_len (ts : List Str) : (Str.join ", " ts).length ≤ (ts.map fun t => t.length + 2).sum := by
  have two : ((", " : String) : Str).length = 2 := rfl
  match ts with
  | [] => exact Nat.zero_le _
  | [x] =>
    show x.length ≤ _
    simp
  | x :: y :: r =>
    have ih := join_len (y :: r)
    show (x ++ ", " ++ Str.join ", " (y :: r)).length ≤ _
    rw [strLen_append, strLen_append, List.map_cons, List.sum_cons, two]
    omega
mutual
theorem lenD_ok : ∀ d : D, (PyData.shown d).length ≤ lenD d
  | .none => by unfold PyData.shown lenD; decide
  | .bool b => by unfold PyData.shown lenD; cases b <;> decide
  | .int i => by unfold lenD; exact Nat.le_refl _
  | .str x => by unfold lenD; exact Nat.le_refl _
  | .list xs => by
    unfold PyData.shown lenD listText
    have h1 := from_len (PyData.shownAll xs) 0 "["
    have h2 := lenDs_ok xs
    rw [strLen_append]
    have e1 : (("[" : String) : Str).length = 1 := rfl
    have e2 : (("]" : String) : Str).length = 1 := rfl
    rw [e1] at h1
    rw [e2]
    omega
  | .tuple xs => by
    unfold PyData.shown lenD tupleText
    have h1 := join_len (PyData.shownAll xs)
    have h2 := lenDs_ok xs
    rw [strLen_append, strLen_append]
    have e1 : (("(" : String) : Str).length = 1 := rfl
    rw [e1]
    have e2 : ((if (PyData.shownAll xs).length == 1 then ",)" else ")" : String) : Str).length ≤ 2 := by split <;> decide
    omega
  | .dict _ => by unfold lenD; exact Nat.le_refl _
theorem lenDs_ok : ∀ xs : List D, ((PyData.shownAll xs).map fun t => t.length + 2).sum ≤ lenDs xs
  | [] => Nat.le_refl _
  | x :: xs => by
    unfold PyData.shownAll lenDs
    have h1 := lenD_ok x
    have h2 := lenDs_ok xs
    rw [List.map_cons, List.sum_cons]
    omega
end
/-- fit to be shown, within something -/
def fitB (d : D) : Bool := d.showable && (!d.hasDict && (decide (d.depth ≤ 50) && decide (lenD d ≤ 1000000)))
end Rf
set_option Elab.async false
set_option linter.all false
set_option maxRecDepth 100000
set_option maxHeartbeats 1000000
/-! P1: the evaluator's answers, step by step. -/
namespace Rf
open PySem
section
variable {G : Env} {E : Nat → List D → Sl → Prop} {st : Sl}
theorem evs_pure {e : IE} {es : IEs} {c : Cell} {d : D} {P : List D × Sl → Prop} (h : evf G e true st = .ok (c, st)) (hc : c.fz.sh? = some d) (hr : (evsf G es st).All (fun q => P (d :: q.1, q.2)) E) : (evsf G (.cons e es) st).All P E := by
  unfold evsf
  rw [h]
  show ((T.opt c.fz.sh?).bind _).All P E
  rw [hc]
  show ((evsf G es st).bind _).All P E
  exact T.all_bind' _ (T.all_mono (fun _ h => h) (fun _ _ _ h => h) _ hr)
theorem evs_cons {e : IE} {es : IEs} {P : List D × Sl → Prop} (h : (evf G e true st).All (fun p => ∃ d, p.1.fz.sh? = some d ∧ (evsf G es p.2).All (fun q => P (d :: q.1, q.2)) E) E) : (evsf G (.cons e es) st).All P E := by
  unfold evsf
  refine T.all_bind' _ (T.all_mono (fun p ⟨d, hd, hr⟩ => ?_) (fun _ _ _ h => h) _ h)
  rw [hd]
  show ((evsf G es p.2).bind _).All P E
  exact T.all_bind' _ (T.all_mono (fun _ h => h) (fun _ _ _ h => h) _ hr)
theorem evs_nil {P : List D × Sl → Prop} (h : P ([], st)) : (evsf G .nil st).All P E := by
  unfold evsf
  exact h
theorem evc_pure {e : IE} {es : IEs} {c : Cell} {P : List Cell × Sl → Prop} (h : evf G e true st = .ok (c, st)) (hr : (evcf G es st).All (fun q => P (c.fz :: q.1, q.2)) E) : (evcf G (.cons e es) st).All P E := by
  unfold evcf
  rw [h]
  show ((evcf G es st).bind _).All P E
  exact T.all_bind' _ (T.all_mono (fun _ h => h) (fun _ _ _ h => h) _ hr)
theorem evc_cons {e : IE} {es : IEs} {P : List Cell × Sl → Prop} (h : (evf G e true st).All (fun p => (evcf G es p.2).All (fun q => P (p.1.fz :: q.1, q.2)) E) E) : (evcf G (.cons e es) st).All P E := by
  unfold evcf
  exact T.all_bind' _ (T.all_mono (fun p hr => T.all_bind' _ (T.all_mono (fun _ h => h) (fun _ _ _ h => h) _ hr)) (fun _ _ _ h => h) _ h)
theorem evc_nil {P : List Cell × Sl → Prop} (h : P ([], st)) : (evcf G .nil st).All P E := by
  unfold evcf
  exact h
theorem tup_all {es : IEs} {k : Bool} {P : Cell × Sl → Prop} (h : (evsf G es st).All (fun q => q.1.length ≤ LINE ∧ P (.sh (.tuple q.1), q.2)) E) : (evf G (.tup es) k st).All P E := by
  unfold evf
  refine T.all_bind' _ (T.all_mono (fun q ⟨h1, h2⟩ => ?_) (fun _ _ _ h => h) _ h)
  rw [if_pos h1]
  exact h2
theorem lst_all {es : IEs} {k : Bool} {P : Cell × Sl → Prop} (h : (evsf G es st).All (fun q => q.1.length ≤ LINE ∧ P (.ow q.1, q.2)) E) : (evf G (.lst es) k st).All P E := by
  unfold evf
  refine T.all_bind' _ (T.all_mono (fun q ⟨h1, h2⟩ => ?_) (fun _ _ _ h => h) _ h)
  rw [if_pos h1]
  exact h2
/-- a call that raises nothing -/
theorem ecall_all {f : Nat} {as : IEs} {k : Bool} {P : Cell × Sl → Prop} (h : (evcf G as st).All (fun p => (G.cl f p.1 p.2.n).All (fun c => P (c.1, p.2.spent c.2)) (fun _ _ _ => False)) E) : (evf G (.call f as) k st).All P E := by
  unfold evf
  exact T.all_bind' _ (T.all_mono (fun p hp => T.call_all hp fun c hc => hc) (fun _ _ _ h => h) _ h)
theorem set_all {i : Nat} {e : IE} {P : Out × Sl → Prop} (h : (evf G e true st).All (fun p => P (.nx, p.2.set i (some p.1))) E) : (exf G (.set i e) st).All P E := by
  unfold exf
  exact T.all_bind' _ (T.all_mono (fun _ h => h) (fun _ _ _ h => h) _ h)
theorem ret_all {e : IE} {P : Out × Sl → Prop} (h : (evf G e false st).All (fun p => P (.ret p.1, p.2)) E) : (exf G (.ret e) st).All P E := by
  unfold exf
  exact T.all_bind' _ (T.all_mono (fun _ h => h) (fun _ _ _ h => h) _ h)
theorem ss_nx {s : IS} {ss : ISs} {P : Out × Sl → Prop} (h : (exf G s st).All (fun p => p.1 = .nx ∧ (exsf G ss p.2).All P E) E) : (exsf G (.cons s ss) st).All P E := by
  unfold exsf
  refine T.all_bind' _ (T.all_mono (fun p ⟨h1, h2⟩ => ?_) (fun _ _ _ h => h) _ h)
  obtain ⟨o, s'⟩ := p
  subst h1
  exact h2
theorem ss_pure {s : IS} {ss : ISs} {st' : Sl} {P : Out × Sl → Prop} (h : exf G s st = .ok (.nx, st')) (hr : (exsf G ss st').All P E) : (exsf G (.cons s ss) st).All P E := by
  unfold exsf
  rw [h]
  exact hr
theorem ss_ret {s : IS} {ss : ISs} {P : Out × Sl → Prop} (h : (exf G s st).All (fun p => ∃ c, p.1 = .ret c ∧ P p) E) : (exsf G (.cons s ss) st).All P E := by
  unfold exsf
  refine T.all_bind' _ (T.all_mono (fun p ⟨c, h1, h2⟩ => ?_) (fun _ _ _ h => h) _ h)
  obtain ⟨o, s'⟩ := p
  have h1 : o = .ret c := h1
  subst h1
  exact h2
theorem ss_nil {P : Out × Sl → Prop} (h : P (.nx, st)) : (exsf G .nil st).All P E := by
  unfold exsf
  exact h
end
/-! the same, as structures, so that nothing is unfolded on the way -/
structure PU (G : Env) (st : Sl) (e : IE) (c : Cell) : Prop where
  h : evf G e true st = .ok (c, st)
structure AE (G : Env) (st : Sl) (e : IE) (k : Bool) (P : Cell × Sl → Prop) (E : Nat → List D → Sl → Prop) : Prop where
  h : (evf G e k st).All P E
structure AEs (G : Env) (st : Sl) (es : IEs) (P : List D × Sl → Prop) (E : Nat → List D → Sl → Prop) : Prop where
  h : (evsf G es st).All P E
structure AC (G : Env) (st : Sl) (es : IEs) (P : List Cell × Sl → Prop) (E : Nat → List D → Sl → Prop) : Prop where
  h : (evcf G es st).All P E
structure AX (G : Env) (st : Sl) (s : IS) (P : Out × Sl → Prop) (E : Nat → List D → Sl → Prop) : Prop where
  h : (exf G s st).All P E
structure AS (G : Env) (st : Sl) (ss : ISs) (P : Out × Sl → Prop) (E : Nat → List D → Sl → Prop) : Prop where
  h : (exsf G ss st).All P E
/-- what a call tells -/
structure AT (t : T (Cell × Nat)) (Q : Cell × Nat → Prop) : Prop where
  h : t.All Q (fun _ _ _ => False)
section
variable {G : Env} {E : Nat → List D → Sl → Prop} {st : Sl}
theorem AEs.pure {e : IE} {es : IEs} {c : Cell} {d : D} {P : List D × Sl → Prop} (h : PU G st e c) (hc : c.fz.sh? = some d) (hr : AEs G st es (fun q => P (d :: q.1, q.2)) E) : AEs G st (.cons e es) P E := ⟨evs_pure h.h hc hr.h⟩
theorem AEs.cons {e : IE} {es : IEs} {P : List D × Sl → Prop} (h : AE G st e true (fun p => ∃ d, p.1.fz.sh? = some d ∧ AEs G p.2 es (fun q => P (d :: q.1, q.2)) E) E) : AEs G st (.cons e es) P E :=
  ⟨evs_cons (T.all_mono (fun _ ⟨d, h1, h2⟩ => ⟨d, h1, h2.h⟩) (fun _ _ _ h => h) _ h.h)⟩
theorem AEs.nil {P : List D × Sl → Prop} (h : P ([], st)) : AEs G st .nil P E := ⟨evs_nil h⟩
theorem AC.pure {e : IE} {es : IEs} {c : Cell} {P : List Cell × Sl → Prop} (h : PU G st e c) (hr : AC G st es (fun q => P (c.fz :: q.1, q.2)) E) : AC G st (.cons e es) P E := ⟨evc_pure h.h hr.h⟩
theorem AC.cons {e : IE} {es : IEs} {P : List Cell × Sl → Prop} (h : AE G st e true (fun p => AC G p.2 es (fun q => P (p.1.fz :: q.1, q.2)) E) E) : AC G st (.cons e es) P E :=
  ⟨evc_cons (T.all_mono (fun _ h => h.h) (fun _ _ _ h => h) _ h.h)⟩
theorem AC.nil {P : List Cell × Sl → Prop} (h : P ([], st)) : AC G st .nil P E := ⟨evc_nil h⟩
theorem AE.tup {es : IEs} {k : Bool} {P : Cell × Sl → Prop} (h : AEs G st es (fun q => q.1.length ≤ LINE ∧ P (.sh (.tuple q.1), q.2)) E) : AE G st (.tup es) k P E := ⟨tup_all h.h⟩
theorem AE.lst {es : IEs} {k : Bool} {P : Cell × Sl → Prop} (h : AEs G st es (fun q => q.1.length ≤ LINE ∧ P (.ow q.1, q.2)) E) : AE G st (.lst es) k P E := ⟨lst_all h.h⟩
theorem AE.call {f : Nat} {as : IEs} {k : Bool} {P : Cell × Sl → Prop} (h : AC G st as (fun p => AT (G.cl f p.1 p.2.n) (fun c => P (c.1, p.2.spent c.2))) E) : AE G st (.call f as) k P E :=
  ⟨ecall_all (T.all_mono (fun _ h => h.h) (fun _ _ _ h => h) _ h.h)⟩
theorem AE.pure {e : IE} {c : Cell} {P : Cell × Sl → Prop} (h : PU G st e c) (hp : P (c, st)) : AE G st e true P E := ⟨by rw [h.h]; exact hp⟩
theorem AX.set {i : Nat} {e : IE} {P : Out × Sl → Prop} (h : AE G st e true (fun p => P (.nx, p.2.set i (some p.1))) E) : AX G st (.set i e) P E := ⟨set_all h.h⟩
theorem AX.ret {e : IE} {P : Out × Sl → Prop} (h : AE G st e false (fun p => P (.ret p.1, p.2)) E) : AX G st (.ret e) P E := ⟨ret_all h.h⟩
theorem AS.nx {s : IS} {ss : ISs} {P : Out × Sl → Prop} (h : AX G st s (fun p => p.1 = .nx ∧ AS G p.2 ss P E) E) : AS G st (.cons s ss) P E := ⟨ss_nx (T.all_mono (fun _ ⟨h1, h2⟩ => ⟨h1, h2.h⟩) (fun _ _ _ h => h) _ h.h)⟩
theorem AS.pure {s : IS} {ss : ISs} {st' : Sl} {P : Out × Sl → Prop} (h : exf G s st = .ok (.nx, st')) (hr : AS G st' ss P E) : AS G st (.cons s ss) P E := ⟨ss_pure h hr.h⟩
theorem AS.ret {s : IS} {ss : ISs} {P : Out × Sl → Prop} (h : AX G st s (fun p => ∃ c, p.1 = .ret c ∧ P p) E) : AS G st (.cons s ss) P E := ⟨ss_ret h.h⟩
theorem AS.nil {P : Out × Sl → Prop} (h : P (.nx, st)) : AS G st .nil P E := ⟨ss_nil h⟩
theorem AT.imp {t : T (Cell × Nat)} {Q Q' : Cell × Nat → Prop} (h : AT t Q) (i : ∀ c, Q c → Q' c) : AT t Q' := ⟨T.all_mono (fun c hc => i c hc) (fun _ _ _ h => h) _ h.h⟩
end
end Rf
set_option Elab.async false
set_option linter.all false
set_option maxRecDepth 100000
set_option maxHeartbeats 4000000
/-! P73: the law's plain part. -/
namespace Rf
open PySem
def FUEL : Nat := 10000
def l0 : D := .tuple [.tuple [], .tuple [.int 0, .int 1], .tuple [.int 0, .int 1]]
def l1 : D := .tuple [.tuple [.int (-1), .int 0, .int 2], .tuple [.int 1, .int 2], .tuple [.int 1, .int 1]]
def l2 : D := .tuple [.tuple [.int 0, .int 2], .tuple [.int 1, .int 3]]
def link : D := .tuple [l0, l1, l2]
section
variable {cl : Nat → List Cell → Nat → T (Cell × Nat)} {cm : Nat → T Cell → T Cell} {Ro Ke Pa : List D}
/-- law_right's slots -/
def stR (a b c d : Option Cell) (n : Nat) : Sl := ⟨[some .st, a, b, c, d, none], n⟩
def benL (Ro Ke : List D) (b : D) : Prop := b = .none ∨ b = .tuple [l0, l1] ∨ b = .tuple [l0, l1, l2, .none] ∨ b = .list [l0, l1, l2] ∨ (∃ r ∈ Ro, b = .tuple [r, l1, l2]) ∨ (∃ r ∈ Ro, b = .tuple [l0, r, l2]) ∨ ∃ k ∈ Ke, b = .tuple [l0, l1, k]
def oddL (b o : D) : Prop := o = .none ∨ o = .list [link] ∨ o = .int 5 ∨ o = .tuple [b] ∨ o = .tuple [link, b] ∨ o = .tuple [b, link] ∨ o = .tuple [link, link, .none]
def wroL (Pa : List D) (o w : D) : Prop := w ∈ Pa ∨ w = .tuple [.str "led", .tuple [o]] ∨ w = .tuple [.str "led", .tuple [.tuple [link], o]]
/-! law_right by parts -/
def lk : IE := .var 1
def x2 : IE := .slc (.var 1) .none (.some (.con (.int 2)))
def x3 : IE := .bin .add (.var 1) (.tup (.cons (.con .none) .nil))
def x4 : IE := .bi .list (.cons (.var 1) .nil)
def i0 : IE := .idx (.var 1) (.con (.int 0))
def i1 : IE := .idx (.var 1) (.con (.int 1))
def i2 : IE := .idx (.var 1) (.con (.int 2))
def s1R : IS := match b_70 with
  | .cons s _ => s
  | _ => .pass
def v0 : IE := .var 0
def cN : IE := .con .none
def c5 : IE := .con (.int 5)
def cL : IE := .con (.str "led")
def vb : IE := .var 2
def vo : IE := .var 3
def yl : IE := .lst (.cons (.var 1) .nil)
def y4 : IE := .tup (.cons (.var 2) .nil)
def y5 : IE := .tup (.cons (.var 1) (.cons (.var 2) .nil))
def y6 : IE := .tup (.cons (.var 2) (.cons (.var 1) .nil))
def y7 : IE := .tup (.cons (.var 1) (.cons (.var 1) (.cons (.con .none) .nil)))
def z2 : IE := .tup (.cons (.con (.str "led")) (.cons (.tup (.cons (.var 3) .nil)) .nil))
def z3 : IE := .tup (.cons (.con (.str "led")) (.cons (.tup (.cons (.tup (.cons (.var 1) .nil)) (.cons (.var 3) .nil))) .nil))
def restR : ISs := match b_70 with
  | .cons _ (.cons _ (.cons _ (.cons _ r))) => r
  | _ => .nil
theorem b70 : b_70 = .cons s1R (.cons (.set 2 (.call 64 (.cons v0 (.cons (.lst (.cons cN (.cons x2 (.cons x3 (.cons x4 (.cons (.tup (.cons (.call 67 (.cons v0 .nil)) (.cons i1 (.cons i2 .nil)))) (.cons (.tup (.cons i0 (.cons (.call 67 (.cons v0 .nil)) (.cons i2 .nil)))) (.cons (.tup (.cons i0 (.cons i1 (.cons (.call 68 (.cons v0 .nil)) .nil)))) .nil)))))))) .nil))))
  (.cons (.set 3 (.call 64 (.cons v0 (.cons (.lst (.cons cN (.cons yl (.cons c5 (.cons y4 (.cons y5 (.cons y6 (.cons y7 .nil)))))))) .nil))))
  (.cons (.set 4 (.call 64 (.cons v0 (.cons (.lst (.cons (.call 69 (.cons v0 .nil)) (.cons z2 (.cons z3 .nil)))) .nil)))) restR))) := by kernel_rfl
section
variable {G : Env} {a b c d : D} {n : Nat}
theorem pv0 {w x y z : Option Cell} : PU G (stR w x y z n) v0 (.st) := ⟨by kernel_rfl⟩
theorem pcN {st : Sl} : PU G st cN (.sh .none) := ⟨by kernel_rfl⟩
theorem pc5 {st : Sl} : PU G st c5 (.sh (.int 5)) := ⟨by kernel_rfl⟩
theorem px2 {x y z : Option Cell} : PU G (stR (some (.sh link)) x y z n) x2 (.sh (.tuple [l0, l1])) := ⟨by kernel_rfl⟩
theorem px3 {x y z : Option Cell} : PU G (stR (some (.sh link)) x y z n) x3 (.sh (.tuple [l0, l1, l2, .none])) := ⟨by kernel_rfl⟩
theorem px4 {x y z : Option Cell} : PU G (stR (some (.sh link)) x y z n) x4 (.ow [l0, l1, l2]) := ⟨by kernel_rfl⟩
theorem pi0 {x y z : Option Cell} : PU G (stR (some (.sh link)) x y z n) i0 (.sh l0) := ⟨by kernel_rfl⟩
theorem pi1 {x y z : Option Cell} : PU G (stR (some (.sh link)) x y z n) i1 (.sh l1) := ⟨by kernel_rfl⟩
theorem pi2 {x y z : Option Cell} : PU G (stR (some (.sh link)) x y z n) i2 (.sh l2) := ⟨by kernel_rfl⟩
theorem pyl {x y z : Option Cell} : PU G (stR (some (.sh link)) x y z n) yl (.ow [link]) := ⟨by kernel_rfl⟩
theorem py4 {y z : Option Cell} : PU G (stR (some (.sh link)) (some (.sh b)) y z n) y4 (.sh (.tuple [b])) := ⟨by kernel_rfl⟩
theorem py5 {y z : Option Cell} : PU G (stR (some (.sh link)) (some (.sh b)) y z n) y5 (.sh (.tuple [link, b])) := ⟨by kernel_rfl⟩
theorem py6 {y z : Option Cell} : PU G (stR (some (.sh link)) (some (.sh b)) y z n) y6 (.sh (.tuple [b, link])) := ⟨by kernel_rfl⟩
theorem py7 {y z : Option Cell} : PU G (stR (some (.sh link)) (some (.sh b)) y z n) y7 (.sh (.tuple [link, link, .none])) := ⟨by kernel_rfl⟩
theorem pz2 {x z : Option Cell} : PU G (stR (some (.sh link)) x (some (.sh c)) z n) z2 (.sh (.tuple [.str "led", .tuple [c]])) := ⟨by kernel_rfl⟩
theorem pz3 {x z : Option Cell} : PU G (stR (some (.sh link)) x (some (.sh c)) z n) z3 (.sh (.tuple [.str "led", .tuple [.tuple [link], c]])) := ⟨by kernel_rfl⟩
theorem ps1 : exf G s1R ⟨[some .st, none, none, none, none, none], 9⟩ = .ok (.nx, stR (some (.sh link)) none none none 9) := by kernel_rfl
end
theorem right_sym (h64 : ∀ (xs : List D) (n : Nat), xs ≠ [] → xs.length ≤ 1000 → AT (cl 64 [.st, .sh (.list xs)] (n + 1)) (fun p => ∃ d ∈ xs, p = (.sh d, n)))
    (h67 : ∀ n, AT (cl 67 [.st] (n + 1)) (fun p => ∃ d ∈ Ro, p = (.sh d, n))) (h68 : ∀ n, AT (cl 68 [.st] (n + 1)) (fun p => ∃ d ∈ Ke, p = (.sh d, n))) (h69 : ∀ n, AT (cl 69 [.st] (n + 3)) (fun p => ∃ d ∈ Pa, p = (.sh d, n)))
    {P : Out × Sl → Prop} {E : Nat → List D → Sl → Prop} (hK : ∀ b o w, benL Ro Ke b → oddL b o → wroL Pa o w → AS ⟨cl, cm, .bad, pr_.gl, FUEL⟩ (stR (some (.sh link)) (some (.sh b)) (some (.sh o)) (some (.sh w)) 0) restR P E) :
    AS ⟨cl, cm, .bad, pr_.gl, FUEL⟩ ⟨[some .st, none, none, none, none, none], 9⟩ b_70 P E := by
  rw [b70]
  refine .pure ps1 (.nx (.set (.call (.pure pv0 (.cons (.lst (.pure pcN rfl (.pure px2 rfl (.pure px3 rfl (.pure px4 rfl (.cons (.tup (.cons (.call (.pure pv0 (.nil ((h67 8).imp ?_)))))))))))))))))
  rintro _ ⟨r1, hr1, rfl⟩
  try dsimp only [Cell.fz, Sl.spent, Sl.set, List.set, stR]
  refine ⟨r1, rfl, .pure pi1 rfl (.pure pi2 rfl (.nil ⟨by simp [LINE], _, rfl, .cons (.tup (.pure pi0 rfl (.cons (.call (.pure pv0 (.nil ((h67 7).imp ?_)))))))⟩))⟩
  rintro _ ⟨r2, hr2, rfl⟩
  try dsimp only [Cell.fz, Sl.spent, Sl.set, List.set, stR]
  refine ⟨r2, rfl, .pure pi2 rfl (.nil ⟨by simp [LINE], _, rfl, .cons (.tup (.pure pi0 rfl (.pure pi1 rfl (.cons (.call (.pure pv0 (.nil ((h68 6).imp ?_))))))))⟩)⟩
  rintro _ ⟨k, hk, rfl⟩
  try dsimp only [Cell.fz, Sl.spent, Sl.set, List.set, stR]
  refine ⟨k, rfl, .nil ⟨by simp [LINE], _, rfl, .nil ⟨by simp [LINE], .nil ((h64 _ 5 (by simp) (by simp)).imp ?_)⟩⟩⟩
  rintro _ ⟨b, hb, rfl⟩
  try dsimp only [Cell.fz, Sl.spent, Sl.set, List.set, stR]
  have hb : benL Ro Ke b := by
    simp only [List.mem_cons, List.not_mem_nil, or_false] at hb
    rcases hb with h | h | h | h | h | h | h
    · exact .inl h
    · exact .inr (.inl h)
    · exact .inr (.inr (.inl h))
    · exact .inr (.inr (.inr (.inl h)))
    · exact .inr (.inr (.inr (.inr (.inl ⟨r1, hr1, h⟩))))
    · exact .inr (.inr (.inr (.inr (.inr (.inl ⟨r2, hr2, h⟩)))))
    · exact .inr (.inr (.inr (.inr (.inr (.inr ⟨k, hk, h⟩)))))
  refine ⟨rfl, ?_⟩
  show AS _ (stR (some (.sh link)) (some (.sh b)) none none 5) _ P E
  refine .nx (.set (.call (.pure pv0 (.cons (.lst (.pure pcN rfl (.pure pyl rfl (.pure pc5 rfl (.pure py4 rfl (.pure py5 rfl (.pure py6 rfl (.pure py7 rfl (.nil ⟨by simp [LINE], .nil ((h64 _ 4 (by simp) (by simp)).imp ?_)⟩)))))))))))))
  rintro _ ⟨o, ho, rfl⟩
  try dsimp only [Cell.fz, Sl.spent, Sl.set, List.set, stR]
  have ho : oddL b o := by
    simp only [List.mem_cons, List.not_mem_nil, or_false] at ho
    exact ho
  refine ⟨rfl, ?_⟩
  show AS _ (stR (some (.sh link)) (some (.sh b)) (some (.sh o)) none 4) _ P E
  refine .nx (.set (.call (.pure pv0 (.cons (.lst (.cons (.call (.pure pv0 (.nil ((h69 1).imp ?_))))))))))
  rintro _ ⟨w0, hw0, rfl⟩
  try dsimp only [Cell.fz, Sl.spent, Sl.set, List.set, stR]
  refine ⟨w0, rfl, .pure pz2 rfl (.pure pz3 rfl (.nil ⟨by simp [LINE], .nil ((h64 _ 0 (by simp) (by simp)).imp ?_)⟩))⟩
  rintro _ ⟨w, hw, rfl⟩
  try dsimp only [Cell.fz, Sl.spent, Sl.set, List.set, stR]
  have hw : wroL Pa o w := by
    simp only [List.mem_cons, List.not_mem_nil, or_false] at hw
    rcases hw with h | h | h
    · exact .inl (h ▸ hw0)
    · exact .inr (.inl h)
    · exact .inr (.inr h)
  exact ⟨rfl, hK b o w hb ho hw⟩
end
end Rf
set_option Elab.async false
set_option linter.all false
set_option maxRecDepth 100000
set_option maxHeartbeats 4000000
/-! P73b: law_right's end; the defs that the law itself brings. -/
namespace Rf
open PySem
section
variable {G : Env} {E : Nat → List D → Sl → Prop} {st : Sl}
theorem PU.lam {f g x : Nat} {e : IE} {d r : D} {as : List D} {s' : Sl} (hv : PU G (Sl.shared st) e (.sh d)) (hcl : G.cl g [.sh d] 0 = .ex x as s') (hcm : ∀ s, G.cm f (.ex x as s) = .ok (.sh r)) : PU G st (.lam f (.call g (.cons e .nil))) (.sh r) := ⟨by
  have e0 : evcf G (.cons e .nil) (Sl.shared st) = .ok ([.sh d], Sl.shared st) := by
    unfold evcf
    rw [hv.h]
    rfl
  have e1 : evf G (.call g (.cons e .nil)) true (Sl.shared st) = .ex x as ((Sl.shared st).spent s'.n) := by
    unfold evf
    rw [e0]
    show ((T.at_ (Sl.shared st) (G.cl g [.sh d] 0)).bind _) = _
    rw [hcl]
    rfl
  unfold evf
  rw [e1]
  show ((T.noex (G.cm f (.ex x as _))).bind _) = _
  rw [hcm]
  rfl⟩
theorem app_pu {i : Nat} {e : IE} {c : Cell} {d : D} {ds : List D} (h : PU G st e c) (hc : c.fz.sh? = some d) (h1 : (slot? st i).bind Cell.ow? = some ds) (hl : ds.length < LINE) : exf G (.app i e) st = .ok (.nx, st.set i (some (.ow (ds ++ [d])))) := by
  unfold exf
  rw [h1]
  show ((evf G e true st).bind _) = _
  rw [h.h]
  show ((T.opt c.fz.sh?).bind _) = _
  rw [hc]
  show ((T.opt ((slot? st i).bind Cell.ow?)).bind _) = _
  rw [h1]
  show (if ds.length < LINE then _ else _) = _
  rw [if_pos hl]
end
def vw : IE := .var 4
def v5 : IE := .var 5
def dueE : IE := .bin .add (.bin .mul (.lst (.cons (.tup (.cons (.con (.str "parameter")) (.cons (.var 3) (.cons (.con (.bool true)) .nil)))) .nil)) (.con (.int 2))) (.bin .mul (.lst (.cons (.tup (.cons (.con (.str "parameter")) (.cons (.var 4) (.cons (.con (.bool true)) .nil)))) .nil)) (.con (.int 2)))
def told (k : Str) (d : D) : D := .tuple [.str k, d, .bool true]
def stF (b o w : D) (x : Option Cell) (n : Nat) : Sl := ⟨[some .st, some (.sh link), some (.sh b), some (.sh o), some (.sh w), x], n⟩
theorem rest_eq : restR = .cons (.set 5 (.lst (.cons (.lam 66 (.call 48 (.cons vo .nil))) .nil))) (.cons (.app 5 (.lam 66 (.call 61 (.cons vo .nil)))) (.cons (.app 5 (.lam 66 (.call 49 (.cons vw .nil)))) (.cons (.app 5 (.lam 66 (.call 62 (.cons vw .nil)))) (.cons (.ret (.call 65 (.cons v5 (.cons dueE .nil)))) .nil)))) := by kernel_rfl
section
variable {G : Env} {b o w : D} {x : Option Cell} {n : Nat}
theorem pvo : PU G (stF b o w x n) vo (.sh o) := ⟨by kernel_rfl⟩
theorem pvw : PU G (stF b o w x n) vw (.sh w) := ⟨by kernel_rfl⟩
theorem pdue : PU G (stF b o w x n) dueE (.ow [told "parameter" o, told "parameter" o, told "parameter" w, told "parameter" w]) := ⟨by kernel_rfl⟩
theorem pv5 {ds : List D} : evf G v5 true (stF b o w (some (.ow ds)) n) = .ok (.sh (.list ds), stF b o w (some (.sh (.list ds))) n) := by kernel_rfl
theorem sh_F : Sl.shared (stF b o w none n) = stF b o w none 0 := rfl
theorem sh_F' {ds : List D} : Sl.shared (stF b o w (some (.ow ds)) n) = stF b o w none 0 := rfl
theorem rest_sym {P : Out × Sl → Prop} {E : Nat → List D → Sl → Prop} (h48 : ∃ s, G.cl 48 [.sh o] 0 = .ex 3 [o] s) (h61 : ∃ s, G.cl 61 [.sh o] 0 = .ex 3 [o] s) (h49 : ∃ s, G.cl 49 [.sh w] 0 = .ex 3 [w] s) (h62 : ∃ s, G.cl 62 [.sh w] 0 = .ex 3 [w] s)
    (h66 : ∀ d s, G.cm 66 (.ex 3 [d] s) = .ok (.sh (told "parameter" d)))
    (h65 : AT (G.cl 65 [.sh (.list [told "parameter" o, told "parameter" o, told "parameter" w, told "parameter" w]), .sh (.list [told "parameter" o, told "parameter" o, told "parameter" w, told "parameter" w])] 0) (fun p => p = (.sh (.bool true), 0)))
    (hP : ∀ s, s.n = 0 → P (.ret (.sh (.bool true)), s)) : AS G (stF b o w none 0) restR P E := by
  obtain ⟨s1, h48⟩ := h48
  obtain ⟨s2, h61⟩ := h61
  obtain ⟨s3, h49⟩ := h49
  obtain ⟨s4, h62⟩ := h62
  rw [rest_eq]
  have p1 : PU G (stF b o w none 0) (.lam 66 (.call 48 (.cons vo .nil))) (.sh (told "parameter" o)) := PU.lam (by rw [sh_F]; exact pvo) h48 (h66 o)
  have p2 : ∀ ds, PU G (stF b o w (some (.ow ds)) 0) (.lam 66 (.call 61 (.cons vo .nil))) (.sh (told "parameter" o)) := fun ds => PU.lam (by rw [sh_F']; exact pvo) h61 (h66 o)
  have p3 : ∀ ds, PU G (stF b o w (some (.ow ds)) 0) (.lam 66 (.call 49 (.cons vw .nil))) (.sh (told "parameter" w)) := fun ds => PU.lam (by rw [sh_F']; exact pvw) h49 (h66 w)
  have p4 : ∀ ds, PU G (stF b o w (some (.ow ds)) 0) (.lam 66 (.call 62 (.cons vw .nil))) (.sh (told "parameter" w)) := fun ds => PU.lam (by rw [sh_F']; exact pvw) h62 (h66 w)
  refine .nx (.set (.lst (.pure p1 rfl (.nil ⟨by simp [LINE], rfl, ?_⟩))))
  show AS G (stF b o w (some (.ow [told "parameter" o])) 0) _ P E
  refine .pure (st' := stF b o w (some (.ow [told "parameter" o, told "parameter" o])) 0) (app_pu (ds := [told "parameter" o]) (p2 _) rfl rfl (by simp [LINE])) ?_
  refine .pure (st' := stF b o w (some (.ow [told "parameter" o, told "parameter" o, told "parameter" w])) 0) (app_pu (ds := [told "parameter" o, told "parameter" o]) (p3 _) rfl rfl (by simp [LINE])) ?_
  refine .pure (st' := stF b o w (some (.ow [told "parameter" o, told "parameter" o, told "parameter" w, told "parameter" w])) 0) (app_pu (ds := [told "parameter" o, told "parameter" o, told "parameter" w]) (p4 _) rfl rfl (by simp [LINE])) ?_
  refine .ret (.ret (.call (.cons ⟨?_⟩)))
  rw [pv5]
  refine .pure pdue (.nil (h65.imp ?_))
  rintro _ rfl
  exact ⟨_, rfl, hP _ rfl⟩
end
end Rf
set_option Elab.async false
set_option linter.all false
set_option maxRecDepth 100000
set_option maxHeartbeats 4000000
/-! P73c: what the law's small defs tell. -/
namespace Rf
open PySem
/-- a def is what its body tells -/
theorem run_all {P : Pr} {fuel k f N m c n : Nat} {as : List Cell} {body : ISs} {Q : Cell × Nat → Prop} (h : P.fs[f]? = some (.code N m c body)) (hl : as.length = m) (hA : AS ⟨(runf P fuel k).1, (runf P fuel k).2, .bad, P.gl, fuel⟩ (entry N as c) body (fun p => ∃ d s, p = (.ret d, s) ∧ Q (d, n + s.n)) (fun _ _ _ => False)) : AT ((runf P fuel (k + 1)).1 f as (n + c)) Q := ⟨by
  show (runBf P fuel _ _ _ f as (n + c)).All _ _
  unfold runBf
  rw [h]
  dsimp only
  rw [if_pos hl, Nat.ble_eq_true_of_le (Nat.le_add_left c n), Nat.add_sub_cancel n c]
  refine T.all_give' _ (T.all_bind' _ (T.all_mono (fun p ⟨d, s, e, q⟩ => ?_) (fun _ _ _ h => False.elim h) _ hA.h))
  rw [e]
  exact q⟩
theorem draw_63 {k n : Nat} {l : Nat} (h0 : 0 < l) (h1 : l ≤ 1000) : (runf pr_ FUEL (k + 1)).1 63 [.st, .sh (.int l)] (n + 1) = .draw l fun j => .ok (.sh (.int j), n) := by
  have e : (runf pr_ FUEL (k + 1)).1 63 [.st, .sh (.int l)] (n + 1) = drawn [.st, .sh (.int l)] (n + 1) := by kernel_rfl
  rw [e]
  unfold drawn
  have e2 : (0 < (l : Int) ∧ (l : Int).natAbs.log2 < 9000) := by
    refine ⟨by omega, ?_⟩
    rw [Int.natAbs_natCast]
    exact Nat.lt_of_le_of_lt (Nat.log2_le_self l) (by omega)
  show (if (0 < (l : Int) ∧ (l : Int).natAbs.log2 < 9000) then T.draw (l : Int).toNat (fun j => T.ok (Cell.sh (.int j), n)) else .bad) = _
  rw [if_pos e2]
  rfl
theorem of_64 {k : Nat} (xs : List D) (n : Nat) (h : xs ≠ []) (hl : xs.length ≤ 1000) : AT ((runf pr_ FUEL (k + 2)).1 64 [.st, .sh (.list xs)] (n + 1)) (fun p => ∃ d ∈ xs, p = (.sh d, n)) := by
  refine run_all (c := 1) (N := 2) (m := 2) (body := b_64) rfl rfl ?_
  show AS _ ⟨[some .st, some (.sh (.list xs))], 1⟩ _ _ _
  unfold b_64
  refine .ret (.ret ⟨?_⟩)
  have h0 : 0 < xs.length := List.length_pos_iff.mpr h
  have e1 : ∀ G, evf G (.var 1) false ⟨[some .st, some (.sh (.list xs))], 1⟩ = .ok (.sh (.list xs), ⟨[some .st, some (.sh (.list xs))], 1⟩) := fun G => by kernel_rfl
  have e2 : ∀ G, evcf G (.cons (.var 0) (.cons (.bi .len (.cons (.var 1) .nil)) .nil)) ⟨[some .st, some (.sh (.list xs))], 1⟩ = .ok ([.st, .sh (.int xs.length)], ⟨[some .st, some (.sh (.list xs))], 1⟩) := fun G => by kernel_rfl
  unfold evf
  rw [e1]
  show (T.bind (evf _ (.call 63 _) false _) _).All _ _
  unfold evf
  rw [e2]
  show (T.bind (T.bind (T.at_ _ ((runf pr_ FUEL (k + 1)).1 63 [.st, .sh (.int xs.length)] (0 + 1))) _) _).All _ _
  rw [draw_63 h0 hl]
  intro j hj
  have e3 : opIdx (.sh (.list xs)) (.sh (.int j)) = some xs[j] := by
    show (match ixOf xs.length j with
        | some j => xs[j]?
        | none => none) = _
    have : ixOf xs.length j = some j := by
      unfold ixOf
      rw [if_pos (by omega), if_pos (by omega)]
      rfl
    rw [this]
    exact List.getElem?_eq_getElem hj
  show ((T.opt (opIdx (.sh (.list xs)) (.sh (.int j)))).bind _).All _ _
  rw [e3]
  exact ⟨_, rfl, _, _, rfl, _, List.getElem_mem hj, rfl⟩
theorem told_66 {k : Nat} {d : D} {s : Sl} : (runf pr_ FUEL (k + 1)).2 66 (.ex 3 [d] s) = .ok (.sh (told "parameter" d)) := by kernel_rfl
theorem like_65 {k : Nat} {xs : List D} (h : showOk (.list xs) = true) : AT ((runf pr_ FUEL (k + 1)).1 65 [.sh (.list xs), .sh (.list xs)] 0) (fun p => p = (.sh (.bool true), 0)) := by
  refine run_all (n := 0) (c := 0) (N := 2) (m := 2) (body := b_65) rfl rfl ?_
  show AS _ ⟨[some (.sh (.list xs)), some (.sh (.list xs))], 0⟩ _ _ _
  unfold b_65
  refine .ret (.ret ⟨?_⟩)
  have e1 : reqOf (.sh (.list xs)) (.sh (.list xs)) = some true := by
    show (if (showOk (.list xs) && showOk (.list xs)) = true then some (decide ((PyData.shown (.list xs)) = PyData.shown (.list xs))) else none) = _
    rw [h]
    simp
  unfold evf
  show (T.bind (T.opt (reqOf (.sh (.list xs)) (.sh (.list xs)))) _).All _ _
  rw [e1]
  exact ⟨_, rfl, _, _, rfl, rfl⟩
end Rf
set_option Elab.async false
set_option linter.all false
set_option maxRecDepth 100000
set_option maxHeartbeats 4000000
/-! P73d: tables of what is known of some calls; the lists that the law draws from. -/
namespace Rf
open PySem
/-! ### the evaluator with a table -/
def look (tab : Nat → D → Option Bool) (f : Nat) (as : List Cell) (b : Nat) : Option (T (Cell × Nat)) := match as with
  | [.sh d] => (match b with
    | 0 => (match tab f d with
      | some v => some (.ok (.sh (.bool v), 0))
      | none => none)
    | _ + 1 => none)
  | _ => none
def runM (tab : Nat → D → Option Bool) (P : Pr) (fuel k0 : Nat) : Nat → (Nat → List Cell → Nat → T (Cell × Nat)) × (Nat → T Cell → T Cell)
  | 0 => runf P fuel k0
  | j + 1 =>
    let r := runM tab P fuel k0 j
    (fun f as b => match look tab f as b with
      | some t => t
      | none => runBf P fuel r.1 r.2 .bad f as b, fun f am => (runBf P fuel r.1 r.2 am f [.amb] 0).bind fun p => .ok p.1)
theorem runM_ok {tab : Nat → D → Option Bool} {P : Pr} {fuel k0 : Nat} (h : ∀ k f d v, tab f d = some v → (runf P fuel (k + k0 + 1)).1 f [.sh d] 0 = .ok (.sh (.bool v), 0)) : ∀ j, runM tab P fuel k0 j = runf P fuel (j + k0)
  | 0 => by rw [Nat.zero_add]; rfl
  | j + 1 => by
    have ih := runM_ok h j
    rw [show j + 1 + k0 = (j + k0) + 1 by omega]
    unfold runM
    rw [ih]
    have e : ∀ f as b, (match look tab f as b with
      | some t => t
      | none => runBf P fuel (runf P fuel (j + k0)).1 (runf P fuel (j + k0)).2 .bad f as b) = (runf P fuel (j + k0 + 1)).1 f as b := by
      intro f as b
      split
      · rename_i t ht
        unfold look at ht
        split at ht
        · rename_i d
          split at ht
          · split at ht
            · rename_i v hv
              cases ht
              exact (h j f d v hv).symm
            · cases ht
          · cases ht
        · cases ht
      · rfl
    show ((fun f as b => match look tab f as b with
      | some t => t
      | none => runBf P fuel (runf P fuel (j + k0)).1 (runf P fuel (j + k0)).2 .bad f as b), _) = runf P fuel (j + k0 + 1)
    rw [show (fun f as b => match look tab f as b with
      | some t => t
      | none => runBf P fuel (runf P fuel (j + k0)).1 (runf P fuel (j + k0)).2 .bad f as b) = (runf P fuel (j + k0 + 1)).1 from funext fun f => funext fun as => funext fun b => e f as b]
    rfl
def isB (v : Bool) : T (Cell × Nat) → Bool
  | .ok (.sh (.bool w), n) => (w == v) && Nat.beq n 0
  | _ => false
theorem isB_ok {v : Bool} : ∀ {t : T (Cell × Nat)}, isB v t = true → t = .ok (.sh (.bool v), 0)
  | .ok (.sh (.bool w), n), h => by
    obtain ⟨h1, h2⟩ := Bool.and_eq_true_iff.mp h
    rw [eq_of_beq h1, Nat.eq_of_beq_eq_true h2]
theorem any_deq {xs : List D} {d : D} (h : xs.any (fun x => deq x d) = true) : d ∈ xs := by
  obtain ⟨x, hx, e⟩ := List.any_eq_true.mp h
  rw [← deq_ok x d e]
  exact hx
theorem all_at {xs : List D} {p : D → Bool} {d : D} (h : xs.all p = true) (hd : d ∈ xs) : p d = true := List.all_eq_true.mp h d hd
namespace T
def inB (xs : List D) (t : T (Cell × Nat)) : Bool := allB (fun p => (match p.1 with | .sh d => xs.any fun x => deq x d | _ => false) && Nat.beq p.2 0) (fun _ _ => false) t
theorem in_ok {xs : List D} : ∀ {t : T (Cell × Nat)}, inB xs t = true → All (fun p => ∃ d ∈ xs, p = (.sh d, 0)) (fun _ _ _ => False) t := fun {t} h => by
  refine all_mono (fun p hp => ?_) (fun _ _ _ h => by cases h) _ (allB_ok t h)
  obtain ⟨c, n⟩ := p
  obtain ⟨h1, h2⟩ := Bool.and_eq_true_iff.mp hp
  have h2 : n = 0 := Nat.eq_of_beq_eq_true h2
  subst h2
  cases c with
  | sh d => exact ⟨d, any_deq h1, rfl⟩
  | _ => cases h1
end T
theorem in_give {P : Pr} {fuel k f N m c : Nat} {as : List Cell} {body : ISs} {xs : List D} (h : P.fs[f]? = some (.code N m c body)) (hf : T.inB xs ((runf P fuel (k + 1)).1 f as c) = true) (n : Nat) :
    AT ((runf P fuel (k + 1)).1 f as (n + c)) (fun p => ∃ d ∈ xs, p = (.sh d, n)) := ⟨by
  rw [run_give h]
  refine T.all_give' _ (T.all_mono (fun p ⟨d, hd, e⟩ => ⟨d, hd, by rw [e]; rfl⟩) (fun _ _ _ h => h) _ (T.in_ok hf))⟩
/-! ### the lists -/
def Ro : List D := [.none, .tuple [], .tuple [.tuple [], .tuple [.int 1, .int 2]], .tuple [.tuple [], .tuple [.int 1, .int 2], .tuple [.int 1, .int 3]], .tuple [.tuple [], .tuple [.int 2, .int 4], .tuple [.int 2, .int 4]], .tuple [.tuple [], .tuple [.int 3, .int 2], .tuple [.int 3, .int 2]], .tuple [.tuple [.int (-1), .int 2], .tuple [.int 1, .int 2], .tuple [.int 1, .int 1]], .tuple [.tuple [.int (-1), .int 2], .tuple [.int 0, .int 1], .tuple [.int 1, .int 4]], .tuple [.tuple [.int (-1), .int 2, .int 0], .tuple [.int 0, .int 1], .tuple [.int 1, .int 1]], .tuple [.tuple [.int 1, .int 1], .tuple [.int 0, .int 1], .tuple [.int 1, .int 1]], .tuple [.tuple [.int (-1), .int 2], .tuple [.int 1, .int 1], .tuple [.int 0, .int 1]], .tuple [.tuple [.int (-1), .int 2], .tuple [.int 0, .int 1], .tuple [.int 0, .int 1]], .tuple [.tuple [.int (-1), .int 2], .tuple [.int (-1), .int 1], .tuple [.int 1, .int 1]], .list [.tuple [], .tuple [.int 0, .int 1], .tuple [.int 0, .int 1]], .tuple [.tuple [.int 1, .int (-4), .int 4], .tuple [.int 0, .int 1], .tuple [.int 1, .int 1]], .tuple [.tuple [.bool true, .int (-2)], .tuple [.int 0, .int 1], .tuple [.int 1, .int 1]], .tuple [.list [.int (-1), .int 2], .tuple [.int 0, .int 1], .tuple [.int 1, .int 1]], .tuple [.tuple [.int 3, .int (-16), .int 16], .tuple [.int 0, .int 1], .tuple [.int 1, .int 1]], .tuple [.tuple [.int (-1), .int 2], .int 0, .int 1], .tuple [.str "", .tuple [.int 0, .int 1], .tuple [.int 0, .int 1]]]
def Ke : List D := [.none, .tuple [], .tuple [.tuple [.int 0]], .tuple [.tuple [], .tuple []], .tuple [.tuple [.int 0, .int 1], .tuple [.int 0]], .tuple [.tuple [.int 1, .int 0], .tuple [.int 0, .int 1]], .tuple [.tuple [.int 0, .int 0], .tuple [.int 0, .int 1]], .tuple [.tuple [.int 4], .tuple [.int 0]], .tuple [.list [.int 0], .tuple [.int 0]], .tuple [.tuple [.int 0], .tuple [.int 0], .tuple [.int 0]], .tuple [.tuple [.bool true], .tuple [.int 0]], .tuple [.tuple [.int (-1)], .tuple [.int 0]], .list [.tuple [.int 0], .tuple [.int 0]], .tuple [.tuple [.int 0], .str "0"]]
def Pa : List D := [.none, .tuple [], .tuple [.str "led"], .tuple [.str "out", .none], .list [.str "led", .tuple []], .tuple [.str "Led", .tuple []], .tuple [.str "led", .none], .tuple [.str "led", .list [.tuple []]], .tuple [.str "out", .tuple [.tuple [.int 1, .int 0, .int 0]]], .tuple [.str "out", .tuple [.tuple [.int 1, .int 0, .int 0], .none]], .tuple [.str "out", .tuple [.none, .tuple [.tuple [.int 1, .int 1]]]], .tuple [.str "led", .tuple [], .tuple []], .tuple [.str "out", .list [.tuple [.int 1, .int 0, .int 0], .tuple [.tuple [.int 1, .int 1]]]], .tuple [.str "out", .tuple [.tuple [.int 0, .int 0, .int 1], .tuple [.tuple [.int 1, .int 1]]]], .tuple [.str "out", .tuple [.tuple [.int 1, .int 0], .tuple [.tuple [.int 1, .int 1]]]], .tuple [.str "out", .tuple [.list [.int 1, .int 0, .int 0], .tuple [.tuple [.int 1, .int 1]]]], .tuple [.str "out", .tuple [.tuple [.int 1, .int 0, .bool true], .tuple [.tuple [.int 1, .int 1]]]], .tuple [.str "out", .tuple [.tuple [.int 1, .str "0", .int 0], .tuple [.tuple [.int 1, .int 1]]]], .tuple [.str "out", .tuple [.tuple [.int 1, .int 0, .int 0, .int 0], .tuple [.tuple [.int 1, .int 1]]]], .tuple [.str "out", .tuple [.tuple [.int 1, .int 0, .int 0], .tuple []]], .tuple [.str "out", .tuple [.tuple [.int 1, .int 0, .int 0], .tuple [.tuple [.int 1, .int 2]]]], .tuple [.str "out", .tuple [.tuple [.int 1, .int 0, .int 0], .tuple [.tuple [.int 1, .int 1], .tuple [.int 0, .int 2]]]], .tuple [.str "out", .tuple [.tuple [.int 1, .int 0, .int 0], .tuple [.tuple [.int 3, .int 2], .tuple [.int (-1), .int 2]]]], .tuple [.str "out", .tuple [.tuple [.int 1, .int 0, .int 0], .tuple [.tuple [.int 1, .int 5], .tuple [.int 1, .int 5], .tuple [.int 1, .int 5], .tuple [.int 1, .int 5], .tuple [.int 1, .int 5]]]], .tuple [.str "out", .tuple [.tuple [.int 1, .int 0, .int 0], .list [.tuple [.int 1, .int 1]]]], .tuple [.str "out", .tuple [.tuple [.int 1, .int 0, .int 0], .tuple [.tuple [.bool true, .int 1]]]]]
def R19 : Nat → List Cell → Nat → T (Cell × Nat) := (runf pr_ FUEL 19).1
theorem ro_in : T.inB Ro (R19 67 [.st] 1) = true := by decide +kernel
theorem ke_in : T.inB Ke (R19 68 [.st] 1) = true := by decide +kernel
theorem pa_in : T.inB Pa (R19 69 [.st] 3) = true := by decide +kernel
def bens : List D := [.none, .tuple [l0, l1], .tuple [l0, l1, l2, .none], .list [l0, l1, l2]] ++ Ro.map (fun r => .tuple [r, l1, l2]) ++ Ro.map (fun r => .tuple [l0, r, l2]) ++ Ke.map fun k => .tuple [l0, l1, k]
def Od : List D := [.none, .list [link], .int 5, .tuple [link, link, .none]] ++ bens.flatMap fun b => [.tuple [b], .tuple [link, b], .tuple [b, link]]
def led1 (o : D) : D := .tuple [.str "led", .tuple [o]]
def led2 (o : D) : D := .tuple [.str "led", .tuple [.tuple [link], o]]
theorem ben_mem {b : D} (h : benL Ro Ke b) : b ∈ bens := by
  unfold bens
  simp only [List.mem_append, List.mem_map, List.mem_cons, List.not_mem_nil, or_false]
  rcases h with h | h | h | h | ⟨r, hr, h⟩ | ⟨r, hr, h⟩ | ⟨k, hk, h⟩
  · exact .inl (.inl (.inl (.inl h)))
  · exact .inl (.inl (.inl (.inr (.inl h))))
  · exact .inl (.inl (.inl (.inr (.inr (.inl h)))))
  · exact .inl (.inl (.inl (.inr (.inr (.inr h)))))
  · exact .inl (.inl (.inr ⟨r, hr, h.symm⟩))
  · exact .inl (.inr ⟨r, hr, h.symm⟩)
  · exact .inr ⟨k, hk, h.symm⟩
theorem odd_mem {b o : D} (hb : b ∈ bens) (h : oddL b o) : o ∈ Od := by
  unfold Od
  simp only [List.mem_append, List.mem_flatMap, List.mem_cons, List.not_mem_nil, or_false]
  rcases h with h | h | h | h | h | h | h
  · exact .inl (.inl h)
  · exact .inl (.inr (.inl h))
  · exact .inl (.inr (.inr (.inl h)))
  · exact .inr ⟨b, hb, .inl h⟩
  · exact .inr ⟨b, hb, .inr (.inl h)⟩
  · exact .inr ⟨b, hb, .inr (.inr h)⟩
  · exact .inl (.inr (.inr (.inr h)))
/-! ### roots and kernels -/
def RK : Nat → List Cell → Nat → T (Cell × Nat) := (runf pr_ FUEL 13).1
theorem ta_l0 (k : Nat) : isB true ((runf pr_ FUEL (k + 13)).1 28 [.sh l0] 0) = true := by kernel_rfl
theorem ta_l1 (k : Nat) : isB true ((runf pr_ FUEL (k + 13)).1 28 [.sh l1] 0) = true := by kernel_rfl
theorem ta_l2 (k : Nat) : isB true ((runf pr_ FUEL (k + 13)).1 43 [.sh l2] 0) = true := by kernel_rfl
theorem ta_ro (k : Nat) : (Ro.all fun r => isB false ((runf pr_ FUEL (k + 13)).1 28 [.sh r] 0)) = true := by kernel_rfl
theorem ta_ke (k : Nat) : (Ke.all fun r => isB false ((runf pr_ FUEL (k + 13)).1 43 [.sh r] 0)) = true := by kernel_rfl
end Rf
set_option Elab.async false
set_option linter.all false
set_option maxRecDepth 100000
set_option maxHeartbeats 4000000
/-! P73f: law_right and law_others_right tell True. -/
namespace Rf
open PySem
def okT (t : T (Cell × Nat)) : Bool := T.allB (fun p => (match p.1 with | .sh (.bool b) => b | _ => false) && Nat.beq p.2 0) (fun _ _ => false) t
theorem okT_ok {t : T (Cell × Nat)} (h : okT t = true) : t.All (fun p => p = (.sh (.bool true), 0)) (fun _ _ _ => False) := by
  refine T.all_mono (fun p hp => ?_) (fun _ _ _ h => by cases h) _ (T.allB_ok t h)
  obtain ⟨c, m⟩ := p
  obtain ⟨h1, h2⟩ := Bool.and_eq_true_iff.mp hp
  have h2 : m = 0 := Nat.eq_of_beq_eq_true h2
  subst h2
  cases c with
  | sh d =>
    cases d with
    | bool b =>
      have h1 : b = true := h1
      rw [h1]
    | _ => cases h1
  | _ => cases h1
theorem others_ok : okT ((runf pr_ FUEL (19 + 1)).1 71 [.st] 2) = true := by decide +kernel
end Rf
set_option Elab.async false
set_option linter.all false
set_option maxRecDepth 100000
set_option maxHeartbeats 4000000
/-! P73e: every chain and every paper that the law offers is refused. -/
namespace Rf
open PySem
def tabA (f : Nat) (d : D) : Option Bool := match f with
  | 28 => cond (deq l0 d || deq l1 d) (some true) (cond (Ro.any fun r => deq r d) (some false) none)
  | 43 => cond (deq l2 d) (some true) (cond (Ke.any fun r => deq r d) (some false) none)
  | _ => none
theorem tabA_ok (k f : Nat) (d : D) (v : Bool) (h : tabA f d = some v) : (runf pr_ FUEL (k + 12 + 1)).1 f [.sh d] 0 = .ok (.sh (.bool v), 0) := by
  unfold tabA at h
  split at h
  · cases e : (deq l0 d || deq l1 d) with
    | true =>
      rw [e] at h
      cases h
      rcases Bool.or_eq_true_iff.mp e with e | e
      · rw [← deq_ok _ _ e]
        exact isB_ok (ta_l0 k)
      · rw [← deq_ok _ _ e]
        exact isB_ok (ta_l1 k)
    | false =>
      rw [e] at h
      cases e2 : (Ro.any fun r => deq r d) with
      | true =>
        rw [e2] at h
        cases h
        exact isB_ok (all_at (ta_ro k) (any_deq e2))
      | false =>
        rw [e2] at h
        cases h
  · cases e : deq l2 d with
    | true =>
      rw [e] at h
      cases h
      rw [← deq_ok _ _ e]
      exact isB_ok (ta_l2 k)
    | false =>
      rw [e] at h
      cases e2 : (Ke.any fun r => deq r d) with
      | true =>
        rw [e2] at h
        cases h
        exact isB_ok (all_at (ta_ke k) (any_deq e2))
      | false =>
        rw [e2] at h
        cases h
  · cases h
theorem tb_ln (k : Nat) : isB true ((runM tabA pr_ FUEL 12 (k + 2)).1 44 [.sh link] 0) = true := by kernel_rfl
theorem tb_be (k : Nat) : (bens.all fun r => isB false ((runM tabA pr_ FUEL 12 (k + 2)).1 44 [.sh r] 0)) = true := by kernel_rfl
def tabB (f : Nat) (d : D) : Option Bool := match f with
  | 44 => cond (deq link d) (some true) (cond (bens.any fun r => deq r d) (some false) none)
  | _ => none
theorem tabB_ok (k f : Nat) (d : D) (v : Bool) (h : tabB f d = some v) : (runf pr_ FUEL (k + 13 + 1)).1 f [.sh d] 0 = .ok (.sh (.bool v), 0) := by
  have er : runf pr_ FUEL (k + 13 + 1) = runM tabA pr_ FUEL 12 (k + 2) := by
    rw [runM_ok tabA_ok]
  rw [er]
  unfold tabB at h
  split at h
  · cases e : deq link d with
    | true =>
      rw [e] at h
      cases h
      rw [← deq_ok _ _ e]
      exact isB_ok (tb_ln k)
    | false =>
      rw [e] at h
      cases e2 : (bens.any fun r => deq r d) with
      | true =>
        rw [e2] at h
        cases h
        exact isB_ok (all_at (tb_be k) (any_deq e2))
      | false =>
        rw [e2] at h
        cases h
  · cases h
def RB : Nat → List Cell → Nat → T (Cell × Nat) := (runM tabB pr_ FUEL 13 6).1
theorem RB_eq : R19 = RB := by
  unfold R19 RB
  rw [runM_ok tabB_ok]
def okO (o : D) : Bool := T.exB 3 (fun as => deqs as [o]) (RB 48 [.sh o] 0) && (T.exB 3 (fun as => deqs as [o]) (RB 61 [.sh o] 0) && fitB o)
def okW (o : D) : Bool := T.exB 3 (fun as => deqs as [o]) (RB 49 [.sh o] 0) && (T.exB 3 (fun as => deqs as [o]) (RB 62 [.sh o] 0) && fitB o)
theorem od_ok : Od.all okO = true := by decide +kernel
theorem pa_ok : Pa.all okW = true := by decide +kernel
theorem w1_ok : (Od.all fun o => okW (led1 o)) = true := by decide +kernel
theorem w2_ok : (Od.all fun o => okW (led2 o)) = true := by decide +kernel
end Rf
set_option Elab.async false
set_option linter.all false
set_option maxRecDepth 100000
set_option maxHeartbeats 4000000
/-! P73f: law_right and law_others_right tell True. -/
namespace Rf
open PySem
theorem fit_split {o : D} (h : fitB o = true) : o.showable = true ∧ o.hasDict = false ∧ o.depth ≤ 50 ∧ lenD o ≤ 1000000 := by
  unfold fitB at h
  simp only [Bool.and_eq_true, Bool.not_eq_true', decide_eq_true_eq] at h
  exact ⟨h.1, h.2.1, h.2.2.1, h.2.2.2⟩
theorem lenD_par : lenD (.str "parameter") = 11 := by decide +kernel
theorem show_sym {o w : D} (ho : fitB o = true) (hw : fitB w = true) : showOk (.list [told "parameter" o, told "parameter" o, told "parameter" w, told "parameter" w]) = true := by
  obtain ⟨o1, o2, o3, o4⟩ := fit_split ho
  obtain ⟨w1, w2, w3, w4⟩ := fit_split hw
  have hl := lenD_ok (.list [told "parameter" o, told "parameter" o, told "parameter" w, told "parameter" w])
  have hl2 : lenD (.list [told "parameter" o, told "parameter" o, told "parameter" w, told "parameter" w]) ≤ 4000200 := by
    simp only [told, lenD, lenDs, lenD_par]
    have := lenD_par
    unfold lenD at this
    omega
  have hd : PyData.depth (.list [told "parameter" o, told "parameter" o, told "parameter" w, told "parameter" w]) ≤ 60 := by
    simp only [told, PyData.depth, PyData.depthAll]
    omega
  unfold showOk
  simp only [Bool.and_eq_true, Bool.not_eq_true', decide_eq_true_eq]
  refine ⟨⟨⟨⟨trivial, ?_⟩, ?_⟩, hd⟩, Nat.le_trans hl (Nat.le_trans hl2 (by unfold LINE; omega))⟩
  · simp only [told, PyData.showable, PyData.showableAll, o1, w1, Bool.and_true, Bool.and_self]
  · simp only [told, PyData.hasDict, PyData.hasDictAll, o2, w2, Bool.or_false, Bool.or_self]
end Rf
set_option Elab.async false
set_option linter.all false
set_option maxRecDepth 100000
set_option maxHeartbeats 4000000
/-! P73g: law_right and law_others_right tell True. -/
namespace Rf
open PySem
theorem rb_r : RB = R19 := RB_eq.symm
theorem okO_split {o : D} (h : okO o = true) : (∃ s, R19 48 [.sh o] 0 = .ex 3 [o] s) ∧ (∃ s, R19 61 [.sh o] 0 = .ex 3 [o] s) ∧ fitB o = true := by
  unfold okO at h
  rw [rb_r] at h
  obtain ⟨h1, h⟩ := Bool.and_eq_true_iff.mp h
  obtain ⟨h2, h3⟩ := Bool.and_eq_true_iff.mp h
  obtain ⟨a1, s1, e1, q1⟩ := T.exB_ok h1
  obtain ⟨a2, s2, e2, q2⟩ := T.exB_ok h2
  rw [deqs_ok _ _ q1] at e1
  rw [deqs_ok _ _ q2] at e2
  exact ⟨⟨s1, e1⟩, ⟨s2, e2⟩, h3⟩
theorem okW_split {o : D} (h : okW o = true) : (∃ s, R19 49 [.sh o] 0 = .ex 3 [o] s) ∧ (∃ s, R19 62 [.sh o] 0 = .ex 3 [o] s) ∧ fitB o = true := by
  unfold okW at h
  rw [rb_r] at h
  obtain ⟨h1, h⟩ := Bool.and_eq_true_iff.mp h
  obtain ⟨h2, h3⟩ := Bool.and_eq_true_iff.mp h
  obtain ⟨a1, s1, e1, q1⟩ := T.exB_ok h1
  obtain ⟨a2, s2, e2, q2⟩ := T.exB_ok h2
  rw [deqs_ok _ _ q1] at e1
  rw [deqs_ok _ _ q2] at e2
  exact ⟨⟨s1, e1⟩, ⟨s2, e2⟩, h3⟩
theorem wro_ok {o w : D} (ho : o ∈ Od) (h : wroL Pa o w) : okW w = true := by
  rcases h with h | h | h
  · have e := all_at (p := okW) (d := w) pa_ok h
    exact e
  · have e := all_at (p := fun o => okW (led1 o)) (d := o) w1_ok ho
    have e : okW (led1 o) = true := e
    have h : w = led1 o := h
    rw [h]
    exact e
  · have e := all_at (p := fun o => okW (led2 o)) (d := o) w2_ok ho
    have e : okW (led2 o) = true := e
    have h : w = led2 o := h
    rw [h]
    exact e
end Rf
set_option Elab.async false
set_option linter.all false
set_option maxRecDepth 100000
set_option maxHeartbeats 4000000
/-! P73f: law_right and law_others_right tell True. -/
namespace Rf
open PySem
def C19 : Nat → T Cell → T Cell := (runf pr_ FUEL 19).2
theorem r19a : R19 = (runf pr_ FUEL (17 + 2)).1 := rfl
theorem r19b : R19 = (runf pr_ FUEL (18 + 1)).1 := rfl
theorem c19b : C19 = (runf pr_ FUEL (18 + 1)).2 := rfl
theorem f64 (xs : List D) (n : Nat) (h : xs ≠ []) (hl : xs.length ≤ 1000) : AT (R19 64 [.st, .sh (.list xs)] (n + 1)) (fun p => ∃ d ∈ xs, p = (.sh d, n)) := by
  rw [r19a]
  exact of_64 (k := 17) xs n h hl
theorem f67 (n : Nat) : AT (R19 67 [.st] (n + 1)) (fun p => ∃ d ∈ Ro, p = (.sh d, n)) := by
  have h := ro_in
  rw [r19b] at h ⊢
  exact in_give (P := pr_) (fuel := FUEL) (k := 18) (N := 2) (m := 1) (body := b_67) rfl h n
theorem f68 (n : Nat) : AT (R19 68 [.st] (n + 1)) (fun p => ∃ d ∈ Ke, p = (.sh d, n)) := by
  have h := ke_in
  rw [r19b] at h ⊢
  exact in_give (P := pr_) (fuel := FUEL) (k := 18) (N := 2) (m := 1) (body := b_68) rfl h n
theorem f69 (n : Nat) : AT (R19 69 [.st] (n + 3)) (fun p => ∃ d ∈ Pa, p = (.sh d, n)) := by
  have h := pa_in
  rw [r19b] at h ⊢
  exact in_give (P := pr_) (fuel := FUEL) (k := 18) (N := 5) (m := 1) (body := b_69) rfl h n
theorem f66 (d : D) (s : Sl) : C19 66 (.ex 3 [d] s) = .ok (.sh (told "parameter" d)) := by
  rw [c19b]
  exact told_66 (k := 18)
theorem f65 {xs : List D} (h : showOk (.list xs) = true) : AT (R19 65 [.sh (.list xs), .sh (.list xs)] 0) (fun p => p = (.sh (.bool true), 0)) := by
  rw [r19b]
  exact like_65 (k := 18) h
theorem rest_gen {cl : Nat → List Cell → Nat → T (Cell × Nat)} {cm : Nat → T Cell → T Cell} {b o w : D} {P : Out × Sl → Prop} {E : Nat → List D → Sl → Prop} (h48 : ∃ s, cl 48 [.sh o] 0 = .ex 3 [o] s) (h61 : ∃ s, cl 61 [.sh o] 0 = .ex 3 [o] s) (h49 : ∃ s, cl 49 [.sh w] 0 = .ex 3 [w] s) (h62 : ∃ s, cl 62 [.sh w] 0 = .ex 3 [w] s)
    (h66 : ∀ d s, cm 66 (.ex 3 [d] s) = .ok (.sh (told "parameter" d)))
    (h65 : AT (cl 65 [.sh (.list [told "parameter" o, told "parameter" o, told "parameter" w, told "parameter" w]), .sh (.list [told "parameter" o, told "parameter" o, told "parameter" w, told "parameter" w])] 0) (fun p => p = (.sh (.bool true), 0)))
    (hP : ∀ s, s.n = 0 → P (.ret (.sh (.bool true)), s)) : AS ⟨cl, cm, .bad, pr_.gl, FUEL⟩ (stR (some (.sh link)) (some (.sh b)) (some (.sh o)) (some (.sh w)) 0) restR P E := rest_sym (G := ⟨cl, cm, .bad, pr_.gl, FUEL⟩) h48 h61 h49 h62 h66 h65 hP
theorem rest_19 {b o w : D} {P : Out × Sl → Prop} (hb : benL Ro Ke b) (ho : oddL b o) (hw : wroL Pa o w) (hP : ∀ s, s.n = 0 → P (.ret (.sh (.bool true)), s)) : AS ⟨R19, C19, .bad, pr_.gl, FUEL⟩ (stR (some (.sh link)) (some (.sh b)) (some (.sh o)) (some (.sh w)) 0) restR P (fun _ _ _ => False) := by
  have ho := odd_mem (ben_mem hb) ho
  have h1 : okO o = true := all_at (p := okO) (d := o) od_ok ho
  have h2 : okW w = true := wro_ok ho hw
  obtain ⟨h48, h61, fo⟩ := okO_split (o := o) h1
  obtain ⟨h49, h62, fw⟩ := okW_split (o := w) h2
  have h65 := f65 (show_sym fo fw)
  exact rest_gen (cl := R19) (cm := C19) (b := b) (o := o) (w := w) (P := P) h48 h61 h49 h62 f66 h65 hP
theorem right_body {P : Out × Sl → Prop} (hP : ∀ s, s.n = 0 → P (.ret (.sh (.bool true)), s)) : AS ⟨R19, C19, .bad, pr_.gl, FUEL⟩ ⟨[some .st, none, none, none, none, none], 9⟩ b_70 P (fun _ _ _ => False) := by
  refine right_sym (cl := R19) (cm := C19) (Ro := Ro) (Ke := Ke) (Pa := Pa) f64 f67 f68 f69 ?_
  intro b o w hb ho hw
  exact rest_19 hb ho hw hP
theorem right_all (n : Nat) : AT ((runf pr_ FUEL (19 + 1)).1 70 [.st] (n + 9)) (fun p => p = (.sh (.bool true), n)) := by
  refine run_all (P := pr_) (fuel := FUEL) (k := 19) (c := 9) (N := 6) (m := 1) (body := b_70) rfl rfl ?_
  show AS ⟨R19, C19, .bad, pr_.gl, FUEL⟩ ⟨[some .st, none, none, none, none, none], 9⟩ _ _ _
  refine right_body fun s hs => ⟨_, _, rfl, ?_⟩
  rw [hs]
  rfl
end Rf
set_option Elab.async false
set_option linter.all false
set_option maxRecDepth 100000
set_option maxHeartbeats 4000000
/-! P73f: law_right and law_others_right tell True. -/
namespace Rf
open PySem
theorem give_at {t : T (Cell × Nat)} {n : Nat} (h : t.All (fun p => p = (.sh (.bool true), 0)) (fun _ _ _ => False)) : (T.give n t).All (fun p => p = (.sh (.bool true), n)) (fun _ _ _ => False) := T.all_give' _ (T.all_mono (fun p hp => by rw [hp]; rfl) (fun _ _ _ h => h) _ h)
theorem give_run {P : Pr} {fuel k f N m c n : Nat} {as : List Cell} {body : ISs} (h : P.fs[f]? = some (.code N m c body)) (ho : okT ((runf P fuel (k + 1)).1 f as c) = true) : AT ((runf P fuel (k + 1)).1 f as (n + c)) (fun p => p = (.sh (.bool true), n)) := ⟨by
  rw [run_give h]
  exact give_at (okT_ok ho)⟩
theorem fs71 : pr_.fs[71]? = some (.code 8 1 2 b_71) := rfl
theorem others_all (n : Nat) : AT ((runf pr_ FUEL (19 + 1)).1 71 [.st] (n + 2)) (fun p => p = (.sh (.bool true), n)) := give_run (P := pr_) (fuel := FUEL) (k := 19) (f := 71) (as := [.st]) (c := 2) (n := n) (N := 8) (m := 1) (body := b_71) fs71 others_ok
end Rf
set_option Elab.async false
set_option linter.all false
set_option maxRecDepth 100000
set_option maxHeartbeats 4000000
/-! P73k: the law's own loop, and Plain. -/
namespace Rf
open PySem
section
variable {G : Env} {E : Nat → List D → Sl → Prop} {st : Sl}
theorem AE.inv {a : IE} {k : Bool} {P : Cell × Sl → Prop} (h : AE G st a true (fun p => ∃ b, p.1.bool? = some b ∧ P (.sh (.bool (!b)), p.2)) E) : AE G st (.inv a) k P E := ⟨by
  unfold evf
  refine T.all_bind' _ (T.all_mono (fun p ⟨b, h1, h2⟩ => ?_) (fun _ _ _ h => h) _ h.h)
  rw [h1]
  exact h2⟩
theorem AE.or {a b : IE} {k : Bool} {P : Cell × Sl → Prop} (h : AE G st a true (fun p => p.1.bool? = some false ∧ AE G p.2 b true P E) E) : AE G st (.or_ a b) k P E := ⟨by
  unfold evf
  refine T.all_bind' _ (T.all_mono (fun p ⟨h1, h2⟩ => ?_) (fun _ _ _ h => h) _ h.h)
  rw [h1]
  exact h2.h⟩
theorem AX.ifs {c : IE} {a b : ISs} {P : Out × Sl → Prop} (h : AE G st c true (fun p => p.1.bool? = some false ∧ AS G p.2 b P E) E) : AX G st (.ifs c a b) P E := ⟨by
  unfold exf
  refine T.all_bind' _ (T.all_mono (fun p ⟨h1, h2⟩ => ?_) (fun _ _ _ h => h) _ h.h)
  rw [h1]
  exact h2.h⟩
end
def stT (t : Option Cell) (n : Nat) : Sl := ⟨[none, some .st, t, none, none], n⟩
def c70 : IE := .call 70 (.cons (.var 1) .nil)
def c71 : IE := .call 71 (.cons (.var 1) .nil)
def bodyL : ISs := .cons (.ifs (.or_ (.inv c70) (.inv c71)) (.cons (.ret (.con (.bool false))) .nil) .nil) .nil
def restL : ISs := match b_law with
  | .cons _ r => r
  | _ => .nil
def itL : II := .range (.cons (.con (.int 8)) .nil)
theorem blaw : b_law = .cons (.for_ [2] itL bodyL) restL := by kernel_rfl
def i8 : List D := [.int 0, .int 1, .int 2, .int 3, .int 4, .int 5, .int 6, .int 7]
theorem it8 {G : Env} {st : Sl} : evif G itL st = .ok (i8, st) := by kernel_rfl
section
variable {cl : Nat → List Cell → Nat → T (Cell × Nat)} {cm : Nat → T Cell → T Cell} {E : Nat → List D → Sl → Prop}
theorem pv1 {G : Env} {t : Option Cell} {n : Nat} : PU G (stT t n) (.var 1) (.st) := ⟨by kernel_rfl⟩
theorem call_L {f m c : Nat} {t : Option Cell} (h : AT (cl f [.st] (m + c)) (fun p => p = (.sh (.bool true), m))) : AE ⟨cl, cm, .bad, pr_.gl, FUEL⟩ (stT t (m + c)) (.call f (.cons (.var 1) .nil)) true (fun p => p = (.sh (.bool true), stT t m)) E := by
  refine .call (.pure pv1 (.nil (h.imp ?_)))
  rintro _ rfl
  rfl
theorem step_L (h70 : ∀ n, AT (cl 70 [.st] (n + 9)) (fun p => p = (.sh (.bool true), n))) (h71 : ∀ n, AT (cl 71 [.st] (n + 2)) (fun p => p = (.sh (.bool true), n))) (t : Option Cell) (n : Nat) : AS ⟨cl, cm, .bad, pr_.gl, FUEL⟩ (stT t (n + 2 + 9)) bodyL (fun p => p = (.nx, stT t n)) E := by
  have a := call_L (cl := cl) (cm := cm) (E := E) (t := t) (h70 (n + 2))
  have b := call_L (cl := cl) (cm := cm) (E := E) (t := t) (h71 n)
  refine .nx (.ifs (.or (.inv ⟨T.all_mono (fun p hp => ?_) (fun _ _ _ h => h) _ a.h⟩)))
  refine ⟨true, by rw [hp]; rfl, rfl, ?_⟩
  rw [hp]
  refine .inv ⟨T.all_mono (fun p hp => ?_) (fun _ _ _ h => h) _ b.h⟩
  refine ⟨true, by rw [hp]; rfl, rfl, ?_⟩
  rw [hp]
  exact .nil ⟨rfl, .nil rfl⟩
theorem for_L (h70 : ∀ n, AT (cl 70 [.st] (n + 9)) (fun p => p = (.sh (.bool true), n))) (h71 : ∀ n, AT (cl 71 [.st] (n + 2)) (fun p => p = (.sh (.bool true), n))) : ∀ (ds : List D) (t : Option Cell) (n : Nat), (forL [2] (exsf ⟨cl, cm, .bad, pr_.gl, FUEL⟩ bodyL) ds (stT t (n + 11 * ds.length))).All (fun p => ∃ t', p = (.nx, stT t' n)) E
  | [], t, n => ⟨t, rfl⟩
  | d :: ds, t, n => by
    have e : n + 11 * (d :: ds).length = (n + 11 * ds.length) + 2 + 9 := by
      rw [List.length_cons]
      omega
    rw [e]
    show ((exsf ⟨cl, cm, .bad, pr_.gl, FUEL⟩ bodyL (stT (some (.sh d)) ((n + 11 * ds.length) + 2 + 9))).bind _).All _ _
    refine T.all_bind' _ (T.all_mono (fun p hp => ?_) (fun _ _ _ h => h) _ (step_L (cm := cm) (E := E) h70 h71 (some (.sh d)) (n + 11 * ds.length)).h)
    rw [hp]
    exact for_L h70 h71 ds (some (.sh d)) n
end
theorem bind_ok {α β : Type} (a : α) (f : α → T β) : T.bind (.ok a) f = f a := rfl
section
variable {cl : Nat → List Cell → Nat → T (Cell × Nat)} {cm : Nat → T Cell → T Cell}
theorem loop_L (h70 : ∀ n, AT (cl 70 [.st] (n + 9)) (fun p => p = (.sh (.bool true), n))) (h71 : ∀ n, AT (cl 71 [.st] (n + 2)) (fun p => p = (.sh (.bool true), n))) : AX ⟨cl, cm, .bad, pr_.gl, FUEL⟩ (stT none (0 + 11 * i8.length)) (.for_ [2] itL bodyL) (fun p => ∃ t', p = (.nx, stT t' 0)) (fun _ _ _ => False) := ⟨by
  unfold exf
  rw [it8, bind_ok]
  exact for_L h70 h71 i8 none 0⟩
end
end Rf
set_option Elab.async false
set_option linter.all false
set_option maxRecDepth 100000
set_option maxHeartbeats 4000000
/-! P73k: the law's own loop, and Plain. -/
namespace Rf
open PySem
theorem rest_L (t : Option Cell) : okT ((exsf ⟨(runf pr_ FUEL (19 + 1)).1, (runf pr_ FUEL (19 + 1)).2, .bad, pr_.gl, FUEL⟩ restL (stT t 0)).bind Out.cell) = true := by kernel_rfl
end Rf
set_option Elab.async false
set_option linter.all false
set_option maxRecDepth 100000
set_option maxHeartbeats 400000
namespace Rf
open PySem
theorem cell_all {t : T (Out × Sl)} (h : okT (t.bind Out.cell) = true) : t.All (fun a => (Out.cell a).All (fun p => p.1 = .sh (.bool true)) (fun _ _ _ => False)) (fun _ _ _ => False) := by
  have h2 := T.all_bind _ (okT_ok h)
  exact T.all_mono (fun p hp => T.all_mono (fun q hq => by rw [hq]) (fun _ _ _ h => h) _ hp) (fun _ _ _ h => h) _ h2
theorem as_for {G : Env} {st : Sl} {s : IS} {r : ISs} {P : Out × Sl → Prop} {E : Nat → List D → Sl → Prop} (h : AX G st s (fun p => ∃ t', p = (.nx, stT t' 0)) E) (hr : ∀ t, (exsf G r (stT t 0)).All P E) : AS G st (.cons s r) P E := .nx ⟨T.all_mono (fun p ⟨t, hp⟩ => by rw [hp]; exact ⟨rfl, ⟨hr t⟩⟩) (fun _ _ _ h => h) _ h.h⟩
end Rf
set_option Elab.async false
set_option linter.all false
set_option maxRecDepth 100000
set_option maxHeartbeats 400000
namespace Rf
open PySem
theorem law_G {G : Env} {st : Sl} {ss r : ISs} {s : IS} (hs : ss = .cons s r) (a : AX G st s (fun p => ∃ t', p = (.nx, stT t' 0)) (fun _ _ _ => False)) (b : ∀ t, okT ((exsf G r (stT t 0)).bind Out.cell) = true) : ((exsf G ss st).bind Out.cell).All (fun p => p.1 = .sh (.bool true)) (fun _ _ _ => False) := by
  subst hs
  exact T.all_bind' _ (as_for a fun t => cell_all (b t)).h
end Rf
set_option Elab.async false
set_option linter.all false
set_option maxRecDepth 100000
set_option maxHeartbeats 400000
/-! P73m: Plain. -/
namespace Rf
open PySem
theorem stL_eq : RfA.stL (N_law.length - 2) cost_law = stT none (0 + 11 * i8.length) := by kernel_rfl
theorem loop73 : AX ⟨(runf pr_ FUEL (19 + 1)).1, (runf pr_ FUEL (19 + 1)).2, .bad, pr_.gl, FUEL⟩ (stT none (0 + 11 * i8.length)) (.for_ [2] itL bodyL) (fun p => ∃ t', p = (.nx, stT t' 0)) (fun _ _ _ => False) := loop_L (cl := (runf pr_ FUEL (19 + 1)).1) (cm := (runf pr_ FUEL (19 + 1)).2) right_all others_all
theorem law_v {cl : Nat → List Cell → Nat → T (Cell × Nat)} {cm : Nat → T Cell → T Cell} (h1 : AX ⟨cl, cm, .bad, pr_.gl, FUEL⟩ (stT none (0 + 11 * i8.length)) (.for_ [2] itL bodyL) (fun p => ∃ t', p = (.nx, stT t' 0)) (fun _ _ _ => False)) (h2 : ∀ t, okT ((exsf ⟨cl, cm, .bad, pr_.gl, FUEL⟩ restL (stT t 0)).bind Out.cell) = true) : ((exsf ⟨cl, cm, .bad, pr_.gl, FUEL⟩ b_law (stT none (0 + 11 * i8.length))).bind Out.cell).All (fun p => p.1 = .sh (.bool true)) (fun _ _ _ => False) := law_G (G := ⟨cl, cm, .bad, pr_.gl, FUEL⟩) (st := stT none (0 + 11 * i8.length)) (ss := b_law) (r := restL) (s := .for_ [2] itL bodyL) blaw h1 h2
end Rf
set_option Elab.async false
set_option linter.all false
set_option maxRecDepth 100000
set_option maxHeartbeats 400000
/-! P73q: Plain. (The run is a variable r throughout: two runs are never compared.) -/
namespace Rf
open PySem
abbrev Rr := (Nat → List Cell → Nat → T (Cell × Nat)) × (Nat → T Cell → T Cell)
def PlainR (r : Rr) : Prop := ((exsf ⟨r.1, r.2, .bad, pr_.gl, FUEL⟩ b_law (RfA.stL (N_law.length - 2) cost_law)).bind Out.cell).All (fun p => p.1 = .sh (.bool true)) (fun _ _ _ => False)
theorem plainR_of {r : Rr} (h1 : AX ⟨r.1, r.2, .bad, pr_.gl, FUEL⟩ (stT none (0 + 11 * i8.length)) (.for_ [2] itL bodyL) (fun p => ∃ t', p = (.nx, stT t' 0)) (fun _ _ _ => False)) (h2 : ∀ t, okT ((exsf ⟨r.1, r.2, .bad, pr_.gl, FUEL⟩ restL (stT t 0)).bind Out.cell) = true) : PlainR r := by
  unfold PlainR
  rw [stL_eq]
  exact law_v h1 h2
theorem plain_of {k : Nat} {r : Rr} (hr : r = runf pr_ FUEL k) (h : PlainR r) : RfA.Plain FUEL k := by
  subst hr
  unfold PlainR at h
  rw [exsf_ok, runf_ok] at h
  unfold RfA.Plain
  exact h
theorem loopQ : ∀ r, r = runf pr_ FUEL (19 + 1) → AX ⟨r.1, r.2, .bad, pr_.gl, FUEL⟩ (stT none (0 + 11 * i8.length)) (.for_ [2] itL bodyL) (fun p => ∃ t', p = (.nx, stT t' 0)) (fun _ _ _ => False) := fun r hr => by
  subst hr
  exact loop73
theorem restQ : ∀ r, r = runf pr_ FUEL (19 + 1) → ∀ t, okT ((exsf ⟨r.1, r.2, .bad, pr_.gl, FUEL⟩ restL (stT t 0)).bind Out.cell) = true := fun r hr => by
  subst hr
  exact rest_L
theorem ex_r {k : Nat} {Q : Rr → Prop} (h : ∀ r, r = runf pr_ FUEL k → Q r) : Q (runf pr_ FUEL k) := h _ rfl
theorem plain73 : RfA.Plain FUEL (19 + 1) := ex_r (k := 19 + 1) (Q := fun r => r = runf pr_ FUEL (19 + 1) → RfA.Plain FUEL (19 + 1)) (fun r hr _ => plain_of hr (plainR_of (loopQ r hr) (restQ r hr))) rfl
end Rf
set_option Elab.async false
set_option linter.all false
open PySem PySem.W PySem.Calls PyProof.Rows
set_option maxRecDepth 100000
set_option maxHeartbeats 0
theorem PySem.Challenge.cw_withinshapes_k73_texts_refused_holds : PySem.Challenge.rw_withinshapes_k73_texts_refused.Holds := by
  w_on; o_law
  refine HandSHeadRun.head_imp (r := RfA.RR) (q := PySem.W.view RfA.RR.prog [0, 1, 101]) (H := RfA.hookY Rf.Pw 4) (ob := RfA.obJ) (M := 8000) (loose := Rf.top_) (d := HandSHeadRun.topDef RfA.RR.prog 101) (kwd := []) RfA.obJ_eq RfA.runJ (by kernel_rfl) (by kernel_rfl) (by kernel_rfl) (by rfl) (by first | assumption | decide +kernel) (by decide +kernel) ⟨rfl, rfl, rfl, rfl, rfl, by decide +kernel⟩ ?hw ?hc
  case hw => w_witness2
  case hc => exact RfA.walkY (n := 63) (k := 19) (fuel := Rf.FUEL) rfl (by decide) (by kernel_rfl) (by kernel_rfl) rfl (by decide +kernel) ⟨rfl, by decide, by decide⟩ Rf.plain73
