import PyProof.Rows.All
import Wide.All
import OpenK.AllK
import Wide.FinOn
import HandS.Base
import HandS.Call
import HandS.List
import KE.SortData
import HandS.Defaults
import PyProof.Laws
import HandS.Comp
import HandS.Words
import HandS.WordsExc
import HandS.Exc
import HandS.ExcOwn
import HandS.Flow
import HandS.IsInst
import HandS.Iter
import HandS.Walk
import HandS.Zip
import HandS.Deep
import HandS.Text
import HandS.Style
import HandS.TupAny
import HandS.TupMul
import HandS.Star
import KE.GoesMore
import KE.GoesEnum
import KE.KExcSuper
import HandS.ExcInit
import HandS.ExcField
import KE.KExcIs
import HandS.Strs
import HandS.Set
import HandS.SetFor
import HandS.HeadHook1
import HandS.HeadHook2
import HandS.HeadHook4
import KE.KExcInit
import HandS.HeadEnd
import KE.KStateDown
import Lean
import HandS.Ends
import HandS.More
import HandS.Head0
import HandS.Head1
import HandS.Head2
import PySem.Challenge.RW_columnsfelt_k24_rows_put_and_taken
set_option Elab.async false
set_option linter.all false
set_option maxRecDepth 100000
set_option maxHeartbeats 4000000
namespace Mi
open PySem (Str)
/-- a value as a tree -/
inductive D where
  | non | bl (b : Bool) | int (i : Int) | str (x : Str)
  | tup (xs : List D) | lst (xs : List D) | dic (kvs : List (D × D))
  | box | scr | exc (c : Nat) (a : List D)
/-- the box of draws: three numbers, if there is one -/
abbrev Bx := Option (Int × Int × Int)
inductive Res (α : Type) where
  | ok (a : α) (b : Bx)
  | ex (c : Nat) (d : List D) (b : Bx)
  | no
abbrev M (α : Type) := Bx → Res α
def M.ret {α : Type} (a : α) : M α := fun b => .ok a b
def M.bd {α β : Type} (m : M α) (f : α → M β) : M β := fun b => match m b with
  | .ok a b' => f a b'
  | .ex c d b' => .ex c d b'
  | .no => .no
def M.no {α : Type} : M α := fun _ => .no
def M.ofO {α : Type} : Option α → M α
  | some a => M.ret a
  | none => M.no
/-- no exception comes through -/
def M.nex {α : Type} (m : M α) : M α := fun b => match m b with
  | .ex _ _ _ => .no
  | r => r
instance : Monad M where
  pure := M.ret
  bind := M.bd
mutual
def D.dep : D → Nat
  | .tup xs => D.depL xs + 1
  | .lst xs => D.depL xs + 1
  | .dic _ => 100
  | _ => 0
def D.depL : List D → Nat
  | [] => 0
  | x :: xs => max (D.dep x) (D.depL xs)
end
mutual
/-- built of None, bools, ints, texts, lists, tuples -/
def D.py : D → Bool
  | .tup xs => D.pyL xs
  | .lst xs => D.pyL xs
  | .dic _ | .box | .scr | .exc _ _ => false
  | _ => true
def D.pyL : List D → Bool
  | [] => true
  | x :: xs => D.py x && D.pyL xs
end
mutual
/-- no list, no dict in it -/
def D.pure : D → Bool
  | .tup xs => D.pureL xs
  | .lst _ | .dic _ | .box | .scr | .exc _ _ => false
  | _ => true
def D.pureL : List D → Bool
  | [] => true
  | x :: xs => D.pure x && D.pureL xs
end
mutual
/-- Python's == -/
def D.eqv : D → D → Bool
  | .non, .non => true
  | .bl a, .bl b => a == b
  | .bl a, .int j => (if a then 1 else 0) == j
  | .int i, .bl b => i == (if b then 1 else 0)
  | .int i, .int j => i == j
  | .str x, .str y => decide (x = y)
  | .lst xs, .lst ys => D.eqvL xs ys
  | .tup xs, .tup ys => D.eqvL xs ys
  | _, _ => false
def D.eqvL : List D → List D → Bool
  | [], [] => true
  | x :: xs, y :: ys => D.eqv x y && D.eqvL xs ys
  | _, _ => false
end
/-- both may be asked for == -/
def D.cmp (a b : D) : Bool := D.py a && D.py b && decide (min (D.dep a) (D.dep b) ≤ 60)
def D.isStr : D → Bool
  | .str _ => true
  | _ => false
mutual
def toPy : D → PySem.PyData
  | .non => .none
  | .bl b => .bool b
  | .int i => .int i
  | .str x => .str x
  | .tup xs => .tuple (toPyL xs)
  | .lst xs => .list (toPyL xs)
  | _ => .none
def toPyL : List D → List PySem.PyData
  | [] => []
  | x :: xs => toPy x :: toPyL xs
end
/-- what may be sorted -/
def isTupC : D → Bool
  | .tup (_ :: _) => true
  | _ => false
def isPlainD : D → Bool
  | .non => false
  | .tup _ => false
  | _ => true
def sortOk (xs : List D) : Bool := D.pyL xs && (xs.all fun d => decide (D.dep d ≤ 60)) && (xs.all fun a => xs.all fun b => PySem.W.alike (toPy a) (toPy b)) && (xs.all isTupC || xs.all isPlainD)
def leD (a b : D) : Bool := !PySem.W.dataLt (toPy b) (toPy a)
section
variable {α : Type} (le : α → α → Bool)
/-- merged, sorted; what List.merge, List.mergeSort give, but by recursion on a number -/
def mergeF : Nat → List α → List α → List α
  | 0, l, r => l ++ r
  | _ + 1, [], r => r
  | _ + 1, l, [] => l
  | n + 1, a :: l, b :: r => if le a b then a :: mergeF n l (b :: r) else b :: mergeF n (a :: l) r
def sortF : Nat → List α → List α
  | 0, l => l
  | _ + 1, [] => []
  | _ + 1, [a] => [a]
  | n + 1, a :: b :: l => mergeF le (l.length + 2) (sortF n ((a :: b :: l).take ((l.length + 3) / 2))) (sortF n ((a :: b :: l).drop ((l.length + 3) / 2)))
theorem mergeF_eq : ∀ (n : Nat) (l r : List α), l.length + r.length ≤ n → mergeF le n l r = List.merge l r le
  | 0, l, r, h => by
    have h1 : l = [] := List.eq_nil_of_length_eq_zero (by omega)
    have h2 : r = [] := List.eq_nil_of_length_eq_zero (by omega)
    subst h1; subst h2
    simp [mergeF]
  | n + 1, [], r, h => by simp [mergeF]
  | n + 1, a :: l, [], h => by simp [mergeF]
  | n + 1, a :: l, b :: r, h => by
    simp only [List.length_cons] at h
    rw [mergeF, mergeF_eq n l (b :: r) (by simp only [List.length_cons]; omega), mergeF_eq n (a :: l) r (by simp only [List.length_cons]; omega), List.cons_merge_cons]
theorem sortF_eq : ∀ (n : Nat) (l : List α), l.length ≤ n → sortF le n l = l.mergeSort le
  | 0, l, h => by
    have h1 : l = [] := List.eq_nil_of_length_eq_zero (by omega)
    subst h1
    simp [sortF]
  | n + 1, [], h => by simp [sortF]
  | n + 1, [a], h => by simp [sortF]
  | n + 1, a :: b :: l, h => by
    simp only [List.length_cons] at h
    have e : (a :: b :: l).mergeSort le = List.merge (((a :: b :: l).take ((l.length + 3) / 2)).mergeSort le) (((a :: b :: l).drop ((l.length + 3) / 2)).mergeSort le) le := by
      rw [List.mergeSort]
      simp [List.MergeSort.Internal.splitInTwo_fst, List.MergeSort.Internal.splitInTwo_snd]
    rw [sortF, e, sortF_eq n _ (by rw [List.length_take]; simp only [List.length_cons]; omega), sortF_eq n _ (by rw [List.length_drop]; simp only [List.length_cons]; omega)]
    exact mergeF_eq _ _ _ _ (by rw [List.length_mergeSort, List.length_mergeSort, List.length_take, List.length_drop]; simp only [List.length_cons]; omega)
end
def srt {α : Type} (le : α → α → Bool) (xs : List α) : List α := sortF le xs.length xs
theorem srt_eq {α : Type} (le : α → α → Bool) (xs : List α) : srt le xs = xs.mergeSort le := sortF_eq le _ _ (Nat.le_refl _)
def sortD (xs : List D) : List D := srt leD xs
/-- the classes that isinstance is asked about -/
inductive Ty where
  | int | bool | str | list | tuple | dict | exc (c : Nat) | valueError | lookupError | keyError | indexError
  deriving DecidableEq
def D.isTy : D → Ty → Option Bool
  | .exc j _, .exc k => some (decide (j = k))
  | .exc j _, .valueError => some (decide (5 ≤ j))
  | .exc j _, .lookupError => some (decide (j < 5))
  | .exc _ _, _ => some false
  | _, .exc _ => none
  | _, .valueError => none
  | _, .lookupError => none
  | _, .keyError => none
  | _, .indexError => none
  | .int _, .int => some true
  | .bl _, .int => some true
  | .bl _, .bool => some true
  | .str _, .str => some true
  | .lst _, .list => some true
  | .tup _, .tuple => some true
  | .box, _ => none
  | .scr, _ => none
  | .dic _, .dict => some true
  | _, _ => some false
/-- the exception classes: 0 to 4 are LookupErrors, 5 to 9 are ValueErrors -/
def excName : Nat → Str
  | 0 => "NoKind" | 1 => "NoColumn" | 2 => "NoRow" | 3 => "NoAsk" | 4 => "NothingDone"
  | 5 => "Known" | 6 => "Taken" | 7 => "Unfit" | 8 => "BadText" | 9 => "BadLine" | _ => ""
def excFld : Nat → Option Str
  | 0 => some "name" | 1 => some "name" | 2 => some "key" | 3 => some "name" | 5 => some "name" | 6 => some "key" | 9 => some "number" | _ => none
/-- an exception's field -/
def evAttr (f : Str) : D → Option D
  | .exc k [d] => if excFld k = some f then some d else none
  | _ => none
def mkExc (k : Nat) (ds : List D) : Option D := match excFld k, ds with
  | some _, [d] => some (.exc k [d])
  | none, [] => some (.exc k [])
  | _, _ => none
def anyTy (d : D) : List Ty → Option Bool
  | [] => some false
  | t :: ts => match D.isTy d t with
    | some true => some true
    | some false => anyTy d ts
    | none => none
def lineMax : Nat := 16000000
def small64 (i : Int) : Bool := decide (-(2 ^ 64) < i) && decide (i < 2 ^ 64)
def strMax : Nat := 1000000
def strFits (x : Str) : Bool := decide (x.cps.size ≤ strMax) && x.cps.all (· < 0x110000)
inductive Op where
  | add | sub | mul | fdiv | mod | pow | eq | ne | lt | le | gt | ge | inn | nin
  deriving DecidableEq
def inStr (x y : Str) : Bool := !(PySem.Builtin.Str.occurrences y x 0 y.length 1).isEmpty
def cmpI (f : Int → Int → Bool) (g : List Nat → List Nat → Bool) : D → D → Option D
  | .int i, .int j => some (.bl (f i j))
  | .str x, .str y => some (.bl (g x.cps.toList y.cps.toList))
  | _, _ => none
def inSeq (neg : Bool) (x : D) : D → Option D
  | .lst ys => if D.py x && D.pyL ys && decide (D.dep x ≤ 60) then some (.bl (xor neg (ys.any fun y => D.eqv y x))) else none
  | .tup ys => if D.py x && D.pyL ys && decide (D.dep x ≤ 60) then some (.bl (xor neg (ys.any fun y => D.eqv y x))) else none
  | .str y => match x with
    | .str z => (match z.cps.toList with
      | [c] => some (.bl (xor neg (decide (c ∈ y.cps.toList))))
      | _ => some (.bl (xor neg (inStr z y))))
    | _ => none
  | _ => none
def evAdd : D → D → Option D
  | .int i, .int j => some (.int (i + j))
  | .str x, .str y => if x.cps.size + y.cps.size ≤ strMax then some (.str (x ++ y)) else none
  | .lst x, .lst y => if x.length + y.length ≤ lineMax then some (.lst (x ++ y)) else none
  | .tup x, .tup y => if x.length + y.length ≤ lineMax then some (.tup (x ++ y)) else none
  | _, _ => none
def evMul : D → D → Option D
  | .int i, .int j => if small64 i || small64 j then some (.int (i * j)) else none
  | .lst x, .int j => if decide (0 ≤ j) && decide (j < 1000000) && decide (x.length * j.toNat ≤ lineMax) then some (.lst (List.replicate j.toNat x).flatten) else none
  | _, _ => none
def evInt (f : Int → Int → Option Int) : D → D → Option D
  | .int i, .int j => (f i j).map .int
  | _, _ => none
def evOp (o : Op) (a b : D) : Option D := match o with
  | .add => evAdd a b
  | .sub => evInt (fun i j => some (i - j)) a b
  | .mul => evMul a b
  | .fdiv => evInt (fun i j => if 0 < j ∧ j < 1073741824 then some (i / j) else none) a b
  | .mod => evInt (fun i j => if 0 < j then some (i % j) else none) a b
  | .pow => evInt (fun i j => if 0 ≤ j ∧ j ≤ 1000 ∧ i.natAbs < 1000 then some (i ^ j.toNat) else none) a b
  | .eq => if D.cmp a b then some (.bl (D.eqv a b)) else none
  | .ne => if D.cmp a b then some (.bl (!D.eqv a b)) else none
  | .lt => cmpI (fun i j => decide (i < j)) (fun i j => decide (i < j)) a b
  | .le => cmpI (fun i j => decide (i ≤ j)) (fun i j => !decide (j < i)) a b
  | .gt => cmpI (fun i j => decide (j < i)) (fun i j => decide (j < i)) a b
  | .ge => cmpI (fun i j => decide (j ≤ i)) (fun i j => !decide (i < j)) a b
  | .inn => inSeq false a b
  | .nin => inSeq true a b
def atD (xs : List D) (i : Int) : Option D := L2.atI xs i
def evIx : D → D → Option D
  | .lst xs, .int i => atD xs i
  | .tup xs, .int i => atD xs i
  | .str x, .int i => (L2.atI x.cps.toList i).map fun c => .str ⟨#[c]⟩
  | _, _ => none
def cut {α : Type} (xs : List α) (lo hi : Option Int) : List α := (xs.drop (HT.sIx xs.length 0 lo)).take (HT.sIx xs.length xs.length hi - HT.sIx xs.length 0 lo)
def cutScr (ns : List Int) (lo hi : Option Int) : List D := (cut ns lo hi).map .int
def evSl (ns : List Int) : D → Option Int → Option Int → Option D
  | .lst xs, lo, hi => some (.lst (cut xs lo hi))
  | .tup xs, lo, hi => some (.tup (cut xs lo hi))
  | .str x, lo, hi => some (.str ⟨(cut x.cps.toList lo hi).toArray⟩)
  | .scr, lo, hi => some (.lst (cutScr ns lo hi))
  | _, _, _ => none
/-- [::-1] -/
def evRev : D → Option D
  | .lst xs => some (.lst xs.reverse)
  | .tup xs => some (.tup xs.reverse)
  | _ => none
def truth : D → Option Bool
  | .non => some false
  | .bl b => some b
  | .int i => some (i != 0)
  | .str x => some (x.cps.size != 0)
  | .lst xs => some (!xs.isEmpty)
  | .tup xs => some (!xs.isEmpty)
  | _ => none
def isNon : D → Bool
  | .non => true
  | _ => false
def asB : D → Option Bool
  | .bl b => some b
  | _ => none
def asI : D → Option Int
  | .int i => some i
  | _ => none
def bools : List D → Option (List Bool)
  | [] => some []
  | .bl b :: r => (bools r).map (b :: ·)
  | _ :: _ => none
def intsD : List D → Option (List Int)
  | [] => some []
  | .int b :: r => (intsD r).map (b :: ·)
  | _ :: _ => none
def strsD : List D → Option (List Str)
  | [] => some []
  | .str b :: r => (strsD r).map (b :: ·)
  | _ :: _ => none
/-- what may be walked -/
def itemsOf : D → Option (List D)
  | .lst xs => some xs
  | .tup xs => some xs
  | _ => none
/-- sorted, each once -/
def leStr (x y : Str) : Bool := decide (x.cps.toList ≤ y.cps.toList)
def dedup {α : Type} [DecidableEq α] : List α → List α
  | [] => []
  | x :: r => x :: (dedup r).filter fun y => !decide (y = x)
def leInt (a b : Int) : Bool := decide (a ≤ b)
/-- sorted(set(..)) of texts or of numbers -/
def sortSet (ds : List D) : Option (List D) :=
  if ds.length < 4000 then (match strsD ds with
  | some xs => some ((srt leStr (dedup xs)).map .str)
  | none => match intsD ds with
    | some is => some ((srt leInt (dedup is)).map .int)
    | none => none) else none
def lenSet (ds : List D) : Option Nat :=
  if ds.length < 4000 then (match strsD ds with
  | some xs => some (dedup xs).length
  | none => match intsD ds with
    | some is => some (dedup is).length
    | none => none) else none
inductive Bi where
  | len | int | abs | all | any | list | tuple | sortSet | lenSet | sort | str | sum
  deriving DecidableEq
mutual
inductive MT where
  | slot (i : Nat)
  | tup (ts : MTs)
inductive MTs where
  | nil
  | cons (t : MT) (r : MTs)
end
mutual
inductive ME where
  | var (i : Nat) | bor (i : Nat) | cst (d : D) | glo (g : Nat)
  | tup (es : MEs) | lst (es : MEs)
  | op (o : Op) (a b : ME) | chain (o1 o2 : Op) (a b c : ME)
  | neg (a : ME) | notE (a : ME) | andE (es : MEs) | orE (es : MEs) | ite (c a b : ME)
  | isN (neg : Bool) (a : ME)
  | ix (a i : ME) | sl (a : ME) (lo hi : MO) | rev (a : ME)
  | call (f : Nat) (es : MEs) | lend (f : Nat) (es : MEs) | callK (f : Nat) (es es2 : MEs) (ks : List Nat)
  | bi (b : Bi) (a : ME)
  | isi (a : ME) (one : Bool) (ts : List Ty)
  | comp (e : ME) (t : MT) (s : MSrc) (ifs : MEs) (own : List Nat)
  | mk (c : Nat) (es : MEs) | mkK (c : Nat) (e : ME) | attr (f : Str) (a : ME)
  | boxed (f : Nat) (e : ME)
  | idx (tp : Bool) (a x : ME)
  | comp2 (e : ME) (t : MT) (s : MSrc) (t2 : MT) (s2 : MSrc) (ifs : MEs) (own : List Nat)
inductive MEs where
  | nil
  | cons (star : Bool) (e : ME) (r : MEs)
inductive MO where
  | none
  | some (e : ME)
inductive MSrc where
  | it (e : ME) | range (a : ME) | range2 (a b : ME) | enum (a : ME) | zip (a b : ME) | zip3 (a b d : ME)
end
/-- what an except suite makes of the exception -/
inductive SA where
  | cst (d : D) | fld (f : Str) | isi (t : Ty)
inductive SE where
  | one (a : SA) | lst (l : List SA) | ite (c : SA) (a b : SE)
/-- except K as nm: tgt = e, or return e -/
structure Hd where
  k : Nat
  nm : Option Nat
  ret : Bool
  tgt : Nat
  e : SE
def SA.ev (k : Nat) (ds : List D) : SA → Option D
  | .cst d => some d
  | .fld f => evAttr f (.exc k ds)
  | .isi t => (D.isTy (.exc k ds) t).map .bl
def saL (k : Nat) (ds : List D) : List SA → Option (List D)
  | [] => some []
  | a :: r => match a.ev k ds, saL k ds r with
    | some x, some y => some (x :: y)
    | _, _ => none
def SE.ev (k : Nat) (ds : List D) : SE → Option D
  | .one a => a.ev k ds
  | .lst l => (saL k ds l).map .lst
  | .ite c a b => match c.ev k ds with
    | some (.bl true) => a.ev k ds
    | some (.bl false) => b.ev k ds
    | _ => none
mutual
inductive MS where
  | asg (own : Bool) (t : MT) (e : ME)
  | par (i j : Nat) (oi oj : Bool) (a b : ME)
  | aug (o : Op) (i : Nat) (e : ME)
  | seti (i : Nat) (x e : ME)
  | bset (i : Nat) (x e : ME)
  | app (i : Nat) (e : ME)
  | ext (i : Nat) (e : ME)
  | share (i : Nat)
  | ret (e : ME) | retN
  | ite (c : ME) (a b : MSs)
  | for_ (t : MT) (s : MSrc) (dead : List Nat) (b : MSs)
  | while_ (c : ME) (dead : List Nat) (b : MSs)
  | expr (e : ME)
  | pass | brk | cont | stuck
  | raise (k : Nat) (es : MEs)
  | try_ (b : MSs) (hs : List Hd)
  | pop (t i : Nat) (first : Bool)
inductive MSs where
  | nil
  | cons (s : MS) (r : MSs)
end
/-- what a slot holds: nothing, a value that others may hold too, a list of one's own -/
inductive Sl where
  | no | vl (d : D) | ow (d : D)
abbrev Env := List Sl
mutual
def tSlots : MT → List Nat
  | .slot i => [i]
  | .tup ts => tSlotsL ts
def tSlotsL : MTs → List Nat
  | .nil => []
  | .cons t r => tSlots t ++ tSlotsL r
end
mutual
def bindT : MT → D → Env → Option Env
  | .slot i, d, s => if i < s.length then some (s.set i (.vl d)) else none
  | .tup ts, d, s => match itemsOf d with
    | some ds => (match d with
      | .tup _ => bindTs ts ds s
      | .lst _ => bindTs ts ds s
      | _ => none)
    | none => none
def bindTs : MTs → List D → Env → Option Env
  | .nil, [], s => some s
  | .cons t r, d :: ds, s => match bindT t d s with
    | some s' => bindTs r ds s'
    | none => none
  | _, _, _ => none
end
def Sl.isOw : Sl → Bool
  | .ow _ => true
  | _ => false
def Env.noOw (s : Env) (is : List Nat) : Bool := is.all fun i => !(((s[i]?).getD .no).isOw)
def Env.kill (s : Env) : List Nat → Env
  | [] => s
  | i :: is => (Env.kill s is).set i .no
structure Cfg where
  cl : Nat → List D → M D
  G : Nat → Option D
  ns : List Int
def evBi : Bi → D → Option D
  | .len, .lst xs => some (.int xs.length)
  | .len, .tup xs => some (.int xs.length)
  | .len, .str x => some (.int x.cps.size)
  | .int, .int i => some (.int i)
  | .int, .bl b => some (.int (if b then 1 else 0))
  | .abs, .int i => some (.int (if i < 0 then -i else i))
  | .all, .lst xs => (bools xs).map fun bs => .bl (bs.all id)
  | .any, .lst xs => (bools xs).map fun bs => .bl (bs.any id)
  | .list, .lst xs => some (.lst xs)
  | .list, .tup xs => some (.lst xs)
  | .tuple, .lst xs => some (.tup xs)
  | .tuple, .tup xs => some (.tup xs)
  | .sortSet, .lst xs => (sortSet xs).map .lst
  | .sortSet, .tup xs => (sortSet xs).map .lst
  | .lenSet, .lst xs => (lenSet xs).map fun n => .int n
  | .lenSet, .tup xs => (lenSet xs).map fun n => .int n
  | .sort, .lst xs => if sortOk xs && decide (xs.length ≤ lineMax) then some (.lst (sortD xs)) else none
  | .sort, .tup xs => if sortOk xs && decide (xs.length ≤ lineMax) then some (.lst (sortD xs)) else none
  | .sum, .lst xs => (intsD xs).map fun is => .int is.sum
  | .str, .int i => if i.natAbs < 10 ^ 100 then some (.str (toString i : String)) else none
  | _, _ => none
def upTo (lo : Int) (n : Nat) : List D := (List.range n).map fun (k : Nat) => D.int (lo + (k : Int))
def evRange (lo hi : Int) : Option (List D) := if -(2 ^ 62) ≤ lo ∧ lo < 2 ^ 62 ∧ -(2 ^ 62) ≤ hi ∧ hi < 2 ^ 62 then some (upTo lo (hi - lo).toNat) else none
def enumD : Nat → List D → List D
  | _, [] => []
  | k, d :: ds => .tup [.int k, d] :: enumD (k + 1) ds
def zipD : List D → List D → List D
  | x :: xs, y :: ys => .tup [x, y] :: zipD xs ys
  | _, _ => []
def strItems (x : Str) : List D := x.cps.toList.map fun c => .str ⟨#[c]⟩
/-- the items of what is walked -/
def walkOf : D → Option (List D)
  | .lst xs => some xs
  | .tup xs => some xs
  | .str x => some (strItems x)
  | _ => none
def zipD3 : List D → List D → List D → List D
  | x :: xs, y :: ys, z :: zs => .tup [x, y, z] :: zipD3 xs ys zs
  | _, _, _ => []
def zipOf3 (x y z : D) : Option (List D) := match itemsOf x, itemsOf y, itemsOf z with
  | some xs, some ys, some zs => some (zipD3 xs ys zs)
  | _, _, _ => none
def zipOf (x y : D) : Option (List D) := match itemsOf x, itemsOf y with
  | some xs, some ys => some (zipD xs ys)
  | _, _ => none
/-- the turns of a comprehension: f gives the item, if it is kept -/
def compGo (f : D → M (Option D)) : List D → M (List D)
  | [] => M.ret []
  | d :: ds => (f d).bd fun o => (compGo f ds).bd fun r => M.ret (match o with | some x => x :: r | none => r)
def compGo2 (f : D → M (List D)) : List D → M (List D)
  | [] => M.ret []
  | d :: ds => (f d).bd fun x => (compGo2 f ds).bd fun r => M.ret (x ++ r)
/-- the first place of a text -/
def idxF (x : Str) : List Str → Option Nat
  | [] => none
  | y :: r => if y = x then some 0 else (idxF x r).map (· + 1)
def idxRecv : Bool → D → Option (List Str)
  | false, .lst ys => strsD ys
  | true, .tup ys => strsD ys
  | _, _ => none
def idxAt (xs : List Str) : D → Option D
  | .str x => (idxF x xs).map fun (n : Nat) => D.int n
  | _ => none
/-- not built of others -/
def D.flat : D → Bool
  | .non | .bl _ | .int _ | .str _ => true
  | _ => false
def M.raise {α : Type} (k : Nat) (ds : List D) : M α := fun b => .ex k ds b
def permD {α : Type} (order : List Nat) (vs : List α) : List α := order.filterMap fun i => vs[i]?
def M.asB (m : M D) : M Bool := m.bd fun d => M.ofO (Mi.asB d)
/-- a place, of the box too -/
def ixM (x y : D) : M D := match x, y with
  | .box, .int k => fun b => match b with
    | some (i, j, l) => (match L2.atI [i, j, l] k with
      | some v => .ok (.int v) b
      | none => .no)
    | none => .no
  | x, y => M.ofO (evIx x y)
/-- the box written -/
def bsetM {α : Type} (a : α) (k v : Int) : M α := fun b => match b with
  | some (i, j, l) => (match L2.ixN 3 k with
    | some 0 => .ok a (some (v, j, l))
    | some 1 => .ok a (some (i, v, l))
    | some 2 => .ok a (some (i, j, v))
    | _ => .no)
  | none => .no
def tr (m : M D) : M D × M Bool := (m, m.bd fun x => M.ofO (truth x))
section
variable (c : Cfg)
mutual
/-- as a value, as a test -/
def evP : ME → Env → M D × M Bool
  | .andE es, s => (evAnd es s, evTAnd es s)
  | .orE es, s => (evOr es s, evTOr es s)
  | .notE a, s => ((evP a s).1.bd fun x => (M.ofO (truth x)).bd fun b => M.ret (.bl (!b)), (evP a s).2.bd fun b => M.ret (!b))
  | .var i, s => tr (match s[i]? with
    | some (.vl d) => M.ret d
    | _ => M.no)
  | .bor i, s => tr (match s[i]? with
    | some (.vl d) => M.ret d
    | some (.ow d) => M.ret d
    | _ => M.no)
  | .cst d, _ => tr (M.ret d)
  | .glo g, _ => tr (M.ofO (c.G g))
  | .tup es, s => tr ((evEs es s).bd fun ds => if ds.length ≤ lineMax then M.ret (.tup ds) else M.no)
  | .lst es, s => tr ((evEs es s).bd fun ds => if ds.length ≤ lineMax then M.ret (.lst ds) else M.no)
  | .op o a b, s => tr ((evP a s).1.bd fun x => (evP b s).1.bd fun y => M.ofO (evOp o x y))
  | .chain o1 o2 a b e, s => tr ((evP a s).1.bd fun x => (evP b s).1.bd fun y => (M.ofO (evOp o1 x y)).asB.bd fun k =>
      if k then (evP e s).1.bd fun z => M.ofO (evOp o2 y z) else M.ret (.bl false))
  | .neg a, s => tr ((evP a s).1.bd fun x => (M.ofO (asI x)).bd fun i => M.ret (.int (-i)))
  | .ite t a b, s => ((evP t s).2.bd fun k => if k then (evP a s).1 else (evP b s).1, M.no)
  | .isN n a, s => tr ((evP a s).1.bd fun x => M.ret (.bl (xor n (isNon x))))
  | .ix a i, s => tr ((evP a s).1.bd fun x => (evP i s).1.bd fun y => ixM x y)
  | .sl a lo hi, s => tr ((evP a s).1.bd fun x => (evO lo s).bd fun l => (evO hi s).bd fun h => M.ofO (evSl c.ns x l h))
  | .rev a, s => tr ((evP a s).1.bd fun x => M.ofO (evRev x))
  | .call f es, s => tr ((evEs es s).bd fun ds => c.cl f ds)
  | .lend f es, s => tr ((evEs es s).bd fun ds => (c.cl f ds).bd fun d => if d.pure then M.ret d else M.no)
  | .callK f es es2 ks, s => tr ((evEs es s).bd fun ds => (evEs es2 s).bd fun d2 => c.cl f (permD ks (ds ++ d2)))
  | .bi b a, s => tr ((evP a s).1.bd fun x => M.ofO (evBi b x))
  | .isi a _ ts, s => tr ((evP a s).1.bd fun x => (M.ofO (anyTy x ts)).bd fun k => M.ret (.bl k))
  | .comp e t r ifs own, s => tr ((evSrc r s).bd fun ds => if s.noOw own then
      (M.nex (compGo (fun d => match bindT t d (s.kill own) with
        | some s1 => (evTs ifs s1).bd fun k => if k then (evP e s1).1.bd fun x => M.ret (some x) else M.ret none
        | none => M.no) ds)).bd fun r => if r.length ≤ lineMax then M.ret (.lst r) else M.no else M.no)
  | .mk k es, s => tr ((evEs es s).bd fun ds => M.ofO (mkExc k ds))
  | .mkK k e, s => tr ((evP e s).1.bd fun d => M.ofO (mkExc k [d]))
  | .attr f a, s => tr ((evP a s).1.bd fun x => M.ofO (evAttr f x))
  | .boxed f e, s => tr ((evP e s).1.bd fun x => (match x with
    | .lst [.int i, .int j, .int k] => fun b => (match b with
      | none => (match c.cl f [.box] (some (i, j, k)) with
        | .ok (.bl t) _ => .ok (.bl t) none
        | _ => .no)
      | some _ => .no)
    | _ => M.no))
  | .idx tp a x, s => tr ((evP a s).1.bd fun u => (M.ofO (idxRecv tp u)).bd fun xs => (evP x s).1.bd fun v => M.ofO (idxAt xs v))
  | .comp2 e t r t2 r2 ifs own, s => tr ((evSrc r s).bd fun ds => if s.noOw own then
      (M.nex (compGo2 (fun d => match bindT t d (s.kill own) with
        | some s1 => (evSrc r2 s1).bd fun es => compGo (fun d2 => match bindT t2 d2 (s1.kill (tSlots t2)) with
          | some s2 => (evTs ifs s2).bd fun k => if k then (evP e s2).1.bd fun x => M.ret (some x) else M.ret none
          | none => M.no) es
        | none => M.no) ds)).bd fun r => if r.length ≤ lineMax then M.ret (.lst r) else M.no else M.no)
def evTAnd : MEs → Env → M Bool
  | .nil, _ => M.ret true
  | .cons _ e r, s => (evP e s).2.bd fun b => if b then evTAnd r s else M.ret false
def evTOr : MEs → Env → M Bool
  | .nil, _ => M.ret false
  | .cons _ e r, s => (evP e s).2.bd fun b => if b then M.ret true else evTOr r s
def evAnd : MEs → Env → M D
  | .nil, _ => M.ret (.bl true)
  | .cons _ e r, s => match r with
    | .nil => (evP e s).1
    | .cons _ _ _ => (evP e s).1.bd fun x => (M.ofO (truth x)).bd fun b => if b then evAnd r s else M.ret x
def evOr : MEs → Env → M D
  | .nil, _ => M.ret (.bl false)
  | .cons _ e r, s => match r with
    | .nil => (evP e s).1
    | .cons _ _ _ => (evP e s).1.bd fun x => (M.ofO (truth x)).bd fun b => if b then M.ret x else evOr r s
/-- the tests of a comprehension, all of them -/
def evTs : MEs → Env → M Bool
  | .nil, _ => M.ret true
  | .cons _ e r, s => (evP e s).2.bd fun b => if b then evTs r s else M.ret false
def evEs : MEs → Env → M (List D)
  | .nil, _ => M.ret []
  | .cons k e r, s => match k with
    | false => (evP e s).1.bd fun x => (evEs r s).bd fun xs => M.ret (x :: xs)
    | true => (evP e s).1.bd fun x => (M.ofO (itemsOf x)).bd fun ys => (evEs r s).bd fun xs => M.ret (ys ++ xs)
def evO : MO → Env → M (Option Int)
  | .none, _ => M.ret none
  | .some e, s => (evP e s).1.bd fun x => (M.ofO (asI x)).bd fun i => M.ret (some i)
def evSrc : MSrc → Env → M (List D)
  | .it e, s => (evP e s).1.bd fun x => M.ofO (walkOf x)
  | .range a, s => (evP a s).1.bd fun x => (M.ofO (asI x)).bd fun i => M.ofO (evRange 0 i)
  | .range2 a b, s => (evP a s).1.bd fun x => (evP b s).1.bd fun y => (M.ofO (asI x)).bd fun i => (M.ofO (asI y)).bd fun j => M.ofO (evRange i j)
  | .enum a, s => (evP a s).1.bd fun x => (M.ofO (itemsOf x)).bd fun ds => M.ret (enumD 0 ds)
  | .zip a b, s => (evP a s).1.bd fun x => (evP b s).1.bd fun y => M.ofO (zipOf x y)
  | .zip3 a b d, s => (evP a s).1.bd fun x => (evP b s).1.bd fun y => (evP d s).1.bd fun z => M.ofO (zipOf3 x y z)
end
def evE (e : ME) (s : Env) : M D := (evP c e s).1
def evT (e : ME) (s : Env) : M Bool := (evP c e s).2
end
inductive Flow where
  | nx | rt (d : D) | bk | ct
def slOf (own : Bool) : D → Sl
  | .lst xs => if own then .ow (.lst xs) else .vl (.lst xs)
  | d => .vl d
def setOwn (own : Bool) (i : Nat) (d : D) (s : Env) : Option Env := if i < s.length then some (s.set i (slOf own d)) else none
def forGo (t : MT) (dead : List Nat) (body : Env → M (Flow × Env)) : List D → Env → M (Flow × Env)
  | [], s => M.ret (.nx, s)
  | d :: ds, s => (M.ofO (bindT t d s)).bd fun s1 => (body s1).bd fun p => (match p.1 with
    | .nx => forGo t dead body ds (p.2.kill dead)
    | .ct => forGo t dead body ds (p.2.kill dead)
    | .bk => M.ret (.nx, p.2)
    | .rt v => M.ret (.rt v, p.2))
def whileGo (dead : List Nat) (test : Env → M Bool) (body : Env → M (Flow × Env)) : Nat → Env → M (Flow × Env)
  | 0, _ => M.no
  | n + 1, s => (test s).bd fun k => if k then (body s).bd fun p => (match p.1 with
    | .nx => whileGo dead test body n (p.2.kill dead)
    | .ct => whileGo dead test body n (p.2.kill dead)
    | .bk => M.ret (.nx, p.2)
    | .rt v => M.ret (.rt v, p.2)) else M.ret (.nx, s)
def fuelW : Nat := 1000000
/-- the slot of an except clause's name goes -/
def noSlot (s : Env) : Option Nat → Env
  | none => s
  | some i => s.set i .no
/-- an exception met -/
def hdGo (s : Env) (k : Nat) (ds : List D) : List Hd → M (Flow × Env)
  | [] => M.raise k ds
  | h :: r => if h.k = k then (M.ofO (h.e.ev k ds)).bd fun d => if h.ret then M.ret (.rt d, s) else if h.tgt < s.length then M.ret (.nx, noSlot (s.set h.tgt (.vl d)) h.nm) else M.no
    else hdGo s k ds r
/-- m; its exceptions by f -/
def M.catch {α : Type} (m : M α) (f : Nat → List D → M α) : M α := fun b => match m b with
  | .ex k ds b' => f k ds b'
  | r => r
section
variable (c : Cfg)
mutual
def exS : MS → Env → M (Flow × Env)
  | .asg own t e, s => (evE c e s).bd fun x => (M.ofO (match t with
    | .slot i => setOwn own i x s
    | t => if own then none else bindT t x s)).bd fun s' => M.ret (.nx, s')
  | .par i j oi oj a b, s => (evE c a s).bd fun x => (evE c b s).bd fun y => (M.ofO (setOwn oi i x s)).bd fun s1 => (M.ofO (setOwn oj j y s1)).bd fun s2 => M.ret (.nx, s2)
  | .aug o i e, s => (match s[i]? with
    | some (.vl x) => (evE c e s).bd fun y => (M.ofO (match x, y with
      | .int a, .int b => (match o with
        | .add => some (.int (a + b))
        | .sub => some (.int (a - b))
        | _ => none)
      | _, _ => none)).bd fun z => M.ret (.nx, s.set i (.vl z))
    | _ => M.no)
  | .seti i x e, s => (evE c e s).bd fun v => (match s[i]? with
    | some (.ow (.lst xs)) => (evE c x s).bd fun k => (M.ofO (asI k)).bd fun k => (M.ofO (L2.ixN xs.length k)).bd fun j => M.ret (.nx, s.set i (.ow (.lst (xs.set j v))))
    | _ => M.no)
  | .bset i x e, s => (evE c e s).bd fun v => (match s[i]? with
    | some (.vl .box) => (evE c x s).bd fun k => (M.ofO (asI k)).bd fun k => (M.ofO (asI v)).bd fun v => bsetM (.nx, s) k v
    | _ => M.no)
  | .app i e, s => (match s[i]? with
    | some (.ow (.lst xs)) => (evE c e s).bd fun v => if xs.length < lineMax then M.ret (.nx, s.set i (.ow (.lst (xs ++ [v])))) else M.no
    | _ => M.no)
  | .ext i e, s => (match s[i]? with
    | some (.ow (.lst xs)) => (evE c e s).bd fun v => (match v with
      | .lst ys => if xs.length + ys.length ≤ lineMax then M.ret (.nx, s.set i (.ow (.lst (xs ++ ys)))) else M.no
      | _ => M.no)
    | _ => M.no)
  | .share i, s => (match s[i]? with
    | some (.ow d) => M.ret (.nx, s.set i (.vl d))
    | some (.vl _) => M.ret (.nx, s)
    | _ => M.no)
  | .ret e, s => (evE c e s).bd fun x => M.ret (.rt x, s)
  | .retN, s => M.ret (.rt .non, s)
  | .ite t a b, s => (evT c t s).bd fun k => if k then exSs a s else exSs b s
  | .for_ t r dead b, s => (evSrc c r s).bd fun ds => forGo t dead (exSs b) ds s
  | .while_ t dead b, s => whileGo dead (evT c t) (exSs b) fuelW s
  | .expr e, s => (evE c e s).bd fun _ => M.ret (.nx, s)
  | .stuck, _ => M.no
  | .pass, s => M.ret (.nx, s)
  | .brk, s => M.ret (.bk, s)
  | .cont, s => M.ret (.ct, s)
  | .raise k es, s => (evEs c es s).bd fun ds => match mkExc k ds with
    | some _ => if ds.all D.flat then M.raise k ds else M.no
    | none => M.no
  | .try_ b hs, s => (exSs b s).catch fun k ds => hdGo s k ds hs
  | .pop t i first, s => (match s[i]? with
    | some (.ow (.lst xs)) => if t < s.length ∧ t ≠ i then (if first then (match xs with
        | x :: r => M.ret (.nx, (s.set i (.ow (.lst r))).set t (.vl x))
        | [] => M.no)
      else (match xs[xs.length - 1]? with
        | some x => M.ret (.nx, (s.set i (.ow (.lst xs.dropLast))).set t (.vl x))
        | none => M.no)) else M.no
    | _ => M.no)
def exSs : MSs → Env → M (Flow × Env)
  | .nil, s => M.ret (.nx, s)
  | .cons a r, s => (exS a s).bd fun p => (match p.1 with
    | .nx => exSs r p.2
    | _ => M.ret p)
end
end
inductive Kind where
  | mini | take | cells
structure FD where
  name : Str
  ps : List Str
  N : List Str
  kind : Kind
  fresh : Bool
  body : MSs
structure Prg where
  fs : List FD
  gs : List (Str × D)
/-- a draw -/
def takeM : List D → M D
  | [.box, .int n] => fun b => match b with
    | some (g, m, k) => if 0 < n ∧ n < 1073741824 then
        (if 0 < g then .ok (.int (g % n)) (some (g / n, m, k)) else
          (if 0 ≤ k ∧ k < 2 ^ 60 then
            (let k1 := k + 1
             let once := ((m + 48271 * k1) * (39373 + k1)) % 2147483647
             let far := once % 40009 + 7
             let twice := ((once + k1 + m / 1000003) * far) % 2147483629
             .ok (.int ((((twice * 48271 + once) % 2147483587) / 64) % n)) (some (g, m, k1))) else .no)) else .no
    | none => .no
  | _ => M.no
/-- the first numbers of the script, with the later ones added to them -/
def cellsGo (most : Nat) : Nat → List Int → List Int → List Int
  | _, [], cs => cs
  | k, g :: r, cs => cellsGo most (k + 1) r (cs.set (k % most) ((cs[k % most]?).getD 0 + g * ((k : Int) + 2)))
def cellsF (ns : List Int) (most : Nat) : List Int :=
  cellsGo most 0 ((ns.take 63).drop most) (let a := ns.take most; if a = [] then [0] else a)
def cellsM (ns : List Int) : List D → M D
  | [.scr, .int 3] => M.ret (.lst ((cellsF ns 3).map .int))
  | [.scr, .int 2] => M.ret (.lst ((cellsF ns 2).map .int))
  | _ => M.no
def Prg.glob (p : Prg) (g : Nat) : Option D := (p.gs[g]?).map (·.2)
/-- the i-th def called, the calls within at most k deep -/
def run (p : Prg) (ns : List Int) : Nat → Nat → List D → M D
  | 0, _, _ => M.no
  | k + 1, f, ds => match p.fs[f]? with
    | none => M.no
    | some d => if ds.length = d.ps.length then (match d.kind with
      | .take => takeM ds
      | .cells => cellsM ns ds
      | .mini => (exSs ⟨run p ns k, p.glob, ns⟩ d.body (ds.map .vl ++ List.replicate (d.N.length - ds.length) .no)).bd fun q => (match q.1 with
        | .rt v => M.ret v
        | .nx => M.ret .non
        | _ => M.no)) else M.no
end Mi
namespace Mi
open PySem L2
/-- plain parameters, no defaults -/
def plainArgs (ps : List Str) (a : Arguments) : Bool := a.posonlyargs.isEmpty && a.vararg.isNone && a.kwonlyargs.isEmpty && a.kwarg.isNone && decide (a.args.map (·.arg) = ps)
theorem lookup_zip_none {α β : Type} [BEq α] [LawfulBEq α] {k : α} : ∀ {ks : List α} {us : List β}, k ∉ ks → (ks.zip us).lookup k = none
  | [], _, _ => by simp
  | _ :: _, [], _ => by simp
  | x :: ks, u :: us, h => by
    rw [List.zip_cons_cons, List.lookup_cons]
    have h1 : (k == x) = false := beq_eq_false_iff_ne.mpr fun e => h (e ▸ List.mem_cons_self)
    rw [h1]
    exact lookup_zip_none fun m => h (List.mem_cons_of_mem _ m)
theorem lookup_append {α β : Type} [BEq α] {k : α} : ∀ {l m : List (α × β)}, (l ++ m).lookup k = (l.lookup k).or (m.lookup k)
  | [], m => by simp
  | (a, b) :: l, m => by
    rw [List.cons_append, List.lookup_cons, List.lookup_cons]
    cases (k == a)
    · exact lookup_append
    · rfl
/-- the slots behind the keywords -/
theorem kw_loop {normal : List Str} {ex : List (Str × Value)} {body : Str × Value → List (Str × Value) × List (Str × Value) → Sem (ForInStep (List (Str × Value) × List (Str × Value)))}
    (hb : ∀ p s, p.1 ∈ normal → s.lookup p.1 = none → body p (s, ex) = pure (.yield (s ++ [p], ex))) : ∀ (kvs slots : List (Str × Value)), (∀ p ∈ kvs, p.1 ∈ normal) → (kvs.map (·.1)).Nodup → (∀ p ∈ kvs, slots.lookup p.1 = none) →
      (forIn kvs (slots, ex) body : Sem (List (Str × Value) × List (Str × Value))) = pure (slots ++ kvs, ex)
  | [], slots, _, _, _ => by simp
  | p :: kvs, slots, h1, h2, h3 => by
    rw [List.forIn_cons, hb p slots (h1 p (List.mem_cons_self)) (h3 p (List.mem_cons_self)), pure_bind]
    rw [List.map_cons, List.nodup_cons] at h2
    simp only
    rw [kw_loop hb kvs (slots ++ [p]) (fun q hq => h1 q (List.mem_cons_of_mem _ hq)) h2.2 (fun q hq => by
      rw [lookup_append, h3 q (List.mem_cons_of_mem _ hq)]
      have : q.1 ≠ p.1 := fun e => h2.1 (by rw [← e]; exact List.mem_map_of_mem hq)
      have e : (q.1 == p.1) = false := beq_eq_false_iff_ne.mpr this
      simp [List.lookup, e])]
    simp
theorem filter_zip {α β : Type} [BEq α] [LawfulBEq α] : ∀ {ps : List α} {us : List β}, us.length = ps.length → ps.Nodup → ps.filterMap (fun n => ((ps.zip us).lookup n).map (n, ·)) = ps.zip us
  | [], us, _, _ => by simp
  | p :: ps, [], h, _ => by simp at h
  | p :: ps, u :: us, h, nd => by
    rw [List.nodup_cons] at nd
    rw [List.zip_cons_cons, List.filterMap_cons]
    simp only [List.lookup_cons, beq_self_eq_true, Option.map_some]
    congr 1
    have fc : ∀ (l : List α) (f g : α → Option (α × β)), (∀ n ∈ l, f n = g n) → l.filterMap f = l.filterMap g := by
      intro l f g hl
      induction l with
      | nil => rfl
      | cons a l ih => rw [List.filterMap_cons, List.filterMap_cons, hl a List.mem_cons_self, ih fun n hn => hl n (List.mem_cons_of_mem _ hn)]
    rw [fc ps _ (fun n => ((ps.zip us).lookup n).map (n, ·)) fun n hn => by
      have : (n == p) = false := beq_eq_false_iff_ne.mpr fun e => nd.1 (e ▸ hn)
      simp only [this]]
    exact filter_zip (by simpa using h) nd.2
theorem look_some {α β : Type} [BEq α] [LawfulBEq α] {k : α} : ∀ {ks : List α} {us : List β}, us.length = ks.length → k ∈ ks → ∃ u, (ks.zip us).lookup k = some u
  | [], _, _, h => nomatch h
  | _ :: _, [], h, _ => by simp at h
  | x :: ks, u :: us, h, hk => by
    rw [List.zip_cons_cons, List.lookup_cons]
    cases e : (k == x) with
    | true => exact ⟨u, rfl⟩
    | false =>
      rcases List.mem_cons.mp hk with rfl | hk
      · simp at e
      · exact look_some (by simpa using h) hk
theorem bind_args {x qual : Str} {params : Arguments} {body : List Stmt} {scope : Scope} {kV doc pm : Value} {an : Option Addr} {cdv ct : Value} {ps : List Str} (hp : plainArgs ps params = true) (nd : ps.Nodup) (us ws : List Value) (ks : List Str)
    (hu : us.length + ks.length = ps.length) (hw : ws.length = ks.length) (hk : ks.Nodup) (hks : ∀ k, k ∈ ks ↔ k ∈ ps.drop us.length) :
    bindArgs (PySem.W.fnOf x qual params body scope .none kV doc pm an cdv ct) ⟨us, ks.zip ws⟩ = pure (ps.filterMap fun n => ((ps.zip us ++ ks.zip ws).lookup n).map (n, ·)) := by
  unfold plainArgs at hp
  simp only [Bool.and_eq_true, decide_eq_true_eq, List.isEmpty_iff, Option.isNone_iff_eq_none] at hp
  obtain ⟨⟨⟨⟨h1, h2⟩, h3⟩, h4⟩, h5⟩ := hp
  have hzk : (ks.zip ws).map (·.1) = ks := by rw [List.map_fst_zip (by omega)]
  have hnot : ∀ k ∈ ks, (ps.zip us).lookup k = none := fun k hk' => by
    have e : ps.zip us = (ps.take us.length).zip us := by
      rw [List.zip_eq_zip_take_min, List.zip_eq_zip_take_min (l₁ := ps.take us.length)]
      have : min ps.length us.length = us.length := by omega
      have h6 : min (ps.take us.length).length us.length = us.length := by rw [List.length_take]; omega
      rw [this, h6, List.take_take, Nat.min_self]
    rw [e]
    refine lookup_zip_none fun hm => ?_
    have hd := (hks k).mp hk'
    have nd2 : (ps.take us.length ++ ps.drop us.length).Nodup := by rw [List.take_append_drop]; exact nd
    exact (List.nodup_append.mp nd2).2.2 k hm k hd rfl
  unfold bindArgs
  simp only [h1, h2, h3, h4, h5, List.map_nil, List.nil_append, List.append_nil, List.not_mem_nil]
  rw [kw_loop (normal := ps) (fun p s hp hs => ?_) (ks.zip ws) (ps.zip us) (fun p hp => ?_) (by rw [hzk]; exact hk) (fun p hp => ?_)]
  · rw [pure_bind]
    have hi : seqItems? Value.none = pure none := rfl
    rw [hi, pure_bind]
    have hge : (decide (us.length > ps.length) && (none : Option Arg).isNone) = false := by
      have : ¬ us.length > ps.length := by omega
      simp [this]
    simp only [hge]
    have all : ∀ n ∈ ps, ((ps.zip us ++ ks.zip ws).lookup n).isNone = false := fun n hn => by
      rw [lookup_append]
      rw [← List.take_append_drop us.length ps] at hn
      rcases List.mem_append.mp hn with hn | hn
      · have e : ps.zip us = (ps.take us.length).zip us := by
          rw [List.zip_eq_zip_take_min, List.zip_eq_zip_take_min (l₁ := ps.take us.length)]
          have : min ps.length us.length = us.length := by omega
          have h6 : min (ps.take us.length).length us.length = us.length := by rw [List.length_take]; omega
          rw [this, h6, List.take_take, Nat.min_self]
        obtain ⟨u, hu'⟩ := look_some (ks := ps.take us.length) (us := us) (by rw [List.length_take]; omega) hn
        rw [e, hu']
        rfl
      · obtain ⟨u, hu'⟩ := look_some (ks := ks) (us := ws) hw ((hks n).mpr hn)
        rw [hu']
        cases (ps.zip us).lookup n <;> rfl
    have miss : (ps.filter fun n => ((ps.zip us ++ ks.zip ws).lookup n).isNone) = [] := List.filter_eq_nil_iff.mpr fun n hn => by rw [all n hn]; decide
    have hd0 : ((none : Option (Array Value)).getD #[]).toList = [] := rfl
    simp only [hd0, List.length_nil, Nat.sub_zero, List.take_length, Nat.zero_sub, List.drop_nil, miss, List.isEmpty_nil, Bool.not_true, Bool.false_eq_true, if_false, List.zip_nil_right, List.forIn_nil, pure_bind]
  · have : ps.contains p.1 = true := List.contains_iff_mem.mpr hp
    simp only [this, hs]
    rfl
  · have := List.mem_map_of_mem (f := fun x : Str × Value => x.1) hp
    rw [hzk] at this
    exact List.mem_of_mem_drop ((hks _).mp this)
  · have := List.mem_map_of_mem (f := fun x : Str × Value => x.1) hp
    rw [hzk] at this
    exact hnot _ this
theorem look_idx {α β : Type} [BEq α] [LawfulBEq α] {k : α} : ∀ {ks : List α} {us : List β}, k ∈ ks → (ks.zip us).lookup k = us[ks.idxOf k]?
  | [], _, h => nomatch h
  | x :: ks, [], _ => by simp
  | x :: ks, u :: us, hk => by
    rw [List.zip_cons_cons, List.lookup_cons, List.idxOf_cons]
    cases e : (k == x) with
    | true =>
      have e2 : (x == k) = true := by rw [beq_iff_eq] at *; exact e.symm
      rw [e2]
      rfl
    | false =>
      have e2 : (x == k) = false := by
        rw [beq_eq_false_iff_ne] at *
        exact fun z => e z.symm
      rw [e2]
      rcases List.mem_cons.mp hk with rfl | hk
      · simp at e
      · simp only [cond_false, List.getElem?_cons_succ]
        exact look_idx hk
theorem fm_zip {α β : Type} : ∀ {l : List α} {f : α → Option β}, (∀ n ∈ l, (f n).isSome = true) → l.filterMap (fun n => (f n).map (n, ·)) = l.zip (l.filterMap f)
  | [], _, _ => rfl
  | a :: l, f, h => by
    have h1 := h a List.mem_cons_self
    cases e : f a with
    | none => rw [e] at h1; cases h1
    | some b =>
      rw [List.filterMap_cons, List.filterMap_cons, e]
      simp only [Option.map_some, List.zip_cons_cons]
      rw [fm_zip fun n hn => h n (List.mem_cons_of_mem _ hn)]
/-- which of the values handed over goes to each parameter: np by place, then those named ks -/
def orderOf (ps : List Str) (np : Nat) (ks : List Str) : List Nat := ps.map fun n => if n ∈ ks then np + ks.idxOf n else ps.idxOf n
def kwNames (ps : List Str) (np : Nat) (ks : List Str) : Bool := decide (np + ks.length = ps.length) && decide ks.Nodup && decide ps.Nodup && (ks.all fun k => decide (k ∈ ps.drop np)) && ((ps.drop np).all fun k => decide (k ∈ ks))
def KwOk (fd : FuncData) (ps : List Str) : Prop := ∀ (np : Nat) (ks : List Str) (us ws : List Value), kwNames ps np ks = true → us.length = np → ws.length = ks.length → bindArgs fd ⟨us, ks.zip ws⟩ = pure (ps.zip (permD (orderOf ps np ks) (us ++ ws)))
theorem kw_ok {x qual : Str} {params : Arguments} {body : List Stmt} {scope : Scope} {kV doc pm : Value} {an : Option Addr} {cdv ct : Value} {ps : List Str} (hp : plainArgs ps params = true) : KwOk (PySem.W.fnOf x qual params body scope .none kV doc pm an cdv ct) ps := by
  intro np ks us ws hk hu hw
  subst hu
  unfold kwNames at hk
  simp only [Bool.and_eq_true, decide_eq_true_eq, List.all_eq_true] at hk
  obtain ⟨⟨⟨⟨k1, k2⟩, k3⟩, k4⟩, k5⟩ := hk
  rw [bind_args hp k3 us ws ks k1 hw k2 fun k => ⟨k4 k, k5 k⟩]
  congr 1
  have key : ∀ n ∈ ps, (ps.zip us ++ ks.zip ws).lookup n = (us ++ ws)[if n ∈ ks then us.length + ks.idxOf n else ps.idxOf n]? := fun n hn => by
    rw [lookup_append]
    by_cases hnk : n ∈ ks
    · rw [if_pos hnk, look_idx hnk, List.getElem?_append_right (Nat.le_add_right ..), Nat.add_sub_cancel_left]
      have hd := k4 n hnk
      have e : ps.zip us = (ps.take us.length).zip us := by
        rw [List.zip_eq_zip_take_min, List.zip_eq_zip_take_min (l₁ := ps.take us.length)]
        have : min ps.length us.length = us.length := by omega
        have h6 : min (ps.take us.length).length us.length = us.length := by rw [List.length_take]; omega
        rw [this, h6, List.take_take, Nat.min_self]
      have nd2 : (ps.take us.length ++ ps.drop us.length).Nodup := by rw [List.take_append_drop]; exact k3
      rw [e, lookup_zip_none fun hm => (List.nodup_append.mp nd2).2.2 n hm n hd rfl]
      rfl
    · rw [if_neg hnk, look_idx hn, lookup_zip_none hnk]
      have hm : n ∈ ps.take us.length := by
        rw [← List.take_append_drop us.length ps] at hn
        rcases List.mem_append.mp hn with h | h
        · exact h
        · exact absurd (k5 n h) hnk
      have hi : ps.idxOf n < us.length := by
        have e : ps.idxOf n = (ps.take us.length).idxOf n := by
          conv => lhs; rw [← List.take_append_drop us.length ps]
          rw [List.idxOf_append, if_pos hm]
        rw [e]
        have := List.idxOf_lt_length_of_mem hm
        rw [List.length_take] at this
        omega
      rw [List.getElem?_append_left hi]
      cases us[ps.idxOf n]? <;> rfl
  have e1 : ps.filterMap (fun n => ((ps.zip us ++ ks.zip ws).lookup n).map (n, ·)) = ps.zip (ps.filterMap fun n => (ps.zip us ++ ks.zip ws).lookup n) := by
    refine fm_zip fun n hn => ?_
    rw [key n hn]
    have : (if n ∈ ks then us.length + ks.idxOf n else ps.idxOf n) < (us ++ ws).length := by
      rw [List.length_append]
      split
      · rename_i h
        have := List.idxOf_lt_length_of_mem h
        omega
      · have := List.idxOf_lt_length_of_mem hn
        omega
    rw [List.getElem?_eq_getElem this]
    rfl
  rw [e1]
  congr 1
  unfold permD orderOf
  rw [List.filterMap_map]
  have fc : ∀ (l : List Str) (f g : Str → Option Value), (∀ n ∈ l, f n = g n) → l.filterMap f = l.filterMap g := by
    intro l f g hl
    induction l with
    | nil => rfl
    | cons a l ih => rw [List.filterMap_cons, List.filterMap_cons, hl a List.mem_cons_self, ih fun n hn => hl n (List.mem_cons_of_mem _ hn)]
  exact fc _ _ _ key
theorem binds_plain {x qual : Str} {params : Arguments} {body : List Stmt} {scope : Scope} {kV doc pm : Value} {an : Option Addr} {cdv ct : Value} {ps : List Str} (hp : plainArgs ps params = true) (nd : ps.Nodup) (us : List Value) (hl : us.length = ps.length) :
    bindArgs (PySem.W.fnOf x qual params body scope .none kV doc pm an cdv ct) ⟨us, []⟩ = pure (ps.zip us) := by
  have := bind_args (x := x) (qual := qual) (body := body) (scope := scope) (kV := kV) (doc := doc) (pm := pm) (an := an) (cdv := cdv) (ct := ct) hp nd us [] [] (by simpa using hl) rfl List.nodup_nil (fun k => by
    rw [hl, List.drop_length])
  rw [List.zip_nil_right, List.append_nil, filter_zip hl nd] at this
  exact this
end Mi
namespace Mi
open PySem L2
/-- what stays through a walk: the written part, where the box is, the script's numbers, how an exception as a value lies, how one that flies lies -/
structure Cc where
  K : PySem.W.Frag
  β : Option Addr
  ns : List Int
  ev : Nat → Addr → Option Addr → HO → Prop
  frs : Nat → Bool
  exAt : Nat → List D → Value → Option Addr → Hp → Prop
/-- an object of the module -/
def SqK (K : PySem.W.Frag) (a : Addr) (xs : List V) : Prop := ∃ (o : Obj) (its : Array Value) (n : Nat), K.lookup a = some o ∧ o.cls = .type "list" ∧ o.dict = none ∧ o.data = .seq its n ∧ its.size ≤ sizeLine ∧ Vals xs its.toList
theorem rd_keep {H H' : Hp} {a : Addr} {o : HO} (k : ∀ o, H a = some o → H' a = some o) (r : Rd H a o) : Rd H' a o := r.elim (fun h => .inl (k _ h)) fun ⟨u, h⟩ => .inr ⟨u, k _ h⟩
theorem rd_ne {H : Hp} {a : Addr} {o : HO} (r : Rd H a o) : H a ≠ none := fun e => by
  rcases r with h | ⟨u, h⟩ <;> rw [e] at h <;> cases h
/-- an exception's field, if its class k has one -/
def DictAt (c : Cc) (H : Hp) (N : Addr → Prop) (k : Nat) (dd : Option Addr) (xs : List V) : Prop := match excFld k with
  | none => dd = none
  | some f => ∃ e x, dd = some e ∧ ¬ N e ∧ H e = some (.xd [(f, x)]) ∧ xs = [x]
theorem DictAt.keepN {c : Cc} {H H' : Hp} {N : Addr → Prop} {k : Nat} {dd : Option Addr} {xs : List V} (kp : ∀ a o, ¬ N a → H a = some o → H' a = some o) (r : DictAt c H N k dd xs) : DictAt c H' N k dd xs := by
  unfold DictAt at *
  split at r
  · exact r
  · obtain ⟨e, x, h1, h2, h3, h4⟩ := r
    exact ⟨e, x, h1, h2, kp _ _ h2 h3, h4⟩
theorem DictAt.anti {c : Cc} {H : Hp} {N N' : Addr → Prop} {k : Nat} {dd : Option Addr} {xs : List V} (kp : ∀ a, N' a → N a ∨ H a = none) (r : DictAt c H N k dd xs) : DictAt c H N' k dd xs := by
  unfold DictAt at *
  split at r
  · exact r
  · obtain ⟨e, x, h1, h2, h3, h4⟩ := r
    exact ⟨e, x, h1, fun z => (kp e z).elim h2 (fun y => by rw [y] at h3; cases h3), h3, h4⟩
/-- a tuple that will not change, without a dict -/
def TupAt (H : Hp) (a : Addr) (xs : List V) : Prop := ∃ o, H a = some (.frz o (.tup xs)) ∧ o.dict = none
theorem TupAt.rd {H : Hp} {a : Addr} {xs : List V} (h : TupAt H a xs) : Rd H a (.tup xs) := let ⟨o, h, _⟩ := h; .inr ⟨o, h⟩
theorem TupAt.ne {H : Hp} {a : Addr} {xs : List V} (h : TupAt H a xs) : H a ≠ none := let ⟨_, h, _⟩ := h; fun e => by rw [e] at h; cases h
theorem TupAt.mp {H H' : Hp} {a : Addr} {xs : List V} (h : TupAt H a xs) (k : ∀ o, H a = some o → H' a = some o) : TupAt H' a xs := let ⟨o, h, d⟩ := h; ⟨o, k _ h, d⟩
theorem TupAt.sq {K : PySem.W.Frag} {H : Hp} {a : Addr} {xs : List V} (h : TupAt H a xs) : SqT K H a xs := .inl h.rd
section
variable (c : Cc)
mutual
/-- the value v is d; no list within it is protected -/
def Rep (H : Hp) (N : Addr → Prop) : D → V → Prop
  | .non, v => v = .non
  | .bl b, v => v = .bl b
  | .int i, v => v = .int i
  | .str x, v => v = .str x ∧ strFits x = true
  | .tup ds, v => ∃ a xs, v = .ref a ∧ ¬ N a ∧ TupAt H a xs ∧ RepL H N ds xs
  | .lst ds, v => ∃ a xs, v = .ref a ∧ ¬ N a ∧ H a = some (.lst xs) ∧ RepL H N ds xs
  | .dic _, _ => False
  | .box, v => ∃ b, c.β = some b ∧ v = .ref b
  | .scr, v => ∃ a, v = .ref a ∧ ((¬ N a ∧ Rd H a (.lst (c.ns.map V.int))) ∨ SqK c.K a (c.ns.map V.int))
  | .exc k as, v => ∃ a o dd xs, v = .ref a ∧ ¬ N a ∧ H a = some o ∧ c.ev k a dd o ∧ DictAt c H N k dd xs ∧ RepL H N as xs
def RepL (H : Hp) (N : Addr → Prop) : List D → List V → Prop
  | [], xs => xs = []
  | d :: ds, xs => ∃ v vs, xs = v :: vs ∧ Rep H N d v ∧ RepL H N ds vs
end
/-- weakly: the list itself may be protected -/
def RepW (H : Hp) (N0 N : Addr → Prop) (d : D) (v : V) : Prop := match d with
  | .lst ds => ∃ a xs, v = .ref a ∧ ¬ N0 a ∧ H a = some (.lst xs) ∧ RepL c H N ds xs
  | d => Rep c H N d v
/-- a list of one's own at a -/
def OwnAt (H : Hp) (N : Addr → Prop) (a : Addr) (d : D) : Prop := match d with
  | .lst ds => ∃ xs, H a = some (.lst xs) ∧ RepL c H N ds xs
  | _ => False
/-- fresh since H -/
def RepF (H H' : Hp) (N : Addr → Prop) (d : D) (v : V) : Prop := match d with
  | .lst ds => ∃ a xs, v = .ref a ∧ H a = none ∧ H' a = some (.lst xs) ∧ RepL c H' (fun b => N b ∨ b = a) ds xs
  | d => Rep c H' N d v
def IsOwn (σ : St) (s : Env) (a : Addr) : Prop := ∃ (i : Nat) (d : D), s[i]? = some (.ow d) ∧ σ[i]? = some (some (.ref a))
def Nof (N0 : Addr → Prop) (σ : St) (s : Env) (a : Addr) : Prop := N0 a ∨ IsOwn σ s a
structure Rel (H : Hp) (N0 : Addr → Prop) (σ : St) (s : Env) : Prop where
  len : s.length = σ.length
  vl : ∀ (i : Nat) d, s[i]? = some (.vl d) → ∃ v, σ[i]? = some (some v) ∧ Rep c H (Nof N0 σ s) d v
  ow : ∀ (i : Nat) d, s[i]? = some (.ow d) → ∃ a, σ[i]? = some (some (.ref a)) ∧ OwnAt c H (Nof N0 σ s) a d ∧ ¬ N0 a
  dis : ∀ (i j : Nat) d e a, s[i]? = some (.ow d) → s[j]? = some (.ow e) → σ[i]? = some (some (.ref a)) → σ[j]? = some (some (.ref a)) → i = j
  dom : ∀ a, N0 a → H a ≠ none
  bet : ∀ b, c.β = some b → N0 b
def BoxAt (H : Hp) : Bx → Prop
  | none => True
  | some (i, j, k) => ∃ a, c.β = some a ∧ H a = some (.lst [.int i, .int j, .int k])
/-- all but the box is kept -/
structure Keep (H H' : Hp) : Prop where
  kp : ∀ a o, c.β ≠ some a → H a = some o → H' a = some o
  fr : ∀ a, H' a = none → H a = none
/-- all but what is protected is kept -/
def KeepN (N : Addr → Prop) (H H' : Hp) : Prop := ∀ a o, ¬ N a → H a = some o → H' a = some o
end
section
variable {c : Cc} {H H1 H2 H' : Hp} {N N' N0 : Addr → Prop} {σ : St} {s : Env} {d : D} {v : V}
theorem Keep.refl : Keep c H H := ⟨fun _ _ _ h => h, fun _ h => h⟩
theorem Keep.trans (a : Keep c H H1) (b : Keep c H1 H2) : Keep c H H2 := ⟨fun x o n h => b.kp x o n (a.kp x o n h), fun x h => a.fr x (b.fr x h)⟩
theorem Keep.toN (k : Keep c H H') (hb : ∀ b, c.β = some b → N b) : KeepN N H H' := fun a o n h => k.kp a o (fun e => n (hb a e)) h
theorem Keep.laid {p : Addr} {o : HO} (hp : H p = none) : Keep c H (upd H p o) := ⟨fun a u _ h => by rw [upd_ne (ne_of_none h hp)]; exact h, fun a h => by
  by_cases e : a = p
  · rw [e]; exact hp
  · rwa [upd_ne e] at h⟩
mutual
theorem Rep.keepN (k : KeepN N H H') : ∀ (d : D) (v : V), Rep c H N d v → Rep c H' N d v
  | .non, _, r => r
  | .bl _, _, r => r
  | .int _, _, r => r
  | .str _, _, r => r
  | .tup ds, _, r => let ⟨a, xs, e, n, h, q⟩ := r; ⟨a, xs, e, n, h.mp fun o => k a o n, RepL.keepN k ds xs q⟩
  | .lst ds, _, r => let ⟨a, xs, e, n, h, q⟩ := r; ⟨a, xs, e, n, k a _ n h, RepL.keepN k ds xs q⟩
  | .dic _, _, r => r
  | .box, _, r => r
  | .scr, _, r => let ⟨a, e, q⟩ := r; ⟨a, e, q.imp (fun z => ⟨z.1, rd_keep (fun o h => k a o z.1 h) z.2⟩) id⟩
  | .exc _ as, _, r => let ⟨a, o, dd, xs, e, n, h, q, w, z⟩ := r; ⟨a, o, dd, xs, e, n, k a _ n h, q, w.keepN k, RepL.keepN k as xs z⟩
theorem RepL.keepN (k : KeepN N H H') : ∀ (ds : List D) (xs : List V), RepL c H N ds xs → RepL c H' N ds xs
  | [], _, r => r
  | d :: ds, _, r => let ⟨v, vs, e, h, q⟩ := r; ⟨v, vs, e, Rep.keepN k d v h, RepL.keepN k ds vs q⟩
end
mutual
/-- protected otherwise: what is protected now was so, or is not tracked -/
theorem Rep.anti (k : ∀ a, N' a → N a ∨ H a = none) : ∀ (d : D) (v : V), Rep c H N d v → Rep c H N' d v
  | .non, _, r => r
  | .bl _, _, r => r
  | .int _, _, r => r
  | .str _, _, r => r
  | .tup ds, _, r => let ⟨a, xs, e, n, h, q⟩ := r; ⟨a, xs, e, fun z => (k a z).elim n h.ne, h, RepL.anti k ds xs q⟩
  | .lst ds, _, r => let ⟨a, xs, e, n, h, q⟩ := r; ⟨a, xs, e, fun z => (k a z).elim n (fun y => by rw [y] at h; cases h), h, RepL.anti k ds xs q⟩
  | .dic _, _, r => r
  | .box, _, r => r
  | .scr, _, r => let ⟨a, e, q⟩ := r; ⟨a, e, q.imp (fun w => ⟨fun z => (k a z).elim w.1 (fun y => rd_ne w.2 y), w.2⟩) id⟩
  | .exc _ as, _, r => let ⟨a, o, dd, xs, e, n, h, q, w, z⟩ := r; ⟨a, o, dd, xs, e, fun z => (k a z).elim n (fun y => by rw [y] at h; cases h), h, q, w.anti k, RepL.anti k as xs z⟩
theorem RepL.anti (k : ∀ a, N' a → N a ∨ H a = none) : ∀ (ds : List D) (xs : List V), RepL c H N ds xs → RepL c H N' ds xs
  | [], _, r => r
  | d :: ds, _, r => let ⟨v, vs, e, h, q⟩ := r; ⟨v, vs, e, Rep.anti k d v h, RepL.anti k ds vs q⟩
end
theorem Rep.keep (k : Keep c H H') (hb : ∀ b, c.β = some b → N b) (r : Rep c H N d v) : Rep c H' N d v := Rep.keepN (k.toN hb) d v r
theorem RepL.keep (k : Keep c H H') (hb : ∀ b, c.β = some b → N b) {ds : List D} {vs : List V} (r : RepL c H N ds vs) : RepL c H' N ds vs := RepL.keepN (k.toN hb) ds vs r
theorem RepL.length : ∀ {ds : List D} {vs : List V}, RepL c H N ds vs → ds.length = vs.length
  | [], _, r => by cases r; rfl
  | d :: ds, _, r => by
    obtain ⟨v, vs, rfl, _, q⟩ := r
    simp [RepL.length q]
theorem RepL.get : ∀ {ds : List D} {vs : List V} {i : Nat} {d : D}, RepL c H N ds vs → ds[i]? = some d → ∃ v, vs[i]? = some v ∧ Rep c H N d v
  | [], _, _, _, _, e => by simp at e
  | d :: ds, _, 0, _, r, e => by
    obtain ⟨v, vs, rfl, h, q⟩ := r
    simp at e; subst e
    exact ⟨v, rfl, h⟩
  | d :: ds, _, i + 1, _, r, e => by
    obtain ⟨v, vs, rfl, h, q⟩ := r
    obtain ⟨w, h1, h2⟩ := RepL.get (i := i) q (by simpa using e)
    exact ⟨w, by simpa using h1, h2⟩
theorem RepL.append : ∀ {ds es : List D} {vs ws : List V}, RepL c H N ds vs → RepL c H N es ws → RepL c H N (ds ++ es) (vs ++ ws)
  | [], _, _, _, r, q => by cases r; exact q
  | d :: ds, _, _, _, r, q => by
    obtain ⟨v, vs, rfl, h, r⟩ := r
    exact ⟨v, _, rfl, h, RepL.append r q⟩
theorem RepL.take : ∀ {ds : List D} {vs : List V} (n : Nat), RepL c H N ds vs → RepL c H N (ds.take n) (vs.take n)
  | [], _, n, r => by cases r; simp [RepL]
  | d :: ds, _, 0, r => by simp [RepL]
  | d :: ds, _, n + 1, r => by
    obtain ⟨v, vs, rfl, h, r⟩ := r
    exact ⟨v, _, rfl, h, RepL.take n r⟩
theorem RepL.drop : ∀ {ds : List D} {vs : List V} (n : Nat), RepL c H N ds vs → RepL c H N (ds.drop n) (vs.drop n)
  | [], _, n, r => by cases r; simp [RepL]
  | d :: ds, _, 0, r => r
  | d :: ds, _, n + 1, r => by
    obtain ⟨v, vs, rfl, h, r⟩ := r
    exact RepL.drop n r
theorem RepL.set : ∀ {ds : List D} {vs : List V} {d : D} {v : V} (n : Nat), RepL c H N ds vs → Rep c H N d v → RepL c H N (ds.set n d) (vs.set n v)
  | [], _, _, _, n, r, q => by cases r; simp [RepL]
  | d :: ds, _, _, _, 0, r, q => by
    obtain ⟨v, vs, rfl, h, r⟩ := r
    exact ⟨_, _, rfl, q, r⟩
  | d :: ds, _, _, _, n + 1, r, q => by
    obtain ⟨v, vs, rfl, h, r⟩ := r
    exact ⟨_, _, rfl, h, RepL.set n r q⟩
theorem RepL.one (r : Rep c H N d v) : RepL c H N [d] [v] := ⟨v, [], rfl, r, rfl⟩
theorem RepL.reverse {ds : List D} {vs : List V} (r : RepL c H N ds vs) : RepL c H N ds.reverse vs.reverse := by
  induction ds generalizing vs with
  | nil => cases r; simp [RepL]
  | cons d ds ih =>
    obtain ⟨v, vs, rfl, h, q⟩ := r
    rw [List.reverse_cons, List.reverse_cons]
    exact (ih q).append (.one h)
theorem RepL.rep {ds : List D} {vs : List V} (r : RepL c H N ds vs) : ∀ k : Nat, RepL c H N (List.replicate k ds).flatten (List.replicate k vs).flatten
  | 0 => by simp [RepL]
  | k + 1 => by
    rw [List.replicate_succ, List.replicate_succ, List.flatten_cons, List.flatten_cons]
    exact r.append (RepL.rep r k)
theorem RepL.cutV {ds : List D} {vs : List V} (r : RepL c H N ds vs) (lo hi : Option Int) : RepL c H N (cut ds lo hi) (L2.cutV vs lo hi) := by
  have e := r.length
  unfold cut L2.cutV
  rw [e]
  exact (r.drop _).take _
theorem RepL.ofInts (is : List Int) : RepL c H N (is.map .int) (is.map V.int) := by
  induction is with
  | nil => rfl
  | cons i is ih => exact ⟨_, _, rfl, rfl, ih⟩
theorem Rel.keep (r : Rel c H N0 σ s) (k : Keep c H H') : Rel c H' N0 σ s where
  len := r.len
  vl := fun i d e => let ⟨v, h, q⟩ := r.vl i d e; ⟨v, h, q.keep k fun b z => .inl (r.bet b z)⟩
  ow := fun i d e => by
    obtain ⟨a, h, q, n⟩ := r.ow i d e
    refine ⟨a, h, ?_, n⟩
    cases d with
    | lst ds =>
      obtain ⟨xs, h1, h2⟩ := q
      exact ⟨xs, k.kp a _ (fun z => n (r.bet a z)) h1, h2.keep k fun b z => .inl (r.bet b z)⟩
    | _ => exact q.elim
  dis := r.dis
  dom := fun a h e => r.dom a h (k.fr a e)
  bet := r.bet
end
section
variable (c : Cc)
def Out {α γ : Type} (Rp : Hp → α → γ → Prop) (σ : L2.St) (H : Hp) (W : WX) (Q : γ → Hp → Prop) : Res α → Prop
  | .ok x b => ∀ v H', Keep c H H' → BoxAt c H' b → Rp H' x v → Q v H'
  | .ex k as b => ∀ cls dd H', Keep c H H' → BoxAt c H' b → c.exAt k as cls dd H' → W cls dd σ H'
  | .no => False
/-- a reading: of a computation m over slots -/
def rd {α γ : Type} (Rp : Hp → Hp → (Addr → Prop) → (Addr → Prop) → α → γ → Prop) (W : WX) (m : Env → M α) : L2.St → Hp → (γ → Hp → Prop) → Prop := fun σ H Q =>
  ∃ N0 s b, Rel c H N0 σ s ∧ BoxAt c H b ∧ Out c (fun H' => Rp H H' N0 (Nof N0 σ s)) σ H W Q (m s b)
/-- what results may be -/
abbrev pE : Hp → Hp → (Addr → Prop) → (Addr → Prop) → D → V → Prop := fun _ H' _ N d v => Rep c H' N d v
abbrev pW : Hp → Hp → (Addr → Prop) → (Addr → Prop) → D → V → Prop := fun _ H' N0 N d v => RepW c H' N0 N d v
abbrev pF : Hp → Hp → (Addr → Prop) → (Addr → Prop) → D → V → Prop := fun H H' _ N d v => RepF c H H' N d v
abbrev pL : Hp → Hp → (Addr → Prop) → (Addr → Prop) → List D → List V → Prop := fun _ H' _ N d v => RepL c H' N d v
abbrev pX {α : Type} : Hp → Hp → (Addr → Prop) → (Addr → Prop) → α → α → Prop := fun _ _ _ _ a b => a = b
end
section
variable {c : Cc} {σ : L2.St} {H H1 H' : Hp} {W : WX} {α β γ δ : Type}
theorem BoxAt.keep {b : Bx} (B : BoxAt c H b) : BoxAt c H b := B
theorem Out.mono {Rp : Hp → α → γ → Prop} {Q Q' : γ → Hp → Prop} {r : Res α} (h : Out c Rp σ H W Q r) (hq : ∀ v H', Q v H' → Q' v H') : Out c Rp σ H W Q' r := by
  cases r with
  | ok x b => exact fun v H' k B r => hq v H' (h v H' k B r)
  | ex k as b => exact h
  | no => exact h
/-- weaker results are asked -/
theorem Out.rp {Rp Rp' : Hp → α → γ → Prop} {Q : γ → Hp → Prop} {r : Res α} (h : Out c Rp σ H W Q r) (hr : ∀ H' x v, Keep c H H' → Rp' H' x v → Rp H' x v) : Out c Rp' σ H W Q r := by
  cases r with
  | ok x b => exact fun v H' k B r => h v H' k B (hr H' x v k r)
  | ex k as b => exact h
  | no => exact h
theorem Out.later {Rp : Hp → α → γ → Prop} {Q : γ → Hp → Prop} {r : Res α} (h : Out c Rp σ H W Q r) (k : Keep c H H1) : Out c Rp σ H1 W Q r := by
  cases r with
  | ok x b => exact fun v H' k1 B r => h v H' (k.trans k1) B r
  | ex _ as b => exact fun cls dd H' k1 B e => h cls dd H' (k.trans k1) B e
  | no => exact h
theorem Out.bd {Rp : Hp → α → γ → Prop} {Rp' : Hp → β → δ → Prop} {Q : δ → Hp → Prop} {m : M α} {f : α → M β} {b : Bx} (h : Out c Rp' σ H W Q ((m.bd f) b)) :
    Out c Rp σ H W (fun v H1 => ∃ x b1, Keep c H H1 ∧ BoxAt c H1 b1 ∧ Rp H1 x v ∧ Out c Rp' σ H1 W Q (f x b1)) (m b) := by
  unfold M.bd at h
  cases e : m b with
  | ok x b1 =>
    rw [e] at h
    exact fun v H1 k B r => ⟨x, b1, k, B, r, Out.later h k⟩
  | ex k as b1 =>
    rw [e] at h
    exact h
  | no =>
    rw [e] at h
    exact h
theorem Out.ofO {Rp : Hp → α → γ → Prop} {Q : γ → Hp → Prop} {o : Option α} {b : Bx} (h : Out c Rp σ H W Q (M.ofO o b)) : ∃ x, o = some x ∧ ∀ v H', Keep c H H' → BoxAt c H' b → Rp H' x v → Q v H' := by
  cases o with
  | some x => exact ⟨x, rfl, h⟩
  | none => exact h.elim
theorem Out.ofObd {Rp : Hp → β → γ → Prop} {Q : γ → Hp → Prop} {o : Option α} {f : α → M β} {b : Bx} (h : Out c Rp σ H W Q ((M.bd (M.ofO o) f) b)) : ∃ x, o = some x ∧ Out c Rp σ H W Q (f x b) := by
  cases o with
  | some x => exact ⟨x, rfl, h⟩
  | none => exact h.elim
theorem Out.ret {Rp : Hp → α → γ → Prop} {Q : γ → Hp → Prop} {x : α} {b : Bx} (h : Out c Rp σ H W Q (M.ret x b)) : ∀ v H', Keep c H H' → BoxAt c H' b → Rp H' x v → Q v H' := h
/-- a step: first m, then f -/
theorem rd_step {Rp : Hp → Hp → (Addr → Prop) → (Addr → Prop) → α → γ → Prop} {Rp' : Hp → α → γ → Prop} {N0 : Addr → Prop} {s : Env} {b : Bx} {m : Env → M α} {Q : γ → Hp → Prop}
    (R : Rel c H N0 σ s) (B : BoxAt c H b) (h : Out c (fun H' => Rp H H' N0 (Nof N0 σ s)) σ H W Q (m s b)) : rd c Rp W m σ H Q := ⟨N0, s, b, R, B, h⟩
theorem Rel.domN {N0 : Addr → Prop} {s : Env} (R : Rel c H N0 σ s) {a : Addr} (h : Nof N0 σ s a) : H a ≠ none := by
  rcases h with h | ⟨i, d, e1, e2⟩
  · exact R.dom a h
  · obtain ⟨a', e3, o, _⟩ := R.ow i d e1
    rw [e2] at e3; cases e3
    cases d with
    | lst ds => obtain ⟨xs, h, _⟩ := o; rw [h]; exact fun q => nomatch q
    | _ => exact o.elim
theorem Rel.betN {N0 : Addr → Prop} {s : Env} (R : Rel c H N0 σ s) (a : Addr) (h : c.β = some a) : Nof N0 σ s a := .inl (R.bet a h)
theorem RepF.rep {N : Addr → Prop} {d : D} {v : V} (r : RepF c H H' N d v) (hd : ∀ a, N a → H a ≠ none) : Rep c H' N d v := by
  cases d with
  | lst ds =>
    obtain ⟨a, xs, e, n, h, q⟩ := r
    exact ⟨a, xs, e, fun z => hd a z n, h, RepL.anti (fun b z => .inl (.inl z)) ds xs q⟩
  | _ => exact r
theorem Rep.w {N0 N : Addr → Prop} {d : D} {v : V} (r : Rep c H' N d v) (hb : ∀ a, N0 a → N a) : RepW c H' N0 N d v := by
  cases d with
  | lst ds =>
    obtain ⟨a, xs, e, n, h, q⟩ := r
    exact ⟨a, xs, e, fun z => n (hb a z), h, q⟩
  | _ => exact r
theorem RepW.keep {N0 N : Addr → Prop} {d : D} {v : V} (r : RepW c H N0 N d v) (k : Keep c H H') (hb : ∀ b, c.β = some b → N0 b) (hn : ∀ a, N0 a → N a) : RepW c H' N0 N d v := by
  cases d with
  | lst ds =>
    obtain ⟨a, xs, e, n, h, q⟩ := r
    exact ⟨a, xs, e, n, k.kp a _ (fun z => n (hb a z)) h, q.keep k fun b z => hn b (hb b z)⟩
  | _ => exact Rep.keep (N := N) k (fun b z => hn b (hb b z)) r
theorem rd_EF {m : Env → M D} {Q : VK} (h : rd c (pE c) W m σ H Q) : rd c (pF c) W m σ H Q := by
  obtain ⟨N0, s, b, R, B, h⟩ := h
  exact ⟨N0, s, b, R, B, h.rp fun H' x v k r => RepF.rep r fun a z => R.domN z⟩
theorem rd_WE {m : Env → M D} {Q : VK} (h : rd c (pW c) W m σ H Q) : rd c (pE c) W m σ H Q := by
  obtain ⟨N0, s, b, R, B, h⟩ := h
  exact ⟨N0, s, b, R, B, h.rp fun H' x v k r => r.w fun b z => .inl z⟩
theorem rd_WF {m : Env → M D} {Q : VK} (h : rd c (pW c) W m σ H Q) : rd c (pF c) W m σ H Q := rd_EF (rd_WE h)
end
theorem PE.imp {X : Cx} {e : Expr} {t t' : TE} (h : PE X e t) (i : ∀ σ H Q, t' σ H Q → t σ H Q) : PE X e t' := ⟨fun pins s σ H Q I q => h.run pins s σ H Q I (i σ H Q q)⟩
theorem PT.imp {X : Cx} {e : Expr} {t t' : TT} (h : PT X e t) (i : ∀ σ H Q, t' σ H Q → t σ H Q) : PT X e t' := ⟨fun pins s σ H Q I q => h.run pins s σ H Q I (i σ H Q q)⟩
theorem PA.imp {X : Cx} {e : List Expr} {t t' : TA} (h : PA X e t) (i : ∀ σ H Q, t' σ H Q → t σ H Q) : PA X e t' := ⟨fun pos pins s σ H Q I q => h.run pos pins s σ H Q I (i σ H Q q)⟩
theorem PO.imp {X : Cx} {e : Option Expr} {t t' : TO} (h : PO X e t) (i : ∀ σ H Q, t' σ H Q → t σ H Q) : PO X e t' := ⟨fun pins s σ H Q I q => h.run pins s σ H Q I (i σ H Q q)⟩
theorem PI.imp {X : Cx} {g e : Expr} {t t' : TI} (h : PI X g e t) (i : ∀ σ H Q, t' σ H Q → t σ H Q) : PI X g e t' := ⟨fun pins s σ H Q I q => h.run pins s σ H Q I (i σ H Q q)⟩
theorem PS.imp {X : Cx} {e : Stmt} {t t' : TS} (h : PS X e t) (i : ∀ D σ H, t' D σ H → t D σ H) : PS X e t' := ⟨fun pins s σ H D I q => h.run pins s σ H D I (i D σ H q)⟩
theorem PSs.imp {X : Cx} {e : List Stmt} {t t' : TS} (h : PSs X e t) (i : ∀ D σ H, t' D σ H → t D σ H) : PSs X e t' := ⟨fun pins s σ H D I q => h.run pins s σ H D I (i D σ H q)⟩
end Mi
namespace Mi
open PySem L2
mutual
theorem eqv_toPy : ∀ (a b : D), D.py a = true → D.py b = true → PyData.eqv (toPy a) (toPy b) = D.eqv a b := by
  intro a b ha hb
  cases a <;> cases b <;> first
    | (simp [toPy, PyData.eqv, D.eqv]; done)
    | (simp [D.py] at ha; done)
    | (simp [D.py] at hb; done)
    | skip
  · simp only [toPy, PyData.eqv, D.eqv]
    rename_i x y
    by_cases e : x = y
    · subst e; simp
    · simp [e]
  · simp only [toPy, PyData.eqv, D.eqv]
    exact eqvL_toPy _ _ (by simpa [D.py] using ha) (by simpa [D.py] using hb)
  · simp only [toPy, PyData.eqv, D.eqv]
    exact eqvL_toPy _ _ (by simpa [D.py] using ha) (by simpa [D.py] using hb)
theorem eqvL_toPy : ∀ (a b : List D), D.pyL a = true → D.pyL b = true → PyData.eqvAll (toPyL a) (toPyL b) = D.eqvL a b
  | [], [], _, _ => rfl
  | [], _ :: _, _, _ => rfl
  | _ :: _, [], _, _ => rfl
  | x :: xs, y :: ys, ha, hb => by
    simp only [D.pyL, Bool.and_eq_true] at ha hb
    simp only [toPyL, PyData.eqvAll, D.eqvL, eqv_toPy x y ha.1 hb.1, eqvL_toPy xs ys ha.2 hb.2]
end
mutual
theorem dep_toPy : ∀ (a : D), D.py a = true → (toPy a).depth = D.dep a := by
  intro a ha
  cases a <;> first
    | (simp [toPy, PyData.depth, D.dep]; done)
    | (simp [D.py] at ha; done)
    | skip
  · simp only [toPy, PyData.depth, D.dep]
    rw [depL_toPy _ (by simpa [D.py] using ha)]
  · simp only [toPy, PyData.depth, D.dep]
    rw [depL_toPy _ (by simpa [D.py] using ha)]
theorem depL_toPy : ∀ (a : List D), D.pyL a = true → PyData.depthAll (toPyL a) = D.depL a
  | [], _ => rfl
  | x :: xs, ha => by
    simp only [D.pyL, Bool.and_eq_true] at ha
    simp only [toPyL, PyData.depthAll, D.depL, dep_toPy x ha.1, depL_toPy xs ha.2]
end
section
variable {c : Cc} {H H1 H' : Hp} {N0 N : Addr → Prop} {σ : L2.St}
theorem strOk_of {x : Str} (h : strFits x = true) : PyData.strOk x = true := by
  unfold strFits at h
  rw [Bool.and_eq_true] at h
  exact h.2
theorem strLen_of {x : Str} (h : strFits x = true) : x.cps.size ≤ strMax := by
  unfold strFits at h
  rw [Bool.and_eq_true] at h
  exact of_decide_eq_true h.1
mutual
theorem Rep.dp : ∀ (d : D) (v : V), D.py d = true → Rep c H N d v → Dp c.K H v (toPy d) ∧ (toPy d).canLay0 = true := by
  intro d v p r
  cases d <;> first
    | (simp [D.py] at p; done)
    | skip
  · cases r; exact ⟨.non, rfl⟩
  · cases r; exact ⟨.bl _, rfl⟩
  · cases r; exact ⟨.int _, rfl⟩
  · obtain ⟨rfl, h⟩ := r; exact ⟨.str _, strOk_of h⟩
  · obtain ⟨a, xs, rfl, _, h, q⟩ := r
    have z := RepL.dp _ _ (by simpa [D.py] using p) q
    exact ⟨.tup h.sq z.1, by simpa [toPy, PyData.canLay0] using z.2⟩
  · obtain ⟨a, xs, rfl, _, h, q⟩ := r
    have z := RepL.dp _ _ (by simpa [D.py] using p) q
    exact ⟨.lst (.of h) z.1, by simpa [toPy, PyData.canLay0] using z.2⟩
theorem RepL.dp : ∀ (ds : List D) (vs : List V), D.pyL ds = true → RepL c H N ds vs → DpAll c.K H vs (toPyL ds) ∧ PyData.canLayAll0 (toPyL ds) = true
  | [], _, _, r => by cases r; exact ⟨.nil, rfl⟩
  | d :: ds, _, p, r => by
    obtain ⟨v, vs, rfl, h, q⟩ := r
    simp only [D.pyL, Bool.and_eq_true] at p
    have z1 := Rep.dp d v p.1 h
    have z2 := RepL.dp ds vs p.2 q
    exact ⟨.cons z1.1 z2.1, by simp only [toPyL, PyData.canLayAll0, z1.2, z2.2, Bool.and_self]⟩
end
theorem RepW.dp {d : D} {v : V} (p : D.py d = true) (r : RepW c H N0 N d v) : Dp c.K H v (toPy d) ∧ (toPy d).canLay0 = true := by
  cases d with
  | lst ds =>
    obtain ⟨a, xs, rfl, _, h, q⟩ := r
    have z := RepL.dp _ _ (by simpa [D.py] using p) q
    exact ⟨.lst (.of h) z.1, by simpa [toPy, PyData.canLay0] using z.2⟩
  | _ => exact Rep.dp (N := N) _ v p r
end
section
variable {X : Cx}
def rEqM (K : PySem.W.Frag) (neg : Bool) : R2 := fun x y H Q => ∃ d e, Dp K H x d ∧ Dp K H y e ∧ d.canLay0 = true ∧ e.canLay0 = true ∧ min d.depth e.depth ≤ 60 ∧ Q (.bl (xor neg (PyData.eqv d e))) H
theorem op_eqM (hu : X.A.units + 64 < cLine) : OpR X (compareOp .Eq) (rEqM X.K false) := by
  intro pins s σ H x y v u Q I rx ry h
  obtain ⟨d, e, hd, he, sd, se, hm, q⟩ := h
  obtain ⟨as, r1⟩ := Dp.reads I d x v hd rx
  obtain ⟨bs, r2⟩ := Dp.reads I e y u he ry
  exact SeqAt.compareEq_reads r1 r2 sd se (by omega) ⟨.bl _, H, I, rfl, by simpa using q⟩
theorem op_neM (hu : X.A.units + 64 < cLine) : OpR X (compareOp .NotEq) (rEqM X.K true) := by
  intro pins s σ H x y v u Q I rx ry h
  obtain ⟨d, e, hd, he, sd, se, hm, q⟩ := h
  obtain ⟨as, r1⟩ := Dp.reads I d x v hd rx
  obtain ⟨bs, r2⟩ := Dp.reads I e y u he ry
  exact SeqAt.compareNe_reads r1 r2 sd se (by omega) ⟨.bl _, H, I, rfl, by simpa using q⟩
def rInM (K : PySem.W.Frag) (neg : Bool) : R2 := fun x y H Q => ∃ d ds, Dp K H x d ∧ (Dp K H y (.list ds) ∨ Dp K H y (.tuple ds)) ∧ d.canLay0 = true ∧ PyData.canLayAll0 ds = true ∧ d.depth ≤ 60 ∧ Q (.bl (xor neg (ds.any fun z => PyData.eqv z d))) H
theorem op_inM (hu : X.A.units + 64 < cLine) : OpR X (compareOp .In) (rInM X.K false) := by
  intro pins s σ H x y v u Q I rx ry h
  obtain ⟨d, ds, hd, he, sd, se, hm, q⟩ := h
  obtain ⟨as, r1⟩ := Dp.reads I d x v hd rx
  have hr : X.A.units + 1 + min (PyData.depthAll ds) d.depth < cLine := by
    have := Nat.min_le_right (PyData.depthAll ds) d.depth
    omega
  rcases he with he | he
  · obtain ⟨bs, r2⟩ := Dp.reads I (.list ds) y u he ry
    exact SeqAt.in_list_reads r2 r1 se sd hr ⟨.bl _, H, I, rfl, by simpa using q⟩
  · obtain ⟨bs, r2⟩ := Dp.reads I (.tuple ds) y u he ry
    exact SeqAt.in_tuple_reads r2 r1 se sd hr ⟨.bl _, H, I, rfl, by simpa using q⟩
theorem op_ninM (hu : X.A.units + 64 < cLine) : OpR X (compareOp .NotIn) (rInM X.K true) := by
  intro pins s σ H x y v u Q I rx ry h
  obtain ⟨d, ds, hd, he, sd, se, hm, q⟩ := h
  obtain ⟨as, r1⟩ := Dp.reads I d x v hd rx
  have hr : X.A.units + 1 + min (PyData.depthAll ds) d.depth < cLine := by
    have := Nat.min_le_right (PyData.depthAll ds) d.depth
    omega
  rcases he with he | he
  · obtain ⟨bs, r2⟩ := Dp.reads I (.list ds) y u he ry
    exact SeqAt.notIn_list_reads r2 r1 se sd hr ⟨.bl _, H, I, rfl, by simpa using q⟩
  · obtain ⟨bs, r2⟩ := Dp.reads I (.tuple ds) y u he ry
    exact SeqAt.notIn_tuple_reads r2 r1 se sd hr ⟨.bl _, H, I, rfl, by simpa using q⟩
end
/-- the tree of an operator -/
def opTree : Op → Value → Value → Sem Value
  | .add => binaryOp .Add
  | .sub => binaryOp .Sub
  | .mul => binaryOp .Mult
  | .fdiv => binaryOp .FloorDiv
  | .mod => binaryOp .Mod
  | .pow => binaryOp .Pow
  | .eq => compareOp .Eq
  | .ne => compareOp .NotEq
  | .lt => compareOp .Lt
  | .le => compareOp .LtE
  | .gt => compareOp .Gt
  | .ge => compareOp .GtE
  | .inn => compareOp .In
  | .nin => compareOp .NotIn
theorem line_ok {n : Nat} (h : n ≤ lineMax) : n ≤ sizeLine := by
  have := sizeLine_eq
  unfold lineMax at h
  omega
theorem dec_small {i : Int} (h : small64 i = true) : -(2 ^ 64) < i ∧ i < 2 ^ 64 := by
  unfold small64 at h
  rw [Bool.and_eq_true] at h
  exact ⟨of_decide_eq_true h.1, of_decide_eq_true h.2⟩
section
variable {X : Cx} {c : Cc}
theorem same_laid {H : Hp} {p : Addr} {o : HO} (hp : H p = none) : ∀ a u, H a = some u → upd H p o a = some u := fun a u h => by rw [upd_ne (ne_of_none h hp)]; exact h
/-- a new list -/
theorem newLst {H : Hp} {N : Addr → Prop} {ds : List D} {xs : List V} {p : Addr} (hp : H p = none) (r : RepL c H N ds xs) (hb : ∀ b, c.β = some b → N b) :
    RepF c H (upd H p (.lst xs)) N (.lst ds) (.ref p) := by
  refine ⟨p, xs, rfl, hp, upd_same, ?_⟩
  have k : Keep c H (upd H p (.lst xs)) := .laid hp
  exact (RepL.anti (fun a z => z.elim .inl fun e => .inr (by rw [e]; exact hp)) ds xs r).keep k fun b z => .inl (hb b z)
/-- a new tuple -/
theorem newTup {H : Hp} {N : Addr → Prop} {ds : List D} {xs : List V} {p : Addr} {o : Obj} (hp : H p = none) (ho : o.dict = none) (r : RepL c H N ds xs) (hb : ∀ b, c.β = some b → N b) (hd : ∀ a, N a → H a ≠ none) :
    Rep c (upd H p (.frz o (.tup xs))) N (.tup ds) (.ref p) := by
  have k : Keep c H (upd H p (.frz o (.tup xs))) := .laid hp
  exact ⟨p, xs, rfl, fun z => hd p z hp, ⟨o, upd_same, ho⟩, r.keep k hb⟩
end
end Mi
namespace Mi
open PySem L2
theorem inv_add {a b z : D} (e : evOp .add a b = some z) : (∃ i j, a = .int i ∧ b = .int j ∧ z = .int (i + j)) ∨ (∃ x y, a = .str x ∧ b = .str y ∧ x.cps.size + y.cps.size ≤ strMax ∧ z = .str (x ++ y)) ∨
    (∃ x y, a = .lst x ∧ b = .lst y ∧ x.length + y.length ≤ lineMax ∧ z = .lst (x ++ y)) ∨ (∃ x y, a = .tup x ∧ b = .tup y ∧ x.length + y.length ≤ lineMax ∧ z = .tup (x ++ y)) := by
  cases a <;> cases b <;> simp only [evOp, evAdd] at e <;> first | (cases e; done) | skip
  · cases e; exact .inl ⟨_, _, rfl, rfl, rfl⟩
  · split at e
    · cases e; exact .inr (.inl ⟨_, _, rfl, rfl, by assumption, rfl⟩)
    · cases e
  · split at e
    · cases e; exact .inr (.inr (.inr ⟨_, _, rfl, rfl, by assumption, rfl⟩))
    · cases e
  · split at e
    · cases e; exact .inr (.inr (.inl ⟨_, _, rfl, rfl, by assumption, rfl⟩))
    · cases e
theorem inv_int {f : Int → Int → Option Int} {a b z : D} (e : evInt f a b = some z) : ∃ i j k, a = .int i ∧ b = .int j ∧ f i j = some k ∧ z = .int k := by
  cases a <;> cases b <;> simp only [evInt] at e <;> first | (cases e; done) | skip
  obtain ⟨k, h1, h2⟩ := Option.map_eq_some_iff.mp e
  exact ⟨_, _, k, rfl, rfl, h1, h2.symm⟩
theorem inv_sub {a b z : D} (e : evOp .sub a b = some z) : ∃ i j, a = .int i ∧ b = .int j ∧ z = .int (i - j) := by
  obtain ⟨i, j, k, rfl, rfl, h, rfl⟩ := inv_int (show evInt _ a b = some z from e)
  cases h
  exact ⟨_, _, rfl, rfl, rfl⟩
theorem inv_mul {a b z : D} (e : evOp .mul a b = some z) : (∃ i j, a = .int i ∧ b = .int j ∧ (small64 i || small64 j) = true ∧ z = .int (i * j)) ∨
    (∃ x j, a = .lst x ∧ b = .int j ∧ 0 ≤ j ∧ j < 1000000 ∧ x.length * j.toNat ≤ lineMax ∧ z = .lst (List.replicate j.toNat x).flatten) := by
  cases a <;> cases b <;> simp only [evOp, evMul] at e <;> first | (cases e; done) | skip
  · split at e
    · cases e; exact .inl ⟨_, _, rfl, rfl, by assumption, rfl⟩
    · cases e
  · split at e
    · rename_i h
      simp only [Bool.and_eq_true, decide_eq_true_eq] at h
      cases e; exact .inr ⟨_, _, rfl, rfl, h.1.1, h.1.2, h.2, rfl⟩
    · cases e
theorem inv_if {p : Prop} [Decidable p] {α : Type} {a k : α} (h : (if p then some a else none) = some k) : p ∧ k = a := by
  split at h
  · cases h; exact ⟨by assumption, rfl⟩
  · cases h
theorem inv_fdiv {a b z : D} (e : evOp .fdiv a b = some z) : ∃ i j, a = .int i ∧ b = .int j ∧ (0 < j ∧ j < 1073741824) ∧ z = .int (i / j) := by
  obtain ⟨i, j, k, rfl, rfl, h, rfl⟩ := inv_int (show evInt _ a b = some z from e)
  obtain ⟨h1, rfl⟩ := inv_if h
  exact ⟨_, _, rfl, rfl, h1, rfl⟩
theorem inv_mod {a b z : D} (e : evOp .mod a b = some z) : ∃ i j, a = .int i ∧ b = .int j ∧ 0 < j ∧ z = .int (i % j) := by
  obtain ⟨i, j, k, rfl, rfl, h, rfl⟩ := inv_int (show evInt _ a b = some z from e)
  obtain ⟨h1, rfl⟩ := inv_if h
  exact ⟨_, _, rfl, rfl, h1, rfl⟩
theorem inv_pow {a b z : D} (e : evOp .pow a b = some z) : ∃ i j, a = .int i ∧ b = .int j ∧ (0 ≤ j ∧ j ≤ 1000 ∧ i.natAbs < 1000) ∧ z = .int (i ^ j.toNat) := by
  obtain ⟨i, j, k, rfl, rfl, h, rfl⟩ := inv_int (show evInt _ a b = some z from e)
  obtain ⟨h1, rfl⟩ := inv_if h
  exact ⟨_, _, rfl, rfl, h1, rfl⟩
theorem inv_cmpI {f : Int → Int → Bool} {g : List Nat → List Nat → Bool} {a b z : D} (e : cmpI f g a b = some z) : (∃ i j, a = .int i ∧ b = .int j ∧ z = .bl (f i j)) ∨ (∃ x y, a = .str x ∧ b = .str y ∧ z = .bl (g x.cps.toList y.cps.toList)) := by
  cases a <;> cases b <;> simp only [cmpI] at e <;> first | (cases e; done) | skip
  · cases e; exact .inl ⟨_, _, rfl, rfl, rfl⟩
  · cases e; exact .inr ⟨_, _, rfl, rfl, rfl⟩
theorem str_one {w : Str} {ch : Nat} (h : w.cps.toList = [ch]) : w = ⟨#[ch]⟩ := by
  obtain ⟨⟨l⟩⟩ := w
  have e : l = [ch] := h
  subst e
  rfl
theorem inv_in {neg : Bool} {a b z : D} (e : inSeq neg a b = some z) : (∃ ys, (b = .lst ys ∨ b = .tup ys) ∧ D.py a = true ∧ D.pyL ys = true ∧ D.dep a ≤ 60 ∧ z = .bl (xor neg (ys.any fun y => D.eqv y a))) ∨
    (∃ (ch : Nat) (y : Str), a = .str ⟨#[ch]⟩ ∧ b = .str y ∧ z = .bl (xor neg (decide (ch ∈ y.cps.toList)))) ∨ (∃ x y, a = .str x ∧ b = .str y ∧ z = .bl (xor neg (inStr x y))) := by
  unfold inSeq at e
  cases b <;> dsimp only at e <;> first | (cases e; done) | skip
  · split at e
    · split at e
      · rename_i hc
        cases e
        exact .inr (.inl ⟨_, _, congrArg D.str (str_one hc), rfl, rfl⟩)
      · cases e; exact .inr (.inr ⟨_, _, rfl, rfl, rfl⟩)
    · cases e
  · split at e
    · rename_i h
      simp only [Bool.and_eq_true, decide_eq_true_eq] at h
      cases e; exact .inl ⟨_, .inr rfl, h.1.1, h.1.2, h.2, rfl⟩
    · cases e
  · split at e
    · rename_i h
      simp only [Bool.and_eq_true, decide_eq_true_eq] at h
      cases e; exact .inl ⟨_, .inl rfl, h.1.1, h.1.2, h.2, rfl⟩
    · cases e
/-- what an operator asks of two values -/
structure OpG (c : Cc) (H : Hp) (N : Addr → Prop) (z : D) (Q : VK) : Prop where
  dom : ∀ a, N a → H a ≠ none
  bet : ∀ b, c.β = some b → N b
  fin : ∀ v H', Keep c H H' → (∀ a o, H a = some o → H' a = some o) → RepF c H H' N z v → Q v H'
def rO (c : Cc) (o : Op) : R2 := fun x y H Q => ∃ (N0 N : Addr → Prop) (dx dy z : D), RepW c H N0 N dx x ∧ RepW c H N0 N dy y ∧ evOp o dx dy = some z ∧ OpG c H N z Q
section
variable {c : Cc} {H : Hp} {N0 N : Addr → Prop} {Q : VK} {v : V}
theorem OpG.same {z : D} (g : OpG c H N z Q) (h : RepF c H H N z v) : Q v H := g.fin v H .refl (fun _ _ h => h) h
theorem OpG.lst {ds : List D} {xs : List V} {p : Addr} (g : OpG c H N (.lst ds) Q) (hp : H p = none) (r : RepL c H N ds xs) : Q (.ref p) (upd H p (.lst xs)) :=
  g.fin _ _ (.laid hp) (same_laid hp) (newLst hp r g.bet)
theorem OpG.tup {ds : List D} {xs : List V} {p : Addr} {o : Obj} (g : OpG c H N (.tup ds) Q) (hp : H p = none) (ho : o.dict = none) (r : RepL c H N ds xs) : Q (.ref p) (upd H p (.frz o (.tup xs))) :=
  g.fin _ _ (.laid hp) (same_laid hp) (newTup hp ho r g.bet g.dom)
theorem RepW.int {i : Int} (r : RepW c H N0 N (.int i) v) : v = .int i := r
theorem RepW.str {x : Str} (r : RepW c H N0 N (.str x) v) : v = .str x ∧ strFits x = true := r
theorem cat_fits {x y : Str} (h : x.cps.size + y.cps.size ≤ strMax) (hx : strFits x = true) (hy : strFits y = true) : strFits (x ++ y) = true := by
  unfold strFits at *
  simp only [Bool.and_eq_true, decide_eq_true_eq, ← Array.all_toList] at *
  have e : (x ++ y).cps = x.cps ++ y.cps := rfl
  rw [e, Array.size_append, Array.toList_append, List.all_append]
  exact ⟨h, by rw [hx.2, hy.2]; rfl⟩
theorem str_line {x : Str} (h : strFits x = true) : x.length ≤ sizeLine := by
  have h1 := strLen_of h
  have h2 := sizeLine_eq
  unfold strMax at h1
  show x.cps.size ≤ sizeLine
  omega
end
section
variable {X : Cx}
open PySem.Spec PyProof.Rows in
/-- t + u, of tuples: what is new has no dict -/
theorem op_catC : OpR X (binaryOp .Add) (fun x y H Q => ∃ a b xs ys, x = .ref a ∧ y = .ref b ∧ SqT X.K H a xs ∧ SqT X.K H b ys ∧ xs.length + ys.length ≤ sizeLine ∧ (xs = [] → Q (.ref b) H) ∧ (xs ≠ [] → ys = [] → Q (.ref a) H) ∧ ∀ p (o : Obj), H p = none → o.dict = none → Q (.ref p) (upd H p (.frz o (.tup (xs ++ ys))))) := by
  intro pins s σ H x y v u Q I rx ry h
  obtain ⟨a, b, xs, ys, rfl, rfl, ha, hb, hz, q1, q2, q3⟩ := h
  by_cases hx : xs = []
  · exact op_catA pins s σ H _ _ v u Q I rx ry ⟨a, b, xs, ys, rfl, rfl, ha, hb, hz, q1, fun z => absurd hx z, fun z => absurd hx z⟩
  · by_cases hy : ys = []
    · exact op_catA pins s σ H _ _ v u Q I rx ry ⟨a, b, xs, ys, rfl, rfl, ha, hb, hz, q1, q2, fun _ z => absurd hy z⟩
    · cases rx
      cases ry
      obtain ⟨l1, r1, p1, _⟩ := I.tuple ha
      obtain ⟨l2, r2, p2, _⟩ := I.tuple hb
      have hs := Nat.le_refl s.heap.objs.size
      refine HT.cat_tup p1 p2 (fun z => hx (r1.nil_iff.mp z)) (fun z => absurd (r2.nil_iff.mp z) hy) (fun _ => ?_) (by rw [← r1.length, ← r2.length]; exact hz)
      refine ⟨.ref s.heap.objs.size, _, I.laid (t' := s.toks) (o := .frz { cls := .type "tuple", data := .seq (l1 ++ l2).toArray } (.tup (xs ++ ys))) (fun b ob q => Heap.get?_push_of_some _ q) hs ⟨Heap.get?_push_size _ rfl, ?_⟩, rfl, q3 _ _ (I.hok.fresh hs) rfl⟩
      exact ⟨by rw [List.length_append]; exact hz, l1 ++ l2, r1.append r2, IsTup.new _ _⟩
end
section
variable {X : Cx} {c : Cc}
theorem ru_add : OpR X (binaryOp .Add) (rO c .add) := by
  intro pins s σ H x y v u Q I rx ry h
  obtain ⟨N0, N, dx, dy, z, r1, r2, e, g⟩ := h
  rcases inv_add e with ⟨i, j, rfl, rfl, rfl⟩ | ⟨i, j, rfl, rfl, hz, rfl⟩ | ⟨xs, ys, rfl, rfl, hz, rfl⟩ | ⟨xs, ys, rfl, rfl, hz, rfl⟩
  · exact op_add pins s σ H x y v u Q I rx ry ⟨i, j, r1, r2, g.same rfl⟩
  · have e1 := strLen_of r1.2
    have e2 := strLen_of r2.2
    refine op_add_str pins s σ H x y v u Q I rx ry ⟨i, j, r1.1, r2.1, ?_, g.same ⟨rfl, cat_fits hz r1.2 r2.2⟩⟩
    have h2 := sizeLine_eq
    unfold strMax at hz
    show i.cps.size + j.cps.size ≤ sizeLine
    omega
  · obtain ⟨a, vs, rfl, _, ha, qa⟩ := r1
    obtain ⟨b, ws, rfl, _, hb, qb⟩ := r2
    have l1 := qa.length
    have l2 := qb.length
    exact op_cat pins s σ H _ _ v u Q I rx ry ⟨a, b, vs, ws, rfl, rfl, ha, hb, by rw [← l1, ← l2]; exact line_ok hz, fun p hp => g.lst hp (qa.append qb)⟩
  · obtain ⟨a, vs, rfl, na, ha, qa⟩ := r1
    obtain ⟨b, ws, rfl, nb, hb, qb⟩ := r2
    have l1 := qa.length
    have l2 := qb.length
    refine op_catC pins s σ H _ _ v u Q I rx ry ⟨a, b, vs, ws, rfl, rfl, ha.sq, hb.sq, by rw [← l1, ← l2]; exact line_ok hz, fun e => ?_, fun _ e => ?_, fun p o hp ho => g.tup hp ho (qa.append qb)⟩
    · subst e
      have : xs = [] := List.length_eq_zero_iff.mp l1
      subst this
      exact g.same ⟨b, ws, rfl, nb, hb, qb⟩
    · subst e
      have : ys = [] := List.length_eq_zero_iff.mp l2
      subst this
      exact g.same ⟨a, vs, rfl, na, ha, by rw [List.append_nil]; exact qa⟩
theorem ru_sub : OpR X (binaryOp .Sub) (rO c .sub) := by
  intro pins s σ H x y v u Q I rx ry h
  obtain ⟨N0, N, dx, dy, z, r1, r2, e, g⟩ := h
  obtain ⟨i, j, rfl, rfl, rfl⟩ := inv_sub e
  exact op_sub pins s σ H x y v u Q I rx ry ⟨i, j, r1, r2, g.same rfl⟩
theorem ru_mul : OpR X (binaryOp .Mult) (rO c .mul) := by
  intro pins s σ H x y v u Q I rx ry h
  obtain ⟨N0, N, dx, dy, z, r1, r2, e, g⟩ := h
  rcases inv_mul e with ⟨i, j, rfl, rfl, hs, rfl⟩ | ⟨xs, j, rfl, rfl, h0, h1, hz, rfl⟩
  · refine op_mul pins s σ H x y v u Q I rx ry ⟨i, j, r1, r2, ?_, g.same rfl⟩
    rw [Bool.or_eq_true] at hs
    exact hs.imp dec_small dec_small
  · obtain ⟨a, vs, rfl, _, ha, qa⟩ := r1
    obtain rfl : y = .int j := r2
    have l1 := qa.length
    exact op_rep pins s σ H _ _ v u Q I rx ry ⟨a, j, vs, rfl, rfl, ha, by omega, by omega, by rw [← l1]; exact line_ok hz, fun p hp => g.lst hp (qa.rep _)⟩
theorem ru_fdiv : OpR X (binaryOp .FloorDiv) (rO c .fdiv) := by
  intro pins s σ H x y v u Q I rx ry h
  obtain ⟨N0, N, dx, dy, z, r1, r2, e, g⟩ := h
  obtain ⟨i, j, rfl, rfl, hj, rfl⟩ := inv_fdiv e
  exact op_fdiv pins s σ H x y v u Q I rx ry ⟨i, j, r1, r2, hj, g.same rfl⟩
theorem ru_mod : OpR X (binaryOp .Mod) (rO c .mod) := by
  intro pins s σ H x y v u Q I rx ry h
  obtain ⟨N0, N, dx, dy, z, r1, r2, e, g⟩ := h
  obtain ⟨i, j, rfl, rfl, hj, rfl⟩ := inv_mod e
  exact op_mod pins s σ H x y v u Q I rx ry ⟨i, j, r1, r2, hj, g.same rfl⟩
theorem ru_pow : OpR X (binaryOp .Pow) (rO c .pow) := by
  intro pins s σ H x y v u Q I rx ry h
  obtain ⟨N0, N, dx, dy, z, r1, r2, e, g⟩ := h
  obtain ⟨i, j, rfl, rfl, hj, rfl⟩ := inv_pow e
  refine op_pow pins s σ H x y v u Q I rx ry ⟨i, j, r1, r2, ⟨hj.1, by omega, ?_⟩, g.same rfl⟩
  have : (1000 : Nat) < 2 ^ 64 := by decide
  omega
theorem ru_lt : OpR X (compareOp .Lt) (rO c .lt) := by
  intro pins s σ H x y v u Q I rx ry h
  obtain ⟨N0, N, dx, dy, z, r1, r2, e, g⟩ := h
  rcases inv_cmpI (f := fun i j => decide (i < j)) (g := fun i j => decide (i < j)) e with ⟨i, j, rfl, rfl, rfl⟩ | ⟨i, j, rfl, rfl, rfl⟩
  · exact op_lt pins s σ H x y v u Q I rx ry ⟨i, j, r1, r2, g.same rfl⟩
  · exact op_lt_str pins s σ H x y v u Q I rx ry ⟨i, j, r1.1, r2.1, g.same rfl⟩
theorem ru_le : OpR X (compareOp .LtE) (rO c .le) := by
  intro pins s σ H x y v u Q I rx ry h
  obtain ⟨N0, N, dx, dy, z, r1, r2, e, g⟩ := h
  rcases inv_cmpI (f := fun i j => decide (i ≤ j)) (g := fun i j => !decide (j < i)) e with ⟨i, j, rfl, rfl, rfl⟩ | ⟨i, j, rfl, rfl, rfl⟩
  · exact op_le pins s σ H x y v u Q I rx ry ⟨i, j, r1, r2, g.same rfl⟩
  · exact op_le_str pins s σ H x y v u Q I rx ry ⟨i, j, r1.1, r2.1, g.same rfl⟩
theorem ru_gt : OpR X (compareOp .Gt) (rO c .gt) := by
  intro pins s σ H x y v u Q I rx ry h
  obtain ⟨N0, N, dx, dy, z, r1, r2, e, g⟩ := h
  rcases inv_cmpI (f := fun i j => decide (j < i)) (g := fun i j => decide (j < i)) e with ⟨i, j, rfl, rfl, rfl⟩ | ⟨i, j, rfl, rfl, rfl⟩
  · exact op_gt pins s σ H x y v u Q I rx ry ⟨i, j, r1, r2, g.same rfl⟩
  · exact op_gt_str pins s σ H x y v u Q I rx ry ⟨i, j, r1.1, r2.1, g.same rfl⟩
theorem ru_ge : OpR X (compareOp .GtE) (rO c .ge) := by
  intro pins s σ H x y v u Q I rx ry h
  obtain ⟨N0, N, dx, dy, z, r1, r2, e, g⟩ := h
  rcases inv_cmpI (f := fun i j => decide (j ≤ i)) (g := fun i j => !decide (i < j)) e with ⟨i, j, rfl, rfl, rfl⟩ | ⟨i, j, rfl, rfl, rfl⟩
  · exact op_ge pins s σ H x y v u Q I rx ry ⟨i, j, r1, r2, g.same rfl⟩
  · exact op_ge_str pins s σ H x y v u Q I rx ry ⟨i, j, r1.1, r2.1, g.same rfl⟩
theorem cmp_dp {H : Hp} {N0 N : Addr → Prop} {a b : D} {x y : V} (h : D.cmp a b = true) (r1 : RepW c H N0 N a x) (r2 : RepW c H N0 N b y) :
    Dp c.K H x (toPy a) ∧ Dp c.K H y (toPy b) ∧ (toPy a).canLay0 = true ∧ (toPy b).canLay0 = true ∧ min (toPy a).depth (toPy b).depth ≤ 60 ∧ PyData.eqv (toPy a) (toPy b) = D.eqv a b := by
  unfold D.cmp at h
  simp only [Bool.and_eq_true, decide_eq_true_eq] at h
  obtain ⟨⟨h1, h2⟩, h3⟩ := h
  refine ⟨(r1.dp h1).1, (r2.dp h2).1, (r1.dp h1).2, (r2.dp h2).2, ?_, eqv_toPy a b h1 h2⟩
  rw [dep_toPy a h1, dep_toPy b h2]
  exact h3
theorem ru_eq (hK : X.K = c.K) (hu : X.A.units + 64 < cLine) : OpR X (compareOp .Eq) (rO c .eq) := by
  intro pins s σ H x y v u Q I rx ry h
  obtain ⟨N0, N, dx, dy, z, r1, r2, e, g⟩ := h
  have e' : (if D.cmp dx dy then some (D.bl (D.eqv dx dy)) else none) = some z := e
  split at e'
  · rename_i hc
    cases e'
    obtain ⟨k1, k2, k3, k4, k5, k6⟩ := cmp_dp hc r1 r2
    exact op_eqM hu pins s σ H x y v u Q I rx ry ⟨_, _, by rw [hK]; exact k1, by rw [hK]; exact k2, k3, k4, k5, by rw [k6]; simpa using g.same rfl⟩
  · cases e'
theorem ru_ne (hK : X.K = c.K) (hu : X.A.units + 64 < cLine) : OpR X (compareOp .NotEq) (rO c .ne) := by
  intro pins s σ H x y v u Q I rx ry h
  obtain ⟨N0, N, dx, dy, z, r1, r2, e, g⟩ := h
  have e' : (if D.cmp dx dy then some (D.bl (!D.eqv dx dy)) else none) = some z := e
  split at e'
  · rename_i hc
    cases e'
    obtain ⟨k1, k2, k3, k4, k5, k6⟩ := cmp_dp hc r1 r2
    exact op_neM hu pins s σ H x y v u Q I rx ry ⟨_, _, by rw [hK]; exact k1, by rw [hK]; exact k2, k3, k4, k5, by rw [k6]; simpa using g.same rfl⟩
  · cases e'
theorem in_any {ys : List D} {a : D} (ha : D.py a = true) : D.pyL ys = true → ((toPyL ys).any fun z => PyData.eqv z (toPy a)) = ys.any fun y => D.eqv y a := by
  induction ys with
  | nil => intro _; rfl
  | cons y ys ih =>
    intro h
    simp only [D.pyL, Bool.and_eq_true] at h
    simp only [toPyL, List.any_cons, eqv_toPy y a h.1 ha, ih h.2]
theorem seq_dp {H : Hp} {N0 N : Addr → Prop} {b : D} {ys : List D} {y : V} (hb : b = .lst ys ∨ b = .tup ys) (hp : D.pyL ys = true) (r : RepW c H N0 N b y) :
    (Dp c.K H y (.list (toPyL ys)) ∨ Dp c.K H y (.tuple (toPyL ys))) ∧ PyData.canLayAll0 (toPyL ys) = true := by
  rcases hb with rfl | rfl
  · have z := r.dp (by simpa [D.py] using hp)
    exact ⟨.inl z.1, by simpa [toPy, PyData.canLay0] using z.2⟩
  · have z := r.dp (by simpa [D.py] using hp)
    exact ⟨.inr z.1, by simpa [toPy, PyData.canLay0] using z.2⟩
theorem ru_in (hK : X.K = c.K) (hu : X.A.units + 64 < cLine) : OpR X (compareOp .In) (rO c .inn) := by
  intro pins s σ H x y v u Q I rx ry h
  obtain ⟨N0, N, dx, dy, z, r1, r2, e, g⟩ := h
  have e' : inSeq false dx dy = some z := e
  rcases inv_in e' with ⟨ys, hb, h1, h2, h3, rfl⟩ | ⟨ch, y', rfl, rfl, rfl⟩ | ⟨x', y', rfl, rfl, rfl⟩
  · obtain ⟨k1, k2⟩ := seq_dp hb h2 r2
    exact op_inM hu pins s σ H x y v u Q I rx ry ⟨_, _, by rw [hK]; exact (r1.dp h1).1, by rw [hK]; exact k1, (r1.dp h1).2, k2, by rw [dep_toPy dx h1]; exact h3, by rw [in_any h1 h2]; exact g.same rfl⟩
  · exact op_in_sign pins s σ H x y v u Q I rx ry ⟨ch, y', r1.1, r2.1, by simpa using g.same rfl⟩
  · exact op_in_str pins s σ H x y v u Q I rx ry ⟨x', y', r1.1, r2.1, by simpa [inStr] using g.same rfl⟩
theorem ru_nin (hK : X.K = c.K) (hu : X.A.units + 64 < cLine) : OpR X (compareOp .NotIn) (rO c .nin) := by
  intro pins s σ H x y v u Q I rx ry h
  obtain ⟨N0, N, dx, dy, z, r1, r2, e, g⟩ := h
  have e' : inSeq true dx dy = some z := e
  rcases inv_in e' with ⟨ys, hb, h1, h2, h3, rfl⟩ | ⟨ch, y', rfl, rfl, rfl⟩ | ⟨x', y', rfl, rfl, rfl⟩
  · obtain ⟨k1, k2⟩ := seq_dp hb h2 r2
    exact op_ninM hu pins s σ H x y v u Q I rx ry ⟨_, _, by rw [hK]; exact (r1.dp h1).1, by rw [hK]; exact k1, (r1.dp h1).2, k2, by rw [dep_toPy dx h1]; exact h3, by rw [in_any h1 h2]; exact g.same rfl⟩
  · exact op_notIn_sign pins s σ H x y v u Q I rx ry ⟨ch, y', r1.1, r2.1, by simpa using g.same rfl⟩
  · exact op_notIn_str pins s σ H x y v u Q I rx ry ⟨x', y', r1.1, r2.1, by simpa [inStr] using g.same rfl⟩
/-- each operator -/
theorem ru_op (hK : X.K = c.K) (hu : X.A.units + 64 < cLine) (o : Op) : OpR X (opTree o) (rO c o) := by
  cases o
  · exact ru_add
  · exact ru_sub
  · exact ru_mul
  · exact ru_fdiv
  · exact ru_mod
  · exact ru_pow
  · exact ru_eq hK hu
  · exact ru_ne hK hu
  · exact ru_lt
  · exact ru_le
  · exact ru_gt
  · exact ru_ge
  · exact ru_in hK hu
  · exact ru_nin hK hu
end
end Mi
namespace Mi
open PySem L2
/-- where a text stands: the def's names by slot, the scope that runs, a comprehension's own scope, names that the module leaves to the built-ins, the defs, the classes -/
structure Ck where
  N : List Str
  sc : Scope
  inn : Option Scope
  free : List Str
  P : Prg
  cls : List Str
def Ck.fnB (k : Ck) (x : Str) : Bool := match k.inn with
  | none => true
  | some sc => decide (sc.names.lookup x = some .cell)
def plainName (x : Str) : Bool := !(x == ("__debug__" : Str)) && !(x == ("__classdict__" : Str)) && !(x == ("__name__" : Str))
def Ck.vis (k : Ck) (x : Str) : Bool := plainName x && (match k.sc.names.lookup x with
  | some .local => true
  | some .cell => true
  | some .free => true
  | _ => false)
/-- a slot to be stored -/
def Ck.loc (k : Ck) (x : Str) : Bool := match k.sc.names.lookup x with
  | some .local => true
  | some .cell => k.fnB x
  | _ => false
def Ck.gl (k : Ck) (x : Str) : Bool := plainName x && decide (k.sc.names.lookup x = some .globalImplicit)
def Ck.blt (k : Ck) (x : Str) : Bool := k.gl x && decide (x ∈ k.free)
def binOf : Op → Option Operator
  | .add => some .Add
  | .sub => some .Sub
  | .mul => some .Mult
  | .fdiv => some .FloorDiv
  | .mod => some .Mod
  | .pow => some .Pow
  | _ => none
def cmpOf : Op → Option CmpOp
  | .eq => some .Eq
  | .ne => some .NotEq
  | .lt => some .Lt
  | .le => some .LtE
  | .gt => some .Gt
  | .ge => some .GtE
  | .inn => some .In
  | .nin => some .NotIn
  | _ => none
def biName : Bi → Str
  | .len => "len"
  | .int => "int"
  | .abs => "abs"
  | .all => "all"
  | .any => "any"
  | .list => "list"
  | .tuple => "tuple"
  | .sortSet => "sorted"
  | .lenSet => "len"
  | .sort => "sorted"
  | .str => "str"
  | .sum => "sum"
/-- with one argument -/
def biOk : Bi → Bool
  | .len | .abs | .all | .any | .sum | .int | .list | .tuple | .sort => true
  | _ => false
/-- of a set just made -/
def biSet : Bi → Bool
  | .sortSet | .lenSet => true
  | _ => false
def setCk (g : Str → Expr → Bool) : Expr → Bool
  | .Call (.Name y _) [u] [] _ => g y u
  | _ => false
def tyName : Ty → Option Str
  | .int => some "int"
  | .bool => some "bool"
  | .str => some "str"
  | .list => some "list"
  | .tuple => some "tuple"
  | .dict => some "dict"
  | .valueError => some "ValueError"
  | .lookupError => some "LookupError"
  | .keyError => some "KeyError"
  | .indexError => some "IndexError"
  | .exc _ => none
/-- a class of the module -/
def Ck.own (k : Ck) (j : Nat) (x : Str) : Bool := decide (x = excName j) && k.gl x && decide (x ∈ k.cls)
def ckTy (k : Ck) : Ty → Expr → Bool
  | .exc j, .Name x _ => k.own j x
  | t, .Name x _ => (match tyName t with
    | some y => decide (x = y) && k.blt x
    | none => false)
  | _, _ => false
def ckTys (k : Ck) : List Ty → List Expr → Bool
  | [], [] => true
  | t :: ts, e :: es => ckTy k t e && ckTys k ts es
  | _, _ => false
def isStar : Expr → Bool
  | .Starred _ _ => true
  | _ => false
def isSetE : Expr → Bool
  | .Set _ _ _ => true
  | _ => false
def attrBase : Expr → Bool
  | .Name _ _ => true
  | .Subscript _ _ _ => true
  | _ => false
/-- such an expression's attribute is read as it stands -/
def callBase : Expr → Bool
  | .Name _ _ => true
  | .Subscript _ _ _ => true
  | .Call _ (_ :: _) _ _ => true
  | _ => false
def isSlice : Expr → Bool
  | .Slice _ _ _ _ => true
  | _ => false
mutual
def ckT (k : Ck) : MT → Expr → Bool
  | .slot i, .Name x _ => decide (k.N[i]? = some x) && k.loc x
  | .tup ts, .Tuple es _ _ => ckTs k ts es
  | _, _ => false
def ckTs (k : Ck) : MTs → List Expr → Bool
  | .nil, [] => true
  | .cons t r, e :: es => !isStar e && ckT k t e && ckTs k r es
  | _, _ => false
end
def ckCst : D → Const → Bool
  | .non, .none => true
  | .bl a, .bool b => a == b
  | .int i, .int j => decide (i = j)
  | .str x, .str y => decide (x = y) && strFits x
  | _, _ => false
def kwN (kws : List Keyword) : List Str := kws.filterMap (·.arg)
def Ck.inner (k : Ck) (scope : Scope) : Ck := { k with sc := relS scope k.sc, inn := some scope }
mutual
def ckE (k : Ck) (w : Bool) : ME → Expr → Bool
  | .var i, .Name x _ => decide (k.N[i]? = some x) && k.vis x
  | .bor i, .Name x _ => w && decide (k.N[i]? = some x) && k.vis x
  | .cst d, .Constant a _ _ => ckCst d a
  | .glo g, .Name x _ => k.gl x && decide ((k.P.gs[g]?).map (·.1) = some x)
  | .tup es, .Tuple xs _ _ => ckEs k es xs
  | .lst es, .List xs _ => ckEs k es xs
  | .op o a b, .BinOp l p r _ => decide (binOf o = some p) && ckE k true a l && ckE k true b r
  | .op o a b, .Compare l [p] [r] _ => decide (cmpOf o = some p) && !behindInMarks p r && ckE k true a l && ckE k true b r
  | .chain o1 o2 a b e, .Compare l [p1, p2] [r1, r2] _ => decide (cmpOf o1 = some p1) && decide (cmpOf o2 = some p2) && !lastMarks [p1, p2] [r1, r2] && ckE k true a l && ckE k true b r1 && ckE k true e r2
  | .neg a, .UnaryOp .USub x _ => ckE k true a x
  | .notE a, .UnaryOp .Not x _ => ckE k true a x
  | .andE es, .BoolOp .And xs _ => ckBs k w es xs && !xs.isEmpty
  | .orE es, .BoolOp .Or xs _ => ckBs k w es xs && !xs.isEmpty
  | .ite t a b, .IfExp x y z _ => ckE k true t x && ckE k w a y && ckE k w b z
  | .isN n a, .Compare l [p] [.Constant .none _ _] _ => decide (p = (if n then CmpOp.IsNot else CmpOp.Is)) && ckE k true a l
  | .ix a i, .Subscript x y _ => !isSlice y && ckE k true a x && ckE k true i y
  | .sl a lo hi, .Subscript x (.Slice l u none _) _ => ckE k true a x && ckO k lo l && ckO k hi u
  | .rev a, .Subscript x (.Slice none none (some (.UnaryOp .USub (.Constant (.int 1) _ _) _)) _) _ => ckE k true a x
  | .call f es, .Call (.Name x _) xs [] _ => k.gl x && decide ((k.P.fs[f]?).map (·.name) = some x) && ckEs k es xs && xs.all (fun e => !isStar e)
  | .lend f es, .Call (.Name x _) xs [] _ => k.gl x && decide ((k.P.fs[f]?).map (·.name) = some x) && ckWs k es xs && xs.all (fun e => !isStar e)
  | .callK f es es2 ks, .Call (.Name x _) xs kws _ => k.gl x && decide ((k.P.fs[f]?).map (·.name) = some x) && ckEs k es xs && xs.all (fun e => !isStar e) && ckKs k es2 kws && !kws.isEmpty &&
      (match k.P.fs[f]? with
        | some fd => kwNames fd.ps xs.length (kwN kws) && decide (ks = orderOf fd.ps xs.length (kwN kws))
        | none => false)
  | .boxed f (.call g es), .Call (.Name x _) [.Call (.Name y _) xs [] _] [] _ => k.gl x && decide ((k.P.fs[f]?).map (·.name) = some x) && k.gl y && decide ((k.P.fs[g]?).map (·.name) = some y) && decide ((k.P.fs[g]?).map (·.fresh) = some true) && ckEs k es xs && xs.all (fun e => !isStar e) && !xs.isEmpty
  | .bi b a, .Call (.Name x _) [z] [] _ => if biSet b then setCk (fun y u => decide (x = biName b) && k.blt x && decide (y = ("set" : Str)) && k.blt y && ckE k true a u && !isStar u) z else biOk b && decide (x = biName b) && k.blt x && ckE k true a z && !isStar z
  | .mk j (.cons false e .nil), .Call (.Name x _) [y] [] _ => k.own j x && (excFld j).isSome && ckE k false e y && !isStar y
  | .attr f a, .Attribute x g _ => decide (f = g) && ckE k true a x && attrBase x
  | .isi a true [t], .Call (.Name x _) [z, u] [] _ => decide (x = ("isinstance" : Str)) && k.blt x && ckE k true a z && !isStar z && ckTy k t u
  | .isi a false ts, .Call (.Name x _) [z, .Tuple us _ _] [] _ => decide (x = ("isinstance" : Str)) && k.blt x && ckE k true a z && !isStar z && ckTys k ts us && !ts.isEmpty && decide (us.length ≤ 100)
  | .comp e t r ifs own, .ListComp elt [⟨tg, iter, cs, 0⟩] scope _ =>
      (own.all fun i => decide (i < k.N.length)) && ((tSlots t).all fun i => decide (i ∈ own)) && blkC k.N k.sc scope (own.map fun i => ((k.N[i]?).getD Str.empty, i)) && ckSrc k true r iter tg && !isSetE iter && ckT (k.inner scope) t tg && ckE (k.inner scope) false e elt &&
        ckBs (k.inner scope) true ifs cs && decide (cs.length ≤ 1)
  | .idx _ a e, .Call (.Attribute y m ap) [z] [] cp => decide (m = ("index" : Str)) && ckE k true a y && ckE k false e z && !isStar z && (ap.endLine == cp.line) && callBase y
  | .comp2 e t r t2 r2 ifs own, .ListComp elt [⟨tg, iter, [], 0⟩, ⟨tg2, iter2, cs, 0⟩] scope _ =>
      (own.all fun i => decide (i < k.N.length)) && ((tSlots t).all fun i => decide (i ∈ own)) && ((tSlots t2).all fun i => decide (i ∈ own)) && blkC k.N k.sc scope (own.map fun i => ((k.N[i]?).getD Str.empty, i)) && ckSrc k true r iter tg && !isSetE iter && ckT (k.inner scope) t tg &&
        ckSrc (k.inner scope) true r2 iter2 tg2 && !isSetE iter2 && ckT (k.inner scope) t2 tg2 && ckE (k.inner scope) false e elt && ckBs (k.inner scope) true ifs cs && decide (cs.length ≤ 1)
  | _, _ => false
def ckEs (k : Ck) : MEs → List Expr → Bool
  | .nil, [] => true
  | .cons false e r, x :: xs => !isStar x && ckE k false e x && ckEs k r xs
  | .cons true e r, .Starred x _ :: xs => ckE k true e x && ckEs k r xs
  | _, _ => false
/-- named arguments -/
def ckKs (k : Ck) : MEs → List Keyword → Bool
  | .nil, [] => true
  | .cons false e r, ⟨some _, x, _⟩ :: kws => ckE k false e x && ckKs k r kws
  | _, _ => false
/-- arguments that may be lists of one's own -/
def ckWs (k : Ck) : MEs → List Expr → Bool
  | .nil, [] => true
  | .cons false e r, x :: xs => !isStar x && ckE k true e x && ckWs k r xs
  | _, _ => false
/-- tests -/
def ckBs (k : Ck) (w : Bool) : MEs → List Expr → Bool
  | .nil, [] => true
  | .cons false e r, x :: xs => ckE k w e x && ckBs k w r xs
  | _, _ => false
def ckO (k : Ck) : MO → Option Expr → Bool
  | .none, none => true
  | .some e, some x => ckE k true e x
  | _, _ => false
def ckSrc (k : Ck) (w : Bool) : MSrc → Expr → Expr → Bool
  | .it e, x, _ => ckE k w e x
  | .range a, .Call (.Name f _) [x] [] _, _ => decide (f = ("range" : Str)) && k.blt f && ckE k true a x && !isStar x
  | .range2 a b, .Call (.Name f _) [x, y] [] _, _ => decide (f = ("range" : Str)) && k.blt f && ckE k true a x && ckE k true b y && !isStar x && !isStar y
  | .enum a, .Call (.Name f _) [x] [] _, .Tuple _ _ _ => decide (f = ("enumerate" : Str)) && k.blt f && ckE k w a x && !isStar x
  | .zip a b, .Call (.Name f _) [x, y] [] _, .Tuple _ _ _ => decide (f = ("zip" : Str)) && k.blt f && ckE k w a x && ckE k w b y && !isStar x && !isStar y
  | .zip3 a b d, .Call (.Name f _) [x, y, z] [] _, .Tuple _ _ _ => decide (f = ("zip" : Str)) && k.blt f && ckE k w a x && ckE k w b y && ckE k w d z && !isStar x && !isStar y && !isStar z
  | _, _, _ => false
end
end Mi
namespace Mi
open PySem L2
section
variable {c : Cc} {cf : Cfg} {W : WX} {σ : L2.St} {H H1 H2 : Hp} {N : Addr → Prop} {N0 : Addr → Prop} {s : Env} {b : Bx} {a e : ME} {Q : VK}
theorem BoxAt.of {H H' : Hp} {b b' : Bx} (h : BoxAt c H' b) : BoxAt c H' b := h
/-- the box where nothing tracked has changed -/
theorem BoxAt.same (B : BoxAt c H b) (k : ∀ a o, H a = some o → H1 a = some o) : BoxAt c H1 b := by
  cases b with
  | none => trivial
  | some p =>
    obtain ⟨i, j, l⟩ := p
    obtain ⟨x, e, h⟩ := B
    exact ⟨x, e, k x _ h⟩
theorem Keep.ofSame (k : ∀ a o, H a = some o → H1 a = some o) : Keep c H H1 := ⟨fun a o _ h => k a o h, fun a h => by
  cases e : H a with
  | none => rfl
  | some o => rw [k a o e] at h; cases h⟩
/-- from what an operator's rule asks -/
theorem OpG.of {z : D} (R : Rel c H1 N0 σ s) (K1 : Keep c H H1) (B : BoxAt c H1 b) (h : ∀ v H', Keep c H1 H' → BoxAt c H' b → RepF c H H' (Nof N0 σ s) z v → Q v H') : OpG c H1 (Nof N0 σ s) z Q :=
  ⟨fun a => R.domN, R.betN, fun v H' k ks r => h v H' k (B.same ks) (by
    cases z with
    | lst ds =>
      obtain ⟨p, xs, e, n, h1, q⟩ := r
      exact ⟨p, xs, e, K1.fr p n, h1, q⟩
    | _ => exact r)⟩
theorem rd_op {o : Op} {a b : ME} (h : rd c (pF c) W (evE cf (.op o a b)) σ H Q) : tOp (rO c o) (rd c (pW c) W (evE cf a)) (rd c (pW c) W (evE cf b)) σ H Q := by
  obtain ⟨N0, s, b, R, B, h⟩ := h
  refine ⟨N0, s, b, R, B, Out.mono (Out.bd (Rp := fun H' => pW c H H' N0 (Nof N0 σ s)) h) fun vx H1 ⟨x, b1, k1, B1, r1, h1⟩ => ?_⟩
  refine ⟨N0, s, b1, R.keep k1, B1, Out.mono (Out.bd (Rp := fun H' => pW c H1 H' N0 (Nof N0 σ s)) h1) fun vy H2 ⟨y, b2, k2, B2, r2, h2⟩ => ?_⟩
  obtain ⟨z, e, h3⟩ := h2.ofO
  exact ⟨N0, _, x, y, z, r1.keep k2 R.bet fun _ => .inl, r2, e, OpG.of ((R.keep k1).keep k2) (k1.trans k2) B2 h3⟩
theorem rd_chain {o1 o2 : Op} {a b e : ME} (h : rd c (pE c) W (evE cf (.chain o1 o2 a b e)) σ H Q) :
    tChain (rO c o1) (rO c o2) (rd c (pW c) W (evE cf a)) (rd c (pW c) W (evE cf b)) (rd c (pW c) W (evE cf e)) σ H Q := by
  obtain ⟨N0, s, b, R, B, h⟩ := h
  refine ⟨N0, s, b, R, B, Out.mono (Out.bd (Rp := fun H' => pW c H H' N0 (Nof N0 σ s)) h) fun vx H1 ⟨x, b1, k1, B1, r1, h1⟩ => ?_⟩
  refine ⟨N0, s, b1, R.keep k1, B1, Out.mono (Out.bd (Rp := fun H' => pW c H1 H' N0 (Nof N0 σ s)) h1) fun vy H2 ⟨y, b2, k2, B2, r2, h2⟩ => ?_⟩
  have R2 := (R.keep k1).keep k2
  have h2' : Out c (fun H' => pE c H H' N0 (Nof N0 σ s)) σ H2 W Q ((M.bd (M.bd (M.ofO (evOp o1 x y)) fun d => M.ofO (Mi.asB d)) fun k => if k = true then (evE cf e s).bd fun z => M.ofO (evOp o2 y z) else M.ret (D.bl false)) b2) := h2
  cases e1 : evOp o1 x y with
  | none => rw [e1] at h2'; exact h2'.elim
  | some z =>
    rw [e1] at h2'
    have hz : ∃ k, z = .bl k := by
      cases z <;> first | exact ⟨_, rfl⟩ | exact (show False from h2').elim
    obtain ⟨k, rfl⟩ := hz
    have h3 : Out c (fun H' => pE c H H' N0 (Nof N0 σ s)) σ H2 W Q ((if k = true then (evE cf e s).bd fun z => M.ofO (evOp o2 y z) else M.ret (D.bl false)) b2) := h2'
    refine ⟨N0, _, x, y, .bl k, r1.keep k2 R.bet fun _ => .inl, r2, e1, fun a => R2.domN, R2.betN, fun v H3 k3 ks r3 => ?_⟩
    obtain rfl : v = .bl k := r3
    refine ⟨k, rfl, ?_⟩
    have B3 := B2.same ks
    cases k with
    | false => exact h3 _ _ k3 B3 rfl
    | true =>
      refine ⟨N0, s, b2, R2.keep k3, B3, Out.mono (Out.bd (Rp := fun H' => pW c H3 H' N0 (Nof N0 σ s)) (Out.later h3 k3)) fun vz H4 ⟨z, b4, k4, B4, r4, h4⟩ => ?_⟩
      obtain ⟨w, e, h5⟩ := h4.ofO
      refine ⟨N0, _, y, z, w, (r2.keep k3 R.bet fun _ => .inl).keep k4 R.bet fun _ => .inl, r4, e, ?_⟩
      have R4 := (R2.keep k3).keep k4
      exact ⟨fun a => R4.domN, R4.betN, fun v H' k ks r => h5 v H' k (B4.same ks) (RepF.rep r fun a => R4.domN)⟩
end
end Mi
namespace Mi
open PySem L2
section
variable {X : Cx}
/-- a tuple written out: what is new has no dict -/
def tTupC (t : TA) : TE := fun σ H Q => t σ H fun xs H1 => xs.length ≤ sizeLine ∧ ∀ p (o : Obj), H1 p = none → o.dict = none → Q (.ref p) (upd H1 p (.frz o (.tup xs)))
open PySem.Spec PyProof.Rows in
theorem pe_tupC {es : List Expr} {t : TA} {k : Nat} {pos : Pos} (h : PA X es t) : PE X (.Tuple es k pos) (tTupC t) := by
  refine ⟨fun pins s σ H Q I hq => ?_⟩
  refine wpAny_Tuple_spliced (thn (h.run pos pins s σ H _ I hq) fun us s1 ⟨xs, H1, I1, r, z, q⟩ => ⟨by rw [← r.length]; exact z, ?_⟩)
  have hs := Nat.le_refl s1.heap.objs.size
  have hf : H1 s1.heap.objs.size = none := I1.hok.fresh hs
  exact ⟨.ref s1.heap.objs.size, _, I1.laid (t' := s1.toks) (o := .frz { cls := .type "tuple", data := .seq us.toArray } (.tup xs)) (fun b u e => Heap.get?_push_of_some _ e) hs ⟨Heap.get?_push_size _ rfl, z, us, r, ⟨_, Heap.get?_push_size _ rfl, rfl, _, rfl⟩⟩, rfl, q _ _ hf rfl⟩
/-- t[lo:hi] of a tuple -/
def rSlC (K : PySem.W.Frag) : V → Option Int → Option Int → Hp → VK → Prop := fun x lo hi H Q => ∃ a xs, x = .ref a ∧ SqT K H a xs ∧
  (HT.sIx xs.length 0 lo = 0 ∧ HT.sIx xs.length xs.length hi = xs.length → Q (.ref a) H) ∧ ∀ p (o : Obj), H p = none → o.dict = none → Q (.ref p) (upd H p (.frz o (.tup (L2.cutV xs lo hi))))
open PySem.Spec PyProof.Rows in
theorem sl_tupC : SlR X (rSlC X.K) := by
  intro pins s σ H x v vl vu lo hi sl Q I rx hs pl pu h
  obtain ⟨a, xs, rfl, hx, q1, q2⟩ := h
  by_cases hw : HT.sIx xs.length 0 lo = 0 ∧ HT.sIx xs.length xs.length hi = xs.length
  · exact sl_tupA pins s σ H _ v vl vu lo hi sl Q I rx hs pl pu ⟨a, xs, rfl, hx, q1, fun z => absurd hw z⟩
  · cases rx
    obtain ⟨its, r, ht, hz⟩ := I.tuple hx
    have hl : its.toArray.size = xs.length := by rw [List.size_toArray]; exact r.length.symm
    have h0 := Nat.le_refl s.heap.objs.size
    refine ⟨"tuple", _, PyProof.Rows.slot_tuple_getitem.lookup, ht.typeIs, HT.getItem_tuple_cut ht hs pl pu (by rw [hl]; exact hw) ?_ (by rw [hl]; exact hz)⟩
    rw [hl]
    refine ⟨.ref s.heap.objs.size, _, I.laid (t' := s.toks) (o := .frz { cls := .type "tuple", data := .seq ((its.drop (HT.sIx xs.length 0 lo)).take (HT.sIx xs.length xs.length hi - HT.sIx xs.length 0 lo)).toArray } (.tup (L2.cutV xs lo hi))) (fun b ob q => Heap.get?_push_of_some _ q) h0 ⟨Heap.get?_push_size _ rfl, ?_⟩, rfl, q2 _ _ (I.hok.fresh h0) rfl⟩
    exact ⟨Nat.le_trans (cutV_length xs lo hi) hz, _, (r.drop (HT.sIx xs.length 0 lo)).take (HT.sIx xs.length xs.length hi - HT.sIx xs.length 0 lo), IsTup.new _ _⟩
end
section
variable {c : Cc} {cf : Cfg} {W : WX} {σ : L2.St} {H H1 H2 : Hp} {N : Addr → Prop} {N0 : Addr → Prop} {s : Env} {b : Bx} {a e : ME} {Q : VK}
theorem rd_var {i : Nat} (h : rd c (pE c) W (evE cf (.var i)) σ H Q) : tVar i σ H Q := by
  obtain ⟨N0, s, b, R, B, h⟩ := h
  have h' : Out c (fun H' => pE c H H' N0 (Nof N0 σ s)) σ H W Q ((match s[i]? with | some (.vl d) => M.ret d | _ => M.no) b) := h
  cases e : s[i]? with
  | none => rw [e] at h'; exact h'.elim
  | some x =>
    cases x with
    | vl d =>
      rw [e] at h'
      obtain ⟨v, hv, r⟩ := R.vl i d e
      exact ⟨v, hv, h' v H .refl B r⟩
    | _ => rw [e] at h'; exact h'.elim
theorem rd_bor {i : Nat} (h : rd c (pW c) W (evE cf (.bor i)) σ H Q) : tVar i σ H Q := by
  obtain ⟨N0, s, b, R, B, h⟩ := h
  have h' : Out c (fun H' => pW c H H' N0 (Nof N0 σ s)) σ H W Q ((match s[i]? with | some (.vl d) => M.ret d | some (.ow d) => M.ret d | _ => M.no) b) := h
  cases e : s[i]? with
  | none => rw [e] at h'; exact h'.elim
  | some x =>
    cases x with
    | vl d =>
      rw [e] at h'
      obtain ⟨v, hv, r⟩ := R.vl i d e
      exact ⟨v, hv, h' v H .refl B (r.w fun _ => .inl)⟩
    | ow d =>
      rw [e] at h'
      obtain ⟨a, ha, r, n⟩ := R.ow i d e
      refine ⟨.ref a, ha, h' _ H .refl B ?_⟩
      cases d with
      | lst ds =>
        obtain ⟨xs, h1, q⟩ := r
        exact ⟨a, xs, rfl, n, h1, q⟩
      | _ => exact r.elim
    | no => rw [e] at h'; exact h'.elim
theorem rd_cst {d : D} {v : V} (hd : ∀ H N, Rep c H N d v) (h : rd c (pE c) W (evE cf (.cst d)) σ H Q) : tC v σ H Q := by
  obtain ⟨N0, s, b, R, B, h⟩ := h
  exact h v H .refl B (hd _ _)
theorem rd_glo {g : Nat} {d : D} {v : V} (hg : cf.G g = some d) (hd : ∀ H N, Rep c H N d v) (h : rd c (pE c) W (evE cf (.glo g)) σ H Q) : tC v σ H Q := by
  obtain ⟨N0, s, b, R, B, h⟩ := h
  have h' : Out c (fun H' => pE c H H' N0 (Nof N0 σ s)) σ H W Q (M.ofO (cf.G g) b) := h
  rw [hg] at h'
  exact h' v H .refl B (hd _ _)
theorem rd_tup {es : MEs} (h : rd c (pE c) W (evE cf (.tup es)) σ H Q) : tTupC (rd c (pL c) W (evEs cf es)) σ H Q := by
  obtain ⟨N0, s, b, R, B, h⟩ := h
  refine ⟨N0, s, b, R, B, Out.mono (Out.bd (Rp := fun H' => pL c H H' N0 (Nof N0 σ s)) h) fun vx H1 ⟨x, b1, k1, B1, r1, h1⟩ => ?_⟩
  have R1 := R.keep k1
  by_cases hz : x.length ≤ lineMax
  · rw [if_pos hz] at h1
    refine ⟨by rw [← r1.length]; exact line_ok hz, fun p o hp ho => ?_⟩
    exact h1 _ _ (.laid hp) (B1.same (same_laid hp)) (newTup hp ho r1 R.betN fun a => R1.domN)
  · rw [if_neg hz] at h1
    exact h1.elim
theorem rd_lst {es : MEs} (h : rd c (pF c) W (evE cf (.lst es)) σ H Q) : tLst (rd c (pL c) W (evEs cf es)) σ H Q := by
  obtain ⟨N0, s, b, R, B, h⟩ := h
  refine ⟨N0, s, b, R, B, Out.mono (Out.bd (Rp := fun H' => pL c H H' N0 (Nof N0 σ s)) h) fun vx H1 ⟨x, b1, k1, B1, r1, h1⟩ => ?_⟩
  by_cases hz : x.length ≤ lineMax
  · rw [if_pos hz] at h1
    refine ⟨by rw [← r1.length]; exact line_ok hz, fun p hp => ?_⟩
    refine h1 _ _ (.laid hp) (B1.same (same_laid hp)) ?_
    obtain ⟨q, xs, e, n, h2, r⟩ := newLst (c := c) hp r1 R.betN
    cases e
    exact ⟨p, xs, rfl, k1.fr p n, h2, r⟩
  · rw [if_neg hz] at h1
    exact h1.elim
theorem rd_ite {t a b : ME} (h : rd c (pE c) W (evE cf (.ite t a b)) σ H Q) : tIf (rd c (pX (α := Bool)) W (evT cf t)) (rd c (pE c) W (evE cf a)) (rd c (pE c) W (evE cf b)) σ H Q := by
  obtain ⟨N0, s, b, R, B, h⟩ := h
  refine ⟨N0, s, b, R, B, Out.mono (Out.bd (Rp := fun H' => pX (α := Bool) H H' N0 (Nof N0 σ s)) h) fun vx H1 ⟨x, b1, k1, B1, r1, h1⟩ => ?_⟩
  obtain rfl : x = vx := r1
  cases x with
  | true => exact ⟨N0, s, b1, R.keep k1, B1, h1⟩
  | false => exact ⟨N0, s, b1, R.keep k1, B1, h1⟩
theorem RepW.non_iff {d : D} {v : V} (r : RepW c H N0 N d v) : decide (v = .non) = isNon d := by
  cases d <;> first
    | (obtain rfl := (show v = _ from r); rfl)
    | (obtain ⟨rfl, _⟩ := (show v = _ ∧ _ from r); rfl)
    | (obtain ⟨a, xs, rfl, _⟩ := r; rfl)
    | (obtain ⟨a, o, dd, xs, rfl, _⟩ := r; rfl)
    | (obtain ⟨a, rfl, _⟩ := r; rfl)
    | (obtain ⟨b, _, rfl⟩ := r; rfl)
    | exact (show False from r).elim
theorem rd_isN {n : Bool} {a : ME} (h : rd c (pE c) W (evE cf (.isN n a)) σ H Q) :
    tOp (fun x y H Q => y = .non ∧ Q (.bl (xor n (decide (x = .non)))) H) (rd c (pW c) W (evE cf a)) (tC .non) σ H Q := by
  obtain ⟨N0, s, b, R, B, h⟩ := h
  refine ⟨N0, s, b, R, B, Out.mono (Out.bd (Rp := fun H' => pW c H H' N0 (Nof N0 σ s)) h) fun vx H1 ⟨x, b1, k1, B1, r1, h1⟩ => ?_⟩
  refine ⟨rfl, ?_⟩
  rw [r1.non_iff]
  exact h1 _ _ .refl B1 rfl
theorem rd_neg {a : ME} (h : rd c (pE c) W (evE cf (.neg a)) σ H Q) : tUn (rU fun i => .int (-i)) (rd c (pW c) W (evE cf a)) σ H Q := by
  obtain ⟨N0, s, b, R, B, h⟩ := h
  refine ⟨N0, s, b, R, B, Out.mono (Out.bd (Rp := fun H' => pW c H H' N0 (Nof N0 σ s)) h) fun vx H1 ⟨x, b1, k1, B1, r1, h1⟩ => ?_⟩
  obtain ⟨i, e, h2⟩ := h1.ofObd
  cases x <;> first | (cases e; done) | skip
  cases e
  exact ⟨_, r1, h2 _ _ .refl B1 rfl⟩
theorem atI_rep {ds : List D} {vs : List V} {i : Int} {d : D} (r : RepL c H N ds vs) (h : L2.atI ds i = some d) : ∃ v, L2.atI vs i = some v ∧ Rep c H N d v := by
  unfold L2.atI at *
  rw [← r.length]
  obtain ⟨j, h1, h2⟩ := Option.bind_eq_some_iff.mp h
  obtain ⟨v, h3, h4⟩ := r.get h2
  exact ⟨v, by rw [h1]; exact h3, h4⟩
theorem one_fits {x : Str} (h : strFits x = true) {ch : Nat} (hc : ch ∈ x.cps.toList) : strFits ⟨#[ch]⟩ = true := by
  unfold strFits at *
  simp only [Bool.and_eq_true, decide_eq_true_eq, ← Array.all_toList, List.all_eq_true] at *
  refine ⟨by show 1 ≤ strMax; decide, fun y hy => ?_⟩
  have : y = ch := by simpa using hy
  rw [this]
  exact h.2 ch hc
theorem atI_mem {α : Type} {xs : List α} {i : Int} {v : α} (h : L2.atI xs i = some v) : v ∈ xs := by
  unfold L2.atI at h
  obtain ⟨j, _, h2⟩ := Option.bind_eq_some_iff.mp h
  exact List.mem_of_getElem? h2
theorem rd_ix {a i : ME} (h : rd c (pE c) W (evE cf (.ix a i)) σ H Q) : tOp (rIx c.K) (rd c (pW c) W (evE cf a)) (rd c (pW c) W (evE cf i)) σ H Q := by
  obtain ⟨N0, s, b, R, B, h⟩ := h
  refine ⟨N0, s, b, R, B, Out.mono (Out.bd (Rp := fun H' => pW c H H' N0 (Nof N0 σ s)) h) fun vx H1 ⟨x, b1, k1, B1, r1, h1⟩ => ?_⟩
  refine ⟨N0, s, b1, R.keep k1, B1, Out.mono (Out.bd (Rp := fun H' => pW c H1 H' N0 (Nof N0 σ s)) h1) fun vy H2 ⟨y, b2, k2, B2, r2, h2⟩ => ?_⟩
  have r1 := r1.keep k2 R.bet fun _ => .inl
  by_cases hb : x = .box
  · subst hb
    cases y <;> first | exact (show False from h2).elim | skip
    rename_i k
    cases b2 with
    | none => exact (show False from h2).elim
    | some p =>
      obtain ⟨i0, j0, l0⟩ := p
      have h2 : Out c (fun H' => pE c H H' N0 (Nof N0 σ s)) σ H2 W Q (match L2.atI [i0, j0, l0] k with
        | some v => .ok (.int v) (some (i0, j0, l0))
        | none => .no) := h2
      cases ea : L2.atI [i0, j0, l0] k with
      | none => rw [ea] at h2; exact h2.elim
      | some v =>
        rw [ea] at h2
        obtain ⟨p, e1, rfl⟩ := r1
        obtain ⟨p', e2, h4⟩ := id B2
        rw [e1] at e2
        cases e2
        refine .inl ⟨p, [.int i0, .int j0, .int l0], k, .int v, rfl, r2, .inl (.of h4), ?_, h2 _ _ .refl B2 rfl⟩
        unfold L2.atI at ea ⊢
        obtain ⟨j, z1, z2⟩ := Option.bind_eq_some_iff.mp ea
        have z1 : L2.ixN 3 k = some j := z1
        show (L2.ixN 3 k).bind _ = _
        rw [z1]
        show ([i0, j0, l0].map V.int)[j]? = _
        rw [List.getElem?_map, z2]
        rfl
  have h2 : Out c (fun H' => pE c H H' N0 (Nof N0 σ s)) σ H2 W Q (M.ofO (evIx x y) b2) := by
    cases x <;> first | exact h2 | exact absurd rfl hb
  obtain ⟨z, e, h3⟩ := h2.ofO
  cases x <;> cases y <;> simp only [evIx] at e <;> first | (cases e; done) | skip
  · obtain ⟨ch, e1, rfl⟩ := Option.map_eq_some_iff.mp e
    exact .inr (.inr ⟨_, _, ch, r1.1, r2, str_line r1.2, e1, h3 _ _ .refl B2 ⟨rfl, one_fits r1.2 (atI_mem e1)⟩⟩)
  · obtain ⟨p, vs, e0, n, h4, q⟩ := r1
    obtain ⟨v, h5, h6⟩ := atI_rep q e
    exact .inr (.inl ⟨p, vs, _, v, e0, r2, h4.sq, h5, h3 _ _ .refl B2 h6⟩)
  · obtain ⟨p, vs, e0, n, h4, q⟩ := r1
    obtain ⟨v, h5, h6⟩ := atI_rep q e
    exact .inl ⟨p, vs, _, v, e0, r2, .of h4, h5, h3 _ _ .refl B2 h6⟩
/-- parts of a slice -/
theorem rd_o {e : ME} {Q : Option Int → Hp → Prop} (h : rd c (pX (α := Option Int)) W (evO cf (.some e)) σ H Q) : tPart (rd c (pW c) W (evE cf e)) σ H Q := by
  obtain ⟨N0, s, b, R, B, h⟩ := h
  refine ⟨N0, s, b, R, B, Out.mono (Out.bd (Rp := fun H' => pW c H H' N0 (Nof N0 σ s)) h) fun vx H1 ⟨x, b1, k1, B1, r1, h1⟩ => ?_⟩
  obtain ⟨i, e, h2⟩ := h1.ofObd
  cases x <;> first | (cases e; done) | skip
  cases e
  exact ⟨_, r1, h2 _ _ .refl B1 rfl⟩
theorem rd_on {Q : Option Int → Hp → Prop} (h : rd c (pX (α := Option Int)) W (evO cf .none) σ H Q) : tNoPart σ H Q := by
  obtain ⟨N0, s, b, R, B, h⟩ := h
  exact h _ _ .refl B rfl
/-- slices of lists, tuples, texts, the script -/
def rSl (K : PySem.W.Frag) : V → Option Int → Option Int → Hp → VK → Prop := fun x lo hi H Q => rSlL K x lo hi H Q ∨ rSlC K x lo hi H Q ∨ rSlS x lo hi H Q
theorem sl_all {X : Cx} : SlR X (rSl X.K) := sl_list.or (sl_tupC.or sl_str)
theorem cutS_fits {z : Str} {lo hi : Option Int} (h : strFits z = true) : strFits ⟨(cut z.cps.toList lo hi).toArray⟩ = true := by
  unfold strFits at *
  rw [Bool.and_eq_true] at *
  refine ⟨decide_eq_true ?_, ?_⟩
  · have h1 := of_decide_eq_true h.1
    show (cut z.cps.toList lo hi).toArray.size ≤ strMax
    rw [List.size_toArray]
    unfold cut
    rw [List.length_take, List.length_drop]
    rw [← Array.length_toList] at h1
    omega
  · have h2 := h.2
    show (cut z.cps.toList lo hi).toArray.all (· < 0x110000) = true
    rw [← Array.all_toList, List.all_eq_true] at *
    intro y hy
    have hy' : y ∈ cut z.cps.toList lo hi := by simpa using hy
    unfold cut at hy'
    exact h2 y (List.mem_of_mem_drop (List.mem_of_mem_take hy'))
theorem cut_map {α β : Type} (f : α → β) (xs : List α) (lo hi : Option Int) : (cut xs lo hi).map f = cut (xs.map f) lo hi := by
  unfold cut
  rw [List.map_take, List.map_drop, List.length_map]
theorem cut_whole {ds : List D} {vs : List V} {l u : Option Int} (q : RepL c H N ds vs) (h1 : HT.sIx vs.length 0 l = 0) (h2 : HT.sIx vs.length vs.length u = vs.length) : cut ds l u = ds := by
  unfold cut
  rw [q.length, h1, h2, List.drop_zero, Nat.sub_zero, ← q.length, List.take_length]
theorem rd_sl {a : ME} {lo hi : MO} (hns : cf.ns = c.ns) (h : rd c (pF c) W (evE cf (.sl a lo hi)) σ H Q) :
    tSl (rSl c.K) (rd c (pW c) W (evE cf a)) (rd c (pX (α := Option Int)) W (evO cf lo)) (rd c (pX (α := Option Int)) W (evO cf hi)) σ H Q := by
  obtain ⟨N0, s, b, R, B, h⟩ := h
  refine ⟨N0, s, b, R, B, Out.mono (Out.bd (Rp := fun H' => pW c H H' N0 (Nof N0 σ s)) h) fun vx H1 ⟨x, b1, k1, B1, r1, h1⟩ => ?_⟩
  refine ⟨N0, s, b1, R.keep k1, B1, Out.mono (Out.bd (Rp := fun H' => pX (α := Option Int) H1 H' N0 (Nof N0 σ s)) h1) fun vl H2 ⟨l, b2, k2, B2, r2, h2⟩ => ?_⟩
  refine ⟨N0, s, b2, (R.keep k1).keep k2, B2, Out.mono (Out.bd (Rp := fun H' => pX (α := Option Int) H2 H' N0 (Nof N0 σ s)) h2) fun vu H3 ⟨u, b3, k3, B3, r3, h3⟩ => ?_⟩
  obtain rfl : l = vl := r2
  obtain rfl : u = vu := r3
  obtain ⟨z, e, h4⟩ := h3.ofO
  have R3 := ((R.keep k1).keep k2).keep k3
  have r1 := (r1.keep k2 R.bet fun _ => .inl).keep k3 R.bet fun _ => .inl
  have g := OpG.of R3 ((k1.trans k2).trans k3) B3 h4
  cases x <;> simp only [evSl] at e <;> first | (cases e; done) | skip
  · cases e
    refine .inr (.inr ⟨_, r1.1, str_line r1.2, g.same ⟨?_, cutS_fits r1.2⟩⟩)
    rfl
  · cases e
    obtain ⟨p, vs, e0, n, h5, q⟩ := r1
    refine .inr (.inl ⟨p, vs, e0, h5.sq, fun hw => ?_, fun p o hp ho => g.tup hp ho (q.cutV _ _)⟩)
    refine g.same ⟨p, vs, rfl, n, h5, ?_⟩
    rw [cut_whole q hw.1 hw.2]
    exact q
  · cases e
    obtain ⟨p, vs, e0, n, h5, q⟩ := r1
    exact .inl ⟨p, vs, e0, .of h5, fun p hp => g.lst hp (q.cutV _ _)⟩
  · cases e
    obtain ⟨p, e0, q⟩ := r1
    have hS : SqL c.K H3 p (c.ns.map V.int) := q.imp (fun z => z.2) id
    refine .inl ⟨p, _, e0, hS, fun p hp => ?_⟩
    have e2 : L2.cutV (c.ns.map V.int) l u = (cut cf.ns l u).map V.int := by
      rw [cut_map, hns]
      rfl
    rw [e2]
    exact g.lst hp (.ofInts _)
end
end Mi
namespace Mi
open PySem PySem.W PySem.Calls PyProof.Rows
section
variable {prog : Program} {w : World} {A : Around} {E : Value → Shared → Prop} {s : Shared} {us : List Value} {t : Addr}
/-- the items of a tuple, gathered in a list of their own -/
theorem gather_tup {Q : List Value → Shared → Prop} (ht : IsTup s.heap t us.toArray) (hz : us.length ≤ sizeLine) (h : Q us { s with heap := (s.heap.push (seqObj "list" #[] 0)).update s.heap.objs.size (Obj.mapSeq (· ++ us.toArray)) }) :
    wpAny (model prog w) A (collect (.ref t)) Q E s := by
  obtain ⟨ob, hob, hcl, n, hda⟩ := ht
  have e0 : (s.heap.push (seqObj "list" #[] 0)).get? s.heap.objs.size = some (seqObj "list" #[] 0) := Heap.get?_push_size _ rfl
  have e1 : (s.heap.push (seqObj "list" #[] 0)).get? t = some ob := Heap.get?_push_of_some _ hob
  have e2 : (Value.type "tuple" == Value.type "tuple") = true := by rfl
  unfold collect
  refine wpAny_bind (wpAny_runValue (codeAny_builtin entry_proto_collect' (show wpAny _ _ (do again (.builtin "list.__iadd__" ⟨[← newList [], .ref t], []⟩)) _ _ s from wpAny_bind (wpAny_newList (wpAny_pure ⟨Code.quiet_builtin _ (by decide +kernel), codeAny_builtin entry_list_iadd' ?_⟩)))))
  show wpAny _ _ (Builtin.List.listExtendWith (.ref s.heap.objs.size) (.ref t) (.ref s.heap.objs.size)) _ _ { s with heap := s.heap.push (seqObj "list" #[] 0) }
  unfold Builtin.List.listExtendWith
  refine wpAny_bind (wpAny_typeOf (T := "tuple") ⟨ob, e1, hcl⟩ ?_)
  rw [if_pos (by rw [e2, Bool.or_true])]
  refine wpAny_bind (listItems_at e1 hda (wpAny_bind (listItems_at e0 rfl ?_)))
  rw [if_neg (by simp)]
  refine wpAny_bind (listUpdate_at e0 rfl (wpAny_pure ?_) (Nat.zero_le _) (by
    show (#[] ++ us.toArray).size ≤ sizeLine + 1
    simp only [Array.size_append, List.size_toArray, List.length_nil]
    omega))
  show wpAny (model prog w) A (do
    let ob ← load s.heap.objs.size
    match ob.data with
    | .seq ys _ => pure ys.toList
    | _ => unsupported "internal:collect") Q E _
  refine wpAny_bind (wpAny_load (get?_update_seq e0 _) ?_)
  have e3 : ((#[] : Array Value) ++ us.toArray).toList = us := by simp
  show wpAny _ _ (pure (((#[] : Array Value) ++ us.toArray).toList)) Q E _
  rw [e3]
  exact wpAny_pure h
theorem sorted_tupS {κ : PyProof.Rows.KeyKind} {Q : Value → Shared → Prop} (ht : IsTup s.heap t us.toArray) (hz : us.length ≤ sizeLine) (S : SortsAt prog w A.in1.in1 { s with heap := sortingHeap (copyHeap s.heap us) (s.heap.objs.size + 1) us } κ us)
    (h : Q (.ref (s.heap.objs.size + 1)) { s with heap := sortedAll s.heap us (sortVals κ false us us).toArray }) : wpAny (model prog w) A (call (.builtin "sorted") [.ref t]) Q E s := by
  refine call_function_entry_kw kind_sorted plain_sorted entry_sorted (args_sorted1 _) ?_
  unfold Builtin.«sorted»
  have es : ((s.heap.push (seqObj "list" #[] 0)).update s.heap.objs.size (Obj.mapSeq (· ++ us.toArray))).objs.size = s.heap.objs.size + 1 := by rw [Heap.size_update, size_push']
  refine wpAny_bind (m := checkCount "sorted" 1 1 _) (wpAny_pure (wpAny_bind (gather_tup ht hz (wpAny_bind (wpAny_newList ?_ hz)))))
  show wpAny _ _ _ _ _ { s with heap := copyHeap s.heap us }
  rw [es]
  refine wpAny_bind (wpAny_holding (wpAny_call_entry_kw slot_list_sort ⟨_, copyHeap_at s.heap us, rfl⟩ entry_list_sort ?_ (args_list_sort _)))
  refine wpAny_mono (list_sort_vals (P := fun f s' => f = .done (.ret .none) ∧ Q (.ref (s.heap.objs.size + 1)) s') (s := { s with heap := copyHeap s.heap us }) (copyHeap_at s.heap us) S hz ⟨rfl, h⟩) (fun f s' hf => ?_) fun _ _ e => e
  obtain ⟨e1, hq⟩ := hf
  subst e1
  exact ⟨_, rfl, wpAny_pure ⟨_, rfl, hq⟩⟩
theorem sorted_tupD {β : Type} {R : Value → β → Prop} {enc : β → PyData} {bs : List β} {Q : Value → Shared → Prop} (ht : IsTup s.heap t us.toArray) (e : EachIs R us bs) (er : EachIs (fun v b => ∃ as, Reads s.heap v (enc b) as) us bs) (hal : AllAlike (bs.map enc)) (hk : Sortable (bs.map enc)) (hz : bs.length ≤ sizeLine)
    (hu : ∀ b, b ∈ bs → A.units + 2 + (enc b).depth < cLine) (h : ∀ out, out.length = bs.length → EachIs R out (bs.mergeSort (dataLe false enc)) → Q (.ref (s.heap.objs.size + 1)) { s with heap := sortedAll s.heap us (List.toArray out) }) :
    wpAny (model prog w) A (call (.builtin "sorted") [.ref t]) Q E s := by
  have er' : EachIs (fun v b => ∃ as, Reads (sortingHeap (copyHeap s.heap us) (s.heap.objs.size + 1) us) v (enc b) as) us bs := er.mono fun _ _ ⟨as, r⟩ => ⟨as, PyProof.Rows.Reads.keeps (fun _ _ => sorting_copy_old) r⟩
  have S := SortsAt.data (prog := prog) (w := w) (A := A.in1.in1) (s := { s with heap := sortingHeap (copyHeap s.heap us) (s.heap.objs.size + 1) us }) (each_map (R := fun v d => ∃ as, Reads (sortingHeap (copyHeap s.heap us) (s.heap.objs.size + 1) us) v d as) enc er') hal hk (bound_map hu)
  exact sorted_tupS ht (by rw [e.length]; exact hz) S (h _ (by rw [sortVals_length false rfl]; exact e.length) (sortVals_data false e er' hal))
/-- of a list or a tuple -/
theorem sorted_anyD {β : Type} {R : Value → β → Prop} {enc : β → PyData} {bs : List β} {Q : Value → Shared → Prop} (ht : s.heap.IsList t us.toArray ∨ IsTup s.heap t us.toArray) (e : EachIs R us bs) (er : EachIs (fun v b => ∃ as, Reads s.heap v (enc b) as) us bs) (hal : AllAlike (bs.map enc)) (hk : Sortable (bs.map enc)) (hz : bs.length ≤ sizeLine)
    (hu : ∀ b, b ∈ bs → A.units + 2 + (enc b).depth < cLine) (h : ∀ out, out.length = bs.length → EachIs R out (bs.mergeSort (dataLe false enc)) → Q (.ref (s.heap.objs.size + 1)) { s with heap := sortedAll s.heap us (List.toArray out) }) :
    wpAny (model prog w) A (call (.builtin "sorted") [.ref t]) Q E s :=
  ht.elim (fun z => sorted_data z e er hal hk hz hu h) fun z => sorted_tupD z e er hal hk hz hu h
end
end Mi
namespace Mi
open PySem L2
/-- what a built-in's rule asks -/
def rBi (c : Cc) (k : Bi) : List V → Hp → VK → Prop := fun vs H Q => ∃ (N0 N : Addr → Prop) (d z : D) (v : V), vs = [v] ∧ RepW c H N0 N d v ∧ evBi k d = some z ∧ OpG c H N z Q
def biVal : Bi → Value
  | .len => .builtin "len"
  | .int => .type "int"
  | .abs => .builtin "abs"
  | .all => .builtin "all"
  | .any => .builtin "any"
  | .list => .type "list"
  | .tuple => .type "tuple"
  | .sortSet => .builtin "sorted"
  | .lenSet => .builtin "len"
  | .sort => .builtin "sorted"
  | .str => .type "str"
  | .sum => .builtin "sum"
theorem bools_rep {c : Cc} {H : Hp} {N : Addr → Prop} : ∀ {ds : List D} {vs : List V} {bs : List Bool}, RepL c H N ds vs → bools ds = some bs → vs = bs.map V.bl
  | [], _, _, r, e => by cases r; cases e; rfl
  | d :: ds, _, _, r, e => by
    obtain ⟨v, vs, rfl, h, q⟩ := r
    cases d <;> simp only [bools] at e <;> first | (cases e; done) | skip
    obtain ⟨bs, e1, rfl⟩ := Option.map_eq_some_iff.mp e
    rw [bools_rep q e1, show v = V.bl _ from h]
    rfl
theorem ints_rep {c : Cc} {H : Hp} {N : Addr → Prop} : ∀ {ds : List D} {vs : List V} {bs : List Int}, RepL c H N ds vs → intsD ds = some bs → vs = bs.map V.int
  | [], _, _, r, e => by cases r; cases e; rfl
  | d :: ds, _, _, r, e => by
    obtain ⟨v, vs, rfl, h, q⟩ := r
    cases d <;> simp only [intsD] at e <;> first | (cases e; done) | skip
    obtain ⟨bs, e1, rfl⟩ := Option.map_eq_some_iff.mp e
    rw [ints_rep q e1, show v = V.int _ from h]
    rfl
theorem strs_rep {c : Cc} {H : Hp} {N : Addr → Prop} : ∀ {ds : List D} {vs : List V} {bs : List Str}, RepL c H N ds vs → strsD ds = some bs → vs = bs.map V.str ∧ ∀ x ∈ bs, strFits x = true
  | [], _, _, r, e => by cases r; cases e; exact ⟨rfl, fun _ h => nomatch h⟩
  | d :: ds, _, _, r, e => by
    obtain ⟨v, vs, rfl, h, q⟩ := r
    cases d <;> simp only [strsD] at e <;> first | (cases e; done) | skip
    obtain ⟨bs, e1, rfl⟩ := Option.map_eq_some_iff.mp e
    obtain ⟨h1, h2⟩ := strs_rep q e1
    refine ⟨by rw [h1, h.1]; rfl, fun x hx => ?_⟩
    rcases List.mem_cons.mp hx with rfl | hx
    · exact h.2
    · exact h2 x hx
section
variable {X : Cx}
open PySem.Spec PyProof.Rows in
/-- tuple(xs): what is new has no dict -/
theorem call_tupleC : CallR X (.type "tuple") (fun xs H Q => ∃ p ys, xs = [.ref p] ∧ ((SqL X.K H p ys ∧ ∀ l (o : Obj), H l = none → o.dict = none → Q (.ref l) (upd H l (.frz o (.tup ys)))) ∨ (SqT X.K H p ys ∧ Q (.ref p) H))) := by
  intro pins s σ H xs us Q I r h
  obtain ⟨p, ys, rfl, h⟩ := h
  rcases h with ⟨hq, q⟩ | ⟨hq, q⟩
  · obtain ⟨u, rfl, rx⟩ := r.one
    cases rx
    obtain ⟨its, r', pl, hz⟩ := I.list hq
    have hl := r'.length
    refine call_tuple_list pl.isList (fun h' kp => ?_) (by simp only [List.size_toArray] <;> omega)
    have J : Inv X pins σ H { s with heap := h' } := I.kept (t' := s.toks) kp
    have h0 := Nat.le_refl h'.objs.size
    exact ⟨.ref h'.objs.size, _, J.laid (t' := s.toks) (o := .frz { cls := .type "tuple", data := .seq its.toArray } (.tup ys)) (fun b o e => Heap.get?_push_of_some _ e) h0 ⟨Heap.get?_push_size _ rfl, hz, its, r', IsTup.new _ _⟩, rfl, q _ _ (J.hok.fresh h0) rfl⟩
  · exact call_tuple_of pins s σ H _ us Q I r ⟨p, ys, rfl, .inr ⟨hq, q⟩⟩
end
section
variable {X : Cx} {c : Cc}
theorem bi_len : CallR X (biVal .len) (rBi c .len) := by
  intro pins s σ H xs us Q I r h
  obtain ⟨N0, N, d, z, v, rfl, w, e, g⟩ := h
  cases d <;> simp only [evBi] at e <;> first | (cases e; done) | skip
  · cases e
    exact call_len_str pins s σ H _ us Q I r ⟨_, by rw [w.1], str_line w.2, g.same rfl⟩
  · cases e
    obtain ⟨a, vs, rfl, n, h1, q⟩ := w
    exact call_len_seq pins s σ H _ us Q I r ⟨a, vs, rfl, .inr h1.sq, by rw [← q.length]; exact g.same rfl⟩
  · cases e
    obtain ⟨a, vs, rfl, n, h1, q⟩ := w
    exact call_len_seq pins s σ H _ us Q I r ⟨a, vs, rfl, .inl (.of h1), by rw [← q.length]; exact g.same rfl⟩
theorem bi_int : CallR X (biVal .int) (rBi c .int) := by
  intro pins s σ H xs us Q I r h
  obtain ⟨N0, N, d, z, v, rfl, w, e, g⟩ := h
  cases d <;> simp only [evBi] at e <;> first | (cases e; done) | skip
  · cases e
    exact call_int1 pins s σ H _ us Q I r (.inr ⟨_, by rw [show v = _ from w], g.same rfl⟩)
  · cases e
    exact call_int1 pins s σ H _ us Q I r (.inl ⟨_, by rw [show v = _ from w], g.same rfl⟩)
theorem bi_abs : CallR X (biVal .abs) (rBi c .abs) := by
  intro pins s σ H xs us Q I r h
  obtain ⟨N0, N, d, z, v, rfl, w, e, g⟩ := h
  cases d <;> simp only [evBi] at e <;> first | (cases e; done) | skip
  cases e
  exact call_abs pins s σ H _ us Q I r ⟨_, by rw [show v = _ from w], g.same rfl⟩
theorem bi_all (hc : X.calm = true) : CallR X (biVal .all) (rBi c .all) := by
  intro pins s σ H xs us Q I r h
  obtain ⟨N0, N, d, z, v, rfl, w, e, g⟩ := h
  cases d <;> simp only [evBi] at e <;> first | (cases e; done) | skip
  obtain ⟨bs, e1, rfl⟩ := Option.map_eq_some_iff.mp e
  obtain ⟨a, vs, rfl, n, h1, q⟩ := w
  have e2 := bools_rep q e1
  subst e2
  exact cr_all hc pins s σ H _ us Q I r ⟨a, bs, rfl, .of h1, g.same rfl⟩
theorem bi_any (hc : X.calm = true) : CallR X (biVal .any) (rBi c .any) := by
  intro pins s σ H xs us Q I r h
  obtain ⟨N0, N, d, z, v, rfl, w, e, g⟩ := h
  cases d <;> simp only [evBi] at e <;> first | (cases e; done) | skip
  obtain ⟨bs, e1, rfl⟩ := Option.map_eq_some_iff.mp e
  obtain ⟨a, vs, rfl, n, h1, q⟩ := w
  have e2 := bools_rep q e1
  subst e2
  exact cr_any hc pins s σ H _ us Q I r ⟨a, bs, rfl, .of h1, g.same rfl⟩
theorem bi_sum (hc : X.calm = true) : CallR X (biVal .sum) (rBi c .sum) := by
  intro pins s σ H xs us Q I r h
  obtain ⟨N0, N, d, z, v, rfl, w, e, g⟩ := h
  cases d <;> simp only [evBi] at e <;> first | (cases e; done) | skip
  obtain ⟨bs, e1, rfl⟩ := Option.map_eq_some_iff.mp e
  obtain ⟨a, vs, rfl, n, h1, q⟩ := w
  have e2 := ints_rep q e1
  subst e2
  exact cr_sum hc pins s σ H _ us Q I r ⟨a, bs, rfl, .of h1, g.same rfl⟩
theorem bi_list : CallR X (biVal .list) (rBi c .list) := by
  intro pins s σ H xs us Q I r h
  obtain ⟨N0, N, d, z, v, rfl, w, e, g⟩ := h
  cases d <;> simp only [evBi] at e <;> first | (cases e; done) | skip
  · cases e
    obtain ⟨a, vs, rfl, n, h1, q⟩ := w
    exact call_list_of pins s σ H _ us Q I r ⟨a, vs, rfl, .inr h1.sq, fun p hp => g.lst hp q⟩
  · cases e
    obtain ⟨a, vs, rfl, n, h1, q⟩ := w
    exact call_list_of pins s σ H _ us Q I r ⟨a, vs, rfl, .inl (.of h1), fun p hp => g.lst hp q⟩
theorem bi_tuple : CallR X (biVal .tuple) (rBi c .tuple) := by
  intro pins s σ H xs us Q I r h
  obtain ⟨N0, N, d, z, v, rfl, w, e, g⟩ := h
  cases d <;> simp only [evBi] at e <;> first | (cases e; done) | skip
  · cases e
    obtain ⟨a, vs, rfl, n, h1, q⟩ := w
    exact call_tupleC pins s σ H _ us Q I r ⟨a, vs, rfl, .inr ⟨h1.sq, g.same ⟨a, vs, rfl, n, h1, q⟩⟩⟩
  · cases e
    obtain ⟨a, vs, rfl, n, h1, q⟩ := w
    exact call_tupleC pins s σ H _ us Q I r ⟨a, vs, rfl, .inl ⟨.of h1, fun p o hp ho => g.tup hp ho q⟩⟩
end
section
variable {X : Cx} {c : Cc} {H : Hp} {N : Addr → Prop}
open PySem.W in
theorem each_zip {s : Shared} {pins : List (Addr × Obj)} {σ : L2.St} (I : Inv X pins σ H s) (hK : c.K = X.K) : ∀ {ds : List D} {vs : List V} {us : List Value}, RepL c H N ds vs → Vals vs us → D.pyL ds = true →
    EachIs (fun u (p : D × V) => RelV p.2 u) us (ds.zip vs) ∧ EachIs (fun u (p : D × V) => ∃ as, Reads s.heap u (toPy p.1) as) us (ds.zip vs)
  | [], _, _, r, w, _ => by
    cases r
    cases w
    exact ⟨.nil, .nil⟩
  | d :: ds, _, _, r, w, p => by
    obtain ⟨v, vs, rfl, h, q⟩ := r
    cases w with
    | cons w1 w2 =>
      simp only [D.pyL, Bool.and_eq_true] at p
      obtain ⟨e1, e2⟩ := each_zip I hK q w2 p.2
      have z := (Rep.dp d v p.1 h).1
      rw [hK] at z
      exact ⟨.cons w1 e1, .cons (Dp.reads I (toPy d) v _ z w1) e2⟩
theorem zip_rep : ∀ {ds : List D} {vs : List V}, RepL c H N ds vs → ∀ p ∈ ds.zip vs, Rep c H N p.1 p.2
  | [], _, r => by cases r; exact fun _ h => nomatch h
  | d :: ds, _, r => by
    obtain ⟨v, vs, rfl, h, q⟩ := r
    intro p hp
    rcases List.mem_cons.mp hp with rfl | hp
    · exact h
    · exact zip_rep q p hp
theorem rep_zip : ∀ (ps : List (D × V)), (∀ p ∈ ps, Rep c H N p.1 p.2) → RepL c H N (ps.map (·.1)) (ps.map (·.2))
  | [], _ => rfl
  | p :: ps, h => ⟨_, _, rfl, h p (List.mem_cons_self ..), rep_zip ps fun q hq => h q (List.mem_cons_of_mem _ hq)⟩
theorem vals_of : ∀ {us : List Value} {ps : List (D × V)}, PySem.W.EachIs (fun u (p : D × V) => RelV p.2 u) us ps → Vals (ps.map (·.2)) us
  | _, _, .nil => .nil
  | _, _, .cons h t => .cons h (vals_of t)
theorem toPyL_map : ∀ (ds : List D), toPyL ds = ds.map toPy
  | [] => rfl
  | d :: ds => by rw [toPyL, toPyL_map ds]; rfl
theorem dep_of {d : D} (p : D.py d = true) (h : D.dep d ≤ 60) : (toPy d).depth ≤ 60 := by
  rw [dep_toPy d p]; exact h
theorem pyL_mem : ∀ {ds : List D}, D.pyL ds = true → ∀ d ∈ ds, D.py d = true
  | [], _, _, h => nomatch h
  | x :: xs, p, d, h => by
    simp only [D.pyL, Bool.and_eq_true] at p
    rcases List.mem_cons.mp h with rfl | h
    · exact p.1
    · exact pyL_mem p.2 d h
open PySem.W in
theorem bi_sort (hK : c.K = X.K) (hu : X.A.units + 64 < cLine) : CallR X (biVal .sort) (rBi c .sort) := by
  intro pins s σ H xs us Q I r h
  obtain ⟨N0, N, d, z, v, rfl, w, e, g⟩ := h
  have src : ∃ (a : Addr) (ds : List D) (vs : List V) (its : List Value), v = .ref a ∧ RepL c H N ds vs ∧ Vals vs its ∧ (s.heap.IsList a its.toArray ∨ PyProof.Rows.IsTup s.heap a its.toArray) ∧ evBi .sort (.lst ds) = some z := by
    cases d <;> simp only [evBi] at e <;> first | (cases e; done) | skip
    · rename_i ds
      obtain ⟨a, vs, rfl, n, h1, q⟩ := w
      obtain ⟨its, rv, p, _⟩ := I.tuple h1.sq
      exact ⟨a, ds, vs, its, rfl, q, rv, .inr p, e⟩
    · rename_i ds
      obtain ⟨a, vs, rfl, n, h1, q⟩ := w
      obtain ⟨_, its, n1, rv, hl, e1⟩ := I.lstM h1
      exact ⟨a, ds, vs, its, rfl, q, rv, .inl ⟨_, e1, rfl, n1, rfl⟩, e⟩
  obtain ⟨a, ds, vs, its, rfl, q, rv, hsrc, e⟩ := src
  simp only [evBi] at e
  split at e
  · rename_i hk
    cases e
    rw [Bool.and_eq_true] at hk
    obtain ⟨hk, hlen⟩ := hk
    have hlen := of_decide_eq_true hlen
    unfold sortOk at hk
    rw [Bool.and_eq_true, Bool.and_eq_true, Bool.and_eq_true] at hk
    obtain ⟨⟨⟨k1, k2⟩, k3⟩, k4⟩ := hk
    obtain ⟨u, rfl, ru⟩ := r.one
    cases ru
    obtain ⟨er, ed⟩ := each_zip I hK q rv k1
    have ql := q.length
    have hfst : (ds.zip vs).map (·.1) = ds := by
      rw [List.map_fst_zip (by omega)]
    have hmem : ∀ p ∈ ds.zip vs, p.1 ∈ ds := fun p hp => by
      have := List.mem_map_of_mem (f := fun x : D × V => x.1) hp
      rwa [hfst] at this
    have al : AllAlike ((ds.zip vs).map fun p => toPy p.1) := by
      intro x hx y hy
      obtain ⟨p, hp, rfl⟩ := List.mem_map.mp hx
      obtain ⟨p', hp', rfl⟩ := List.mem_map.mp hy
      exact List.all_eq_true.mp (List.all_eq_true.mp k3 _ (hmem p hp)) _ (hmem p' hp')
    have so : Sortable ((ds.zip vs).map fun p => toPy p.1) := by
      rw [Bool.or_eq_true] at k4
      rcases k4 with k4 | k4
      · refine .inl fun x hx => ?_
        obtain ⟨p, hp, rfl⟩ := List.mem_map.mp hx
        have := List.all_eq_true.mp k4 _ (hmem p hp)
        cases e : p.1 <;> rw [e] at this <;> first | (cases this; done) | skip
        rename_i xs
        cases xs with
        | nil => cases this
        | cons y ys => exact ⟨_, _, by simp only [toPy, toPyL]; rfl⟩
      · refine .inr fun x hx => ?_
        obtain ⟨p, hp, rfl⟩ := List.mem_map.mp hx
        have h2 := List.all_eq_true.mp k4 _ (hmem p hp)
        have h3 := pyL_mem k1 _ (hmem p hp)
        cases e : p.1 <;> rw [e] at h2 h3 <;> first | (cases h2; done) | (cases h3; done) | exact ⟨fun z => by simp [toPy] at z, fun xs z => by simp [toPy] at z⟩
    refine sorted_anyD (R := fun u (p : D × V) => RelV p.2 u) (enc := fun p : D × V => toPy p.1) (us := its) hsrc er ed al so (by rw [List.length_zip, ← ql, Nat.min_self]; exact line_ok hlen) (fun p hp => ?_) fun out ho hE => ?_
    · have := dep_of (pyL_mem k1 _ (hmem p hp)) (of_decide_eq_true (List.all_eq_true.mp k2 _ (hmem p hp)))
      omega
    · have hv := vals_of hE
      have e2 : ((ds.zip vs).mergeSort (dataLe false fun p : D × V => toPy p.1)).map (·.1) = sortD ds := by
        unfold sortD
        rw [srt_eq]
        have z := List.map_mergeSort (r := dataLe false fun p : D × V => toPy p.1) (s := leD) (f := fun x : D × V => x.1) (l := ds.zip vs) (fun x _ y _ => rfl)
        rw [hfst] at z
        exact z
      have rp : RepL c H N (((ds.zip vs).mergeSort (dataLe false fun p : D × V => toPy p.1)).map (·.1)) (((ds.zip vs).mergeSort (dataLe false fun p : D × V => toPy p.1)).map (·.2)) := rep_zip _ fun p hp => zip_rep q p (List.mem_mergeSort.mp hp)
      rw [e2] at rp
      obtain ⟨cc, hc⟩ := PyProof.Rows.sortedAll_at s.heap its out.toArray
      have fr : H (s.heap.objs.size + 1) = none := I.hok.fresh (Nat.le_succ _)
      refine ⟨.ref _, _, I.laid (t' := s.toks) (o := .lst (((ds.zip vs).mergeSort (dataLe false fun p : D × V => toPy p.1)).map (·.2))) (fun b o e => PyProof.Rows.sortedAll_old e) (Nat.le_succ _) ⟨?_, out, cc, hv, hc⟩, rfl, g.lst fr rp⟩
      rw [List.length_map, List.length_mergeSort, List.length_zip, ← ql, Nat.min_self]
      exact line_ok hlen
  · cases e
end
def tyTag : D → Option String
  | .non => some "NoneType"
  | .bl _ => some "bool"
  | .int _ => some "int"
  | .str _ => some "str"
  | .tup _ => some "tuple"
  | .lst _ => some "list"
  | _ => none
def tyStr : Ty → Option String
  | .valueError => some "ValueError"
  | .lookupError => some "LookupError"
  | .keyError => some "KeyError"
  | .indexError => some "IndexError"
  | .int => some "int"
  | .bool => some "bool"
  | .str => some "str"
  | .list => some "list"
  | .tuple => some "tuple"
  | .dict => some "dict"
  | _ => none
theorem tyX_of {c : Cc} {H : Hp} {N0 N : Addr → Prop} {d : D} {v : V} {t : String} (r : RepW c H N0 N d v) (h : tyTag d = some t) : TyX c.K H v (.type t) := by
  cases d <;> simp only [tyTag] at h <;> first | (cases h; done) | skip
  · cases h; rw [show v = _ from r]; exact .base .non
  · cases h; rw [show v = _ from r]; exact .base (.bl _)
  · cases h; rw [show v = _ from r]; exact .base (.int _)
  · cases h; rw [r.1]; exact .base (.str _)
  · cases h
    obtain ⟨a, vs, rfl, n, ⟨o, h1, _⟩, q⟩ := r
    exact .fTuple h1
  · cases h
    obtain ⟨a, vs, rfl, n, h1, q⟩ := r
    exact .base (.lst h1)
theorem kit_of_ty {d : D} {t : Ty} {b : Bool} {x y : String} (h : D.isTy d t = some b) (hd : tyTag d = some x) (ht : tyStr t = some y) : kitB x y = some b := by
  cases d <;> simp only [tyTag] at hd <;> first | (cases hd; done) | skip
  all_goals cases hd
  all_goals cases t <;> simp only [tyStr] at ht <;> first | (cases ht; done) | skip
  all_goals cases ht
  all_goals simp only [D.isTy] at h
  all_goals cases h
  all_goals decide +kernel
end Mi
namespace Mi
open PySem PyProof.Rows L2
section
variable {prog : Program} {w : World} {A : Around} {E : Value → Shared → Prop} {s : Shared}
theorem draw_lst {it t : Addr} {items : Array Value} (hne : t ≠ it) : ∀ (n i : Nat) (s : Shared) (Q : List Value → Shared → Prop), s.heap.IsListIter it t i → s.heap.IsList t items → i + n ≤ items.size →
    (∀ h', h'.IsListIter it t (i + n) → Heap.SameBut it s.heap h' → Q ((items.toList.drop i).take n) { s with heap := h' }) → wpAny (model prog w) A (draw (.ref it) n) Q E s
  | 0, i, s, Q, hit, _, _, hQ => by
    show wpAny _ _ (pure []) Q E s
    exact wpAny_pure (by simpa using hQ s.heap hit (Heap.SameBut.refl ..))
  | n + 1, i, s, Q, hit, ht, hle, hQ => by
    have hlt : i < items.size := by omega
    show wpAny _ _ (pyNext (.ref it) >>= _) Q E s
    refine wpAny_bind (wpAny_pyNext_list_item hit ht (x := items[i]) (by simp [hlt]) fun h₁ hit₁ hs₁ => ?_)
    refine wpAny_bind (wpAny_holding (draw_lst hne n (i + 1) _ _ hit₁ (ht.extBut hs₁.extBut hne) (by omega) fun h₂ hit₂ hs₂ => wpAny_pure ?_))
    have hd : items.toList.drop i = items[i] :: items.toList.drop (i + 1) := by simp [List.drop_eq_getElem_cons, hlt]
    have := hQ h₂ (by rw [show i + (n + 1) = i + 1 + n by omega]; exact hit₂) (hs₁.trans hs₂)
    rw [hd, List.take_succ_cons] at this
    exact this
theorem unpackItems_lst {t : Addr} {items : Array Value} {Q : List Value → Shared → Prop} (hh : A.handled = none) (ht : s.heap.IsList t items)
    (hQ : ∀ h', Heap.ExtBut s.heap.objs.size s.heap h' → Q items.toList { s with heap := h' }) : wpAny (model prog w) A (unpackItems (.ref t) items.size none) Q E s := by
  have hlt : t ≠ s.heap.objs.size := by obtain ⟨o, ho, _⟩ := ht; exact Nat.ne_of_lt (Heap.lt_size ho)
  unfold unpackItems
  refine wpAny_bind ?_
  unfold notIterableAtAll
  refine wpAny_bind (wpAny_specialOf ht.typeIs slot_list_iter.lookup ?_)
  refine wpAny_pure ?_
  simp only [Bool.false_eq_true, if_false]
  refine wpAny_bind (wpAny_holding (wpAny_pyIter_list ht ?_))
  have ht0 : (s.heap.push { cls := .type "list_iterator", data := .fields #[.ref t, .int 0 0] }).IsList t items := by
    obtain ⟨o, ho, r⟩ := ht
    exact ⟨o, Heap.get?_push_of_some _ ho, r⟩
  refine wpAny_bind (wpAny_holding (draw_lst hlt items.size 0 _ _ ⟨_, Heap.get?_push_size _ rfl, rfl, rfl⟩ ht0 (by omega) fun h₁ hit₁ hs₁ => ?_))
  have hall : List.take items.size (List.drop 0 items.toList) = items.toList := by
    rw [List.drop_zero]; exact List.take_of_length_le (by simp)
  rw [hall]
  rw [if_neg (by simp)]
  have ht₁ : h₁.IsList t items := ht0.extBut hs₁.extBut hlt
  refine wpAny_bind (wpAny_holding (wpAny_pyNext_list_end hh hit₁ ht₁ (by simp) fun h₂ he₂ => ?_))
  simp only [Option.isSome_none, Bool.false_eq_true, if_false]
  refine wpAny_pure (hQ h₂ fun b o hb e => he₂ b o hb (hs₁.extBut b o hb (Heap.get?_push_of_some _ e)))
theorem assign_Tuple_lst {env : PySem.Env} {elts : List Expr} {x1} {pos : Pos} {t : Addr} {items : Array Value} {Q : Unit → Shared → Prop} (hh : A.handled = none) (ht : s.heap.IsList t items)
    (hn : (assignEach elts env).length = items.size) (hstar : (assignEach elts env).findIdx? (·.1) = none)
    (h : ∀ h', Heap.ExtBut s.heap.objs.size s.heap h' → wpAny (model prog w) A (assignInOrder ((assignEach elts env).map (·.2)) items.toList) Q E { s with heap := h' }) :
    wpAny (model prog w) A (assign (.Tuple elts x1 pos) env (.ref t)) Q E s := by
  rw [assign_Tuple]
  refine wpAny_bind (wpAny_standAt ?_)
  unfold unpack
  rw [hn, hstar]
  exact wpAny_bind (wpAny_holding (unpackItems_lst hh ht h))
end
section
variable {X : L2.Cx}
/-- (a, b, ..) = a tuple or a list of that length -/
def gSeqT (K : PySem.W.Frag) (n : Nat) (t : TGs) : TG := fun v σ H Q => ∃ a xs, v = .ref a ∧ (SqT K H a xs ∨ SqL K H a xs) ∧ xs.length = n ∧ t xs σ H Q
theorem pg_seqT {es : List Expr} {k : Nat} {pos : Pos} {t : TGs} {n : Nat} (hc : X.calm = true) (h : PGs X es t)
    (hn : (assignEach es X.env).length = n) (hst : (assignEach es X.env).findIdx? (·.1) = none) : PG X (.Tuple es k pos) (gSeqT X.K n t) := by
  refine ⟨fun pins s σ H v u Q I r hw => ?_⟩
  obtain ⟨a, xs, e1, hq, hl, hw⟩ := hw
  subst e1
  cases r
  rcases hq with hq | hq
  · obtain ⟨its, rv, ht, hz⟩ := I.tuple hq
    refine assign_Tuple_tuple (I.ok.hd hc) ht (by simp [hn, ← hl, rv.length]) hst fun h' hx => ?_
    have I1 : Inv X pins σ H { s with heap := h' } := I.kept (t' := s.toks) fun b o e => hx b o (Nat.ne_of_lt (Heap.lt_size e)) e
    exact h.run pins _ σ H xs _ Q I1 (by simpa using rv) hw
  · obtain ⟨its, rv, ht, hz⟩ := I.list hq
    refine assign_Tuple_lst (I.ok.hd hc) ht.isList (by simp [hn, ← hl, rv.length]) hst fun h' hx => ?_
    have I1 : Inv X pins σ H { s with heap := h' } := I.kept (t' := s.toks) fun b o e => hx b o (Nat.ne_of_lt (Heap.lt_size e)) e
    exact h.run pins _ σ H xs _ Q I1 (by simpa using rv) hw
end
end Mi
namespace Mi
open PySem L2
section
variable {c : Cc} {cf : Cfg} {W : WX} {σ σ' : L2.St} {H H1 H2 H' : Hp} {N : Addr → Prop} {N0 N1 : Addr → Prop} {s s' : Env} {b : Bx} {d : D} {v : V}
theorem get_set {α : Type} {l : List α} {i j : Nat} {x y : α} (h : (l.set i x)[j]? = some y) : (j = i ∧ y = x) ∨ (j ≠ i ∧ l[j]? = some y) := by
  by_cases e : j = i
  · subst e
    by_cases hl : j < l.length
    · rw [List.getElem?_set_self hl] at h
      cases h
      exact .inl ⟨rfl, rfl⟩
    · rw [List.getElem?_eq_none (by simpa using hl)] at h
      cases h
  · rw [List.getElem?_set_ne (Ne.symm e)] at h
    exact .inr ⟨e, h⟩
theorem own_set {i : Nat} {x : Option V} {y : Sl} {a : Addr} (hy : ∀ d, y ≠ .ow d) (h : IsOwn (σ.set i x) (s.set i y) a) : IsOwn σ s a := by
  obtain ⟨j, d, h1, h2⟩ := h
  rcases get_set h1 with ⟨rfl, e⟩ | ⟨ne, h1⟩
  · exact absurd e.symm (hy d)
  · rcases get_set h2 with ⟨e, _⟩ | ⟨_, h2⟩
    · exact absurd e ne
    · exact ⟨j, d, h1, h2⟩
theorem Nof_set {i : Nat} {x : Option V} {y : Sl} {a : Addr} (hy : ∀ d, y ≠ .ow d) (h : Nof N0 (σ.set i x) (s.set i y) a) : Nof N0 σ s a := h.imp id (own_set hy)
theorem Rep.sub {N N' : Addr → Prop} (r : Rep c H N d v) (h : ∀ a, N' a → N a) : Rep c H N' d v := Rep.anti (fun a z => .inl (h a z)) d v r
theorem OwnAt.sub {N N' : Addr → Prop} {a : Addr} (r : OwnAt c H N a d) (h : ∀ a, N' a → N a) : OwnAt c H N' a d := by
  cases d with
  | lst ds =>
    obtain ⟨xs, h1, q⟩ := r
    exact ⟨xs, h1, RepL.anti (fun a z => .inl (h a z)) ds xs q⟩
  | _ => exact r
theorem Rel.setVl (R : Rel c H N0 σ s) (r : Rep c H (Nof N0 σ s) d v) (i : Nat) (hi : i < s.length) : Rel c H N0 (σ.set i (some v)) (s.set i (.vl d)) := by
  have sub : ∀ a, Nof N0 (σ.set i (some v)) (s.set i (.vl d)) a → Nof N0 σ s a := fun a => Nof_set fun d z => nomatch z
  have hσ : i < σ.length := by rw [← R.len]; exact hi
  refine ⟨by simpa using R.len, fun j e h => ?_, fun j e h => ?_, fun j l e f a h1 h2 h3 h4 => ?_, R.dom, R.bet⟩
  · rcases get_set h with ⟨rfl, e⟩ | ⟨ne, h⟩
    · cases e
      exact ⟨v, List.getElem?_set_self hσ, r.sub sub⟩
    · obtain ⟨w, h1, h2⟩ := R.vl j e h
      exact ⟨w, by rw [List.getElem?_set_ne (Ne.symm ne)]; exact h1, h2.sub sub⟩
  · rcases get_set h with ⟨rfl, e⟩ | ⟨ne, h⟩
    · cases e
    · obtain ⟨a, h1, h2, h3⟩ := R.ow j e h
      exact ⟨a, by rw [List.getElem?_set_ne (Ne.symm ne)]; exact h1, h2.sub sub, h3⟩
  · rcases get_set h1 with ⟨_, e⟩ | ⟨n1, h1⟩
    · cases e
    rcases get_set h2 with ⟨_, e⟩ | ⟨n2, h2⟩
    · cases e
    rw [List.getElem?_set_ne (Ne.symm n1)] at h3
    rw [List.getElem?_set_ne (Ne.symm n2)] at h4
    exact R.dis j l e f a h1 h2 h3 h4
/-- a slot forgotten -/
theorem Rel.setNo (R : Rel c H N0 σ s) (i : Nat) : Rel c H N0 (σ.set i none) (s.set i .no) := by
  have sub : ∀ a, Nof N0 (σ.set i none) (s.set i .no) a → Nof N0 σ s a := fun a => Nof_set fun d z => nomatch z
  refine ⟨by simpa using R.len, fun j e h => ?_, fun j e h => ?_, fun j l e f a h1 h2 h3 h4 => ?_, R.dom, R.bet⟩
  · rcases get_set h with ⟨rfl, e⟩ | ⟨ne, h⟩
    · cases e
    · obtain ⟨w, h1, h2⟩ := R.vl j e h
      exact ⟨w, by rw [List.getElem?_set_ne (Ne.symm ne)]; exact h1, h2.sub sub⟩
  · rcases get_set h with ⟨rfl, e⟩ | ⟨ne, h⟩
    · cases e
    · obtain ⟨a, h1, h2, h3⟩ := R.ow j e h
      exact ⟨a, by rw [List.getElem?_set_ne (Ne.symm ne)]; exact h1, h2.sub sub, h3⟩
  · rcases get_set h1 with ⟨_, e⟩ | ⟨n1, h1⟩
    · cases e
    rcases get_set h2 with ⟨_, e⟩ | ⟨n2, h2⟩
    · cases e
    rw [List.getElem?_set_ne (Ne.symm n1)] at h3
    rw [List.getElem?_set_ne (Ne.symm n2)] at h4
    exact R.dis j l e f a h1 h2 h3 h4
/-- the same slots, the box and the heap as they are, forgotten in the text's slots too or not -/
theorem Rel.kill (R : Rel c H N0 σ s) : ∀ is : List Nat, Rel c H N0 (wipe σ is) (s.kill is)
  | [] => R
  | i :: is => (R.kill is).setNo i
theorem wipe_get {is : List Nat} {j : Nat} (h : j ∉ is) : (wipe σ is)[j]? = σ[j]? := by
  induction is with
  | nil => rfl
  | cons i is ih =>
    have h1 : j ≠ i := fun e => h (by simp [e])
    have h2 : j ∉ is := fun e => h (by simp [e])
    unfold wipe
    rw [List.getElem?_set_ne (Ne.symm h1)]
    exact ih h2
theorem kill_get {is : List Nat} {j : Nat} (h : j ∉ is) : (s.kill is)[j]? = s[j]? := by
  induction is with
  | nil => rfl
  | cons i is ih =>
    have h1 : j ≠ i := fun e => h (by simp [e])
    have h2 : j ∉ is := fun e => h (by simp [e])
    unfold Env.kill
    rw [List.getElem?_set_ne (Ne.symm h1)]
    exact ih h2
theorem kill_len (is : List Nat) : (s.kill is).length = s.length := by
  induction is with
  | nil => rfl
  | cons i is ih => unfold Env.kill; rw [List.length_set, ih]
theorem wipe_in {is : List Nat} {j : Nat} (h : j ∈ is) (hj : j < σ.length) : (wipe σ is)[j]? = some none := by
  induction is with
  | nil => cases h
  | cons i is ih =>
    unfold wipe
    by_cases e : j = i
    · subst e
      exact List.getElem?_set_self (by rw [wipe_length]; exact hj)
    · rw [List.getElem?_set_ne (Ne.symm e)]
      exact ih ((List.mem_cons.mp h).resolve_left e)
theorem wipe_eq {is : List Nat} (hl : σ'.length = σ.length) (h : ∀ j, j ∉ is → σ'[j]? = σ[j]?) : wipe σ' is = wipe σ is := by
  refine List.ext_getElem? fun j => ?_
  by_cases hj : j ∈ is
  · by_cases hn : j < σ.length
    · rw [wipe_in hj hn, wipe_in hj (by rw [hl]; exact hn)]
    · rw [List.getElem?_eq_none (by rw [wipe_length]; omega), List.getElem?_eq_none (by rw [wipe_length]; omega)]
  · rw [wipe_get hj, wipe_get hj, h j hj]
/-- an item just made: a tuple of which no more is known -/
def RepI (c : Cc) (H : Hp) (N : Addr → Prop) (d : D) (v : V) : Prop := match d with
  | .tup ds => ∃ a xs, v = .ref a ∧ ¬ N a ∧ Rd H a (.tup xs) ∧ RepL c H N ds xs
  | d => Rep c H N d v
def RepJ (c : Cc) (fl : Bool) (H : Hp) (N : Addr → Prop) (d : D) (v : V) : Prop := match fl with
  | true => RepI c H N d v
  | false => Rep c H N d v
theorem Rep.i (r : Rep c H N d v) : RepI c H N d v := by
  cases d <;> first | exact r | skip
  obtain ⟨a, xs, e, n, h, q⟩ := r
  exact ⟨a, xs, e, n, h.rd, q⟩
theorem Rep.j {fl : Bool} (r : Rep c H N d v) : RepJ c fl H N d v := by
  cases fl
  · exact r
  · exact r.i
def isTupM : MT → Bool
  | .tup _ => true
  | _ => false
theorem RepJ.toT {fl : Bool} {t : MT} (r : RepJ c fl H N d v) (h : fl = true → isTupM t = true) : RepJ c (isTupM t) H N d v := by
  cases fl
  · exact Rep.j r
  · rw [h rfl]; exact r
/-- a reading of a target -/
def rdG (c : Cc) (t : MT) : TG := fun v σ H Q => ∃ N0 s d s', Rel c H N0 σ s ∧ RepJ c (isTupM t) H (Nof N0 σ s) d v ∧ bindT t d s = some s' ∧
  ∀ σ', Rel c H N0 σ' s' → σ'.length = σ.length → (∀ j, j ∉ tSlots t → σ'[j]? = σ[j]? ∧ s'[j]? = s[j]?) → (∀ a, Nof N0 σ' s' a → Nof N0 σ s a) → Q σ' H
def rdGs (c : Cc) (ts : MTs) : TGs := fun vs σ H Q => ∃ N0 s ds s', Rel c H N0 σ s ∧ RepL c H (Nof N0 σ s) ds vs ∧ bindTs ts ds s = some s' ∧
  ∀ σ', Rel c H N0 σ' s' → σ'.length = σ.length → (∀ j, j ∉ tSlotsL ts → σ'[j]? = σ[j]? ∧ s'[j]? = s[j]?) → (∀ a, Nof N0 σ' s' a → Nof N0 σ s a) → Q σ' H
theorem rdG_slot {i : Nat} {Q : L2.St → Hp → Prop} (h : rdG c (.slot i) v σ H Q) : gName i v σ H Q := by
  obtain ⟨N0, s, d, s', R, r, e, h⟩ := h
  have e' : (if i < s.length then some (s.set i (.vl d)) else none) = some s' := e
  split at e'
  · rename_i hi
    cases e'
    refine h _ (R.setVl r i hi) (by simp) (fun j hj => ?_) fun a => Nof_set fun d z => nomatch z
    have : i ≠ j := fun e => hj (by simp [tSlots, e])
    exact ⟨List.getElem?_set_ne this, List.getElem?_set_ne this⟩
  · cases e'
theorem rdGs_nil {vs : List V} {Q : L2.St → Hp → Prop} (h : rdGs c .nil vs σ H Q) : gNil vs σ H Q := by
  obtain ⟨N0, s, ds, s', R, r, e, h⟩ := h
  cases ds with
  | nil =>
    cases r
    cases e
    exact ⟨rfl, h σ R rfl (fun _ _ => ⟨rfl, rfl⟩) fun _ z => z⟩
  | cons d ds => cases e
theorem RepL.sub {ds : List D} {vs : List V} {N N' : Addr → Prop} (r : RepL c H N ds vs) (h : ∀ a, N' a → N a) : RepL c H N' ds vs := RepL.anti (fun a z => .inl (h a z)) ds vs r
theorem rdGs_cons {t : MT} {ts : MTs} {vs : List V} {Q : L2.St → Hp → Prop} (h : rdGs c (.cons t ts) vs σ H Q) : gCons (rdG c t) (rdGs c ts) vs σ H Q := by
  obtain ⟨N0, s, ds, s', R, r, e, h⟩ := h
  cases ds with
  | nil => cases e
  | cons d ds =>
    obtain ⟨v, ws, rfl, h1, h2⟩ := r
    have e' : (match bindT t d s with | some s1 => bindTs ts ds s1 | none => none) = some s' := e
    cases e1 : bindT t d s with
    | none => rw [e1] at e'; cases e'
    | some s1 =>
      rw [e1] at e'
      refine ⟨v, ws, rfl, N0, s, d, s1, R, h1.j, e1, fun σ1 R1 hl hs hn => ?_⟩
      refine ⟨N0, s1, ds, s', R1, h2.sub hn, e', fun σ2 R2 hl2 hs2 hn2 => ?_⟩
      refine h σ2 R2 (hl2.trans hl) (fun j hj => ?_) fun a z => hn a (hn2 a z)
      have hj1 : j ∉ tSlots t := fun z => hj (List.mem_append_left _ z)
      have hj2 : j ∉ tSlotsL ts := fun z => hj (List.mem_append_right _ z)
      exact ⟨(hs2 j hj2).1.trans (hs j hj1).1, (hs2 j hj2).2.trans (hs j hj1).2⟩
def mtLen : MTs → Nat
  | .nil => 0
  | .cons _ r => mtLen r + 1
theorem bindTs_len : ∀ {ts : MTs} {ds : List D} {s s' : Env}, bindTs ts ds s = some s' → ds.length = mtLen ts
  | .nil, [], _, _, _ => rfl
  | .nil, _ :: _, _, _, e => by cases e
  | .cons _ _, [], _, _, e => by cases e
  | .cons t ts, d :: ds, s, s', e => by
    have e' : (match bindT t d s with | some s1 => bindTs ts ds s1 | none => none) = some s' := e
    cases e1 : bindT t d s with
    | none => rw [e1] at e'; cases e'
    | some s1 =>
      rw [e1] at e'
      show ds.length + 1 = mtLen ts + 1
      rw [bindTs_len e']
theorem rdG_tup {ts : MTs} {Q : L2.St → Hp → Prop} {K : PySem.W.Frag} (h : rdG c (.tup ts) v σ H Q) : gSeqT K (mtLen ts) (rdGs c ts) v σ H Q := by
  obtain ⟨N0, s, d, s', R, r, e, h⟩ := h
  cases d <;> first | (cases e; done) | skip
  · obtain ⟨a, xs, rfl, n, h1, q⟩ := r
    have e' : bindTs ts _ s = some s' := e
    exact ⟨a, xs, rfl, .inl (.inl h1), by rw [← q.length]; exact bindTs_len e', N0, s, _, s', R, q, e', h⟩
  · obtain ⟨a, xs, rfl, n, h1, q⟩ := r
    have e' : bindTs ts _ s = some s' := e
    exact ⟨a, xs, rfl, .inr (.inl (.inl h1)), by rw [← q.length]; exact bindTs_len e', N0, s, _, s', R, q, e', h⟩
end
end Mi
namespace Mi
open PySem L2
theorem star_ns {a : Expr} {r : List Expr} {env : PySem.Env} (h : isStar a = false) : starEach (a :: r) env = (false, eval a env) :: starEach r env := by
  cases a <;> first | rfl | cases h
section
variable {c : Cc} {cf : Cfg} {W : WX} {σ σ' : L2.St} {H H1 H2 H' : Hp} {N : Addr → Prop} {N0 N1 : Addr → Prop} {s s' : Env} {b : Bx} {d : D} {v : V}
/-- lists, tuples, texts -/
def iAny (K : PySem.W.Frag) (te : TE) : TI := fun σ H R => te σ H fun x H1 => (∃ a xs, x = .ref a ∧ SqL K H1 a xs ∧ R (Itl K a) H1) ∨ (∃ a xs, x = .ref a ∧ SqT K H1 a xs ∧ R (Itt K a) H1) ∨ (∃ z, x = .str z ∧ R (Its z) H1)
theorem pi_any {X : Cx} {tg l : Expr} {tl : TE} (hl : PE X l tl) : PI X tg l (iAny X.K tl) := by
  refine ⟨fun pins s σ H R I h => ?_⟩
  refine thn (hl.run pins s σ H _ I h) fun v s1 ⟨x, H1, I1, r1, q1⟩ => ?_
  rcases q1 with ⟨a, xs, e, hq, q⟩ | ⟨a, xs, e, hq, q⟩ | ⟨z, e, q⟩
  · subst e
    cases r1
    obtain ⟨its, rv, p, hz⟩ := I1.list hq
    refine wpAny_pyIter_list p.isList ?_
    refine ⟨s1.heap.objs.size, [s1.heap.objs.size], _, _, H1, rfl, I1.kept (t' := s1.toks) fun b o e => Heap.get?_push_of_some _ e, turn_list a _, ⟨_, Heap.get?_push_size _ rfl, rfl, rfl⟩, fun b hb => ?_, q⟩
    have e : b = s1.heap.objs.size := by simpa using hb
    subst e
    exact I1.fpOk (Nat.le_refl _) (I1.hok.fresh (Nat.le_refl _))
  · subst e
    cases r1
    obtain ⟨its, rv, p, hz⟩ := I1.tuple hq
    refine wpAny_pyIter_tuple (show s1.heap.IsTuple a its.toArray from p) ?_
    refine ⟨s1.heap.objs.size, [s1.heap.objs.size], _, _, H1, rfl, I1.kept (t' := s1.toks) fun b o e => Heap.get?_push_of_some _ e, turn_tuple a _, ⟨_, Heap.get?_push_size _ rfl, rfl, rfl⟩, fun b hb => ?_, q⟩
    have e : b = s1.heap.objs.size := by simpa using hb
    subst e
    exact I1.fpOk (Nat.le_refl _) (I1.hok.fresh (Nat.le_refl _))
  · subst e
    obtain ⟨t, rfl⟩ := r1
    cases ha : z.cps.all (· < 128)
    · exact wpAny_pyIter_wide ha (pi_one (tk := s1.toks) I1 _ (turn_str _ z t "str_iterator" (.inr rfl)) ⟨_, Heap.get?_push_size _ rfl, rfl, rfl⟩ q)
    · exact wpAny_pyIter_ascii ha (pi_one (tk := s1.toks) I1 _ (turn_str _ z t "str_ascii_iterator" (.inl rfl)) ⟨_, Heap.get?_push_size _ rfl, rfl, rfl⟩ q)
/-- where N2 stands for what is protected -/
def selN (w : Bool) (N0 N : Addr → Prop) : Addr → Prop := if w = true then N0 else N
/-- a value, weakly or not -/
abbrev pV (c : Cc) (w : Bool) : Hp → Hp → (Addr → Prop) → (Addr → Prop) → D → V → Prop := fun _ H' N0 N d v => RepW c H' (selN w N0 N) N d v
/-- a source: the items ds come one by one while what N2 does not protect stays -/
def Src (c : Cc) (fl : Bool) (N2 N : Addr → Prop) (H' : Hp) (ds : List D) (J : It) : Prop := ∃ (n : Nat) (G : Hp → Prop) (Y : Nat → Hp → V → Hp → Prop), n = ds.length ∧ Walk J n G Y ∧ (∀ H2, KeepN N2 H' H2 → G H2) ∧
  ∀ i H2 x H3 d (N3 : Addr → Prop), KeepN N2 H' H2 → (∀ a, N3 a → N a ∨ H' a = none) → (∀ a, N3 a → H2 a ≠ none) → (∀ b, c.β = some b → N3 b) → ds[i]? = some d → Y i H2 x H3 →
    (∀ a o, H2 a = some o → H3 a = some o) ∧ RepJ c fl H3 N3 d x
abbrev pS (c : Cc) (w fl : Bool) : Hp → Hp → (Addr → Prop) → (Addr → Prop) → List D → It → Prop := fun _ H' N0 N ds J => Src c fl (selN w N0 N) N H' ds J
theorem sel_sub {w : Bool} (h : ∀ a, N0 a → N a) : ∀ a, selN w N0 N a → N a := by
  intro a z
  unfold selN at z
  split at z
  · exact h a z
  · exact z
/-- an item later -/
theorem Rep.move {N2 N3 : Addr → Prop} (r : Rep c H' N d v) (k : KeepN N2 H' H2) (h2 : ∀ a, N2 a → N a) (h3 : ∀ a, N3 a → N a ∨ H' a = none) : Rep c H2 N3 d v := by
  have r1 : Rep c H' (fun a => N a ∨ N3 a) d v := Rep.anti (fun a z => z.elim .inl (h3 a)) d v r
  have r2 := Rep.keepN (N := fun a => N a ∨ N3 a) (fun a o n h => k a o (fun z => n (.inl (h2 a z))) h) d v r1
  exact r2.sub fun a z => .inr z
theorem RepL.move {N2 N3 : Addr → Prop} {ds : List D} {vs : List V} (r : RepL c H' N ds vs) (k : KeepN N2 H' H2) (h2 : ∀ a, N2 a → N a) (h3 : ∀ a, N3 a → N a ∨ H' a = none) : RepL c H2 N3 ds vs := by
  have r1 : RepL c H' (fun a => N a ∨ N3 a) ds vs := RepL.anti (fun a z => z.elim .inl (h3 a)) ds vs r
  have r2 := RepL.keepN (N := fun a => N a ∨ N3 a) (fun a o n h => k a o (fun z => n (.inl (h2 a z))) h) ds vs r1
  exact r2.sub fun a z => .inr z
theorem get_both {ds : List D} {vs : List V} {i : Nat} {d : D} {x : V} (r : RepL c H N ds vs) (h1 : ds[i]? = some d) (h2 : vs[i]? = some x) : Rep c H N d x := by
  obtain ⟨v, e, q⟩ := r.get h1
  rw [e] at h2
  cases h2
  exact q
variable {N2 : Addr → Prop}
theorem src_lst {a : Addr} {fl : Bool} {vs : List V} {ds : List D} {K : PySem.W.Frag} (hs : ∀ a, N2 a → N a) (n : ¬ N2 a) (h1 : H' a = some (.lst vs)) (q : RepL c H' N ds vs) : Src c fl N2 N H' ds (Itl K a) :=
  ⟨vs.length, _, _, q.length.symm, walk_list, fun H2 k => .of (k a _ n h1), fun i H2 x H3 d N3 k h3 _ _ e y => by
    obtain ⟨rfl, y⟩ := y
    exact ⟨fun _ _ h => h, ((get_both q e y).move k hs h3).j⟩⟩
theorem src_tup {a : Addr} {fl : Bool} {vs : List V} {ds : List D} {K : PySem.W.Frag} (hs : ∀ a, N2 a → N a) (n : ¬ N2 a) (h1 : TupAt H' a vs) (q : RepL c H' N ds vs) : Src c fl N2 N H' ds (Itt K a) :=
  ⟨vs.length, _, _, q.length.symm, walk_tup, fun H2 k => (h1.mp fun o => k a o n).sq, fun i H2 x H3 d N3 k h3 _ _ e y => by
    obtain ⟨rfl, y⟩ := y
    exact ⟨fun _ _ h => h, ((get_both q e y).move k hs h3).j⟩⟩
theorem src_str {z : Str} {fl : Bool} (hz : strFits z = true) : Src c fl N2 N H' (strItems z) (Its z) :=
  ⟨z.cps.size, _, _, by simp [strItems], walk_str, fun _ _ => trivial, fun i H2 x H3 d N3 k h3 _ _ e y => by
    obtain ⟨rfl, ch, h1, rfl⟩ := y
    refine ⟨fun _ _ h => h, ?_⟩
    unfold strItems at e
    rw [List.getElem?_map, Array.getElem?_toList, h1] at e
    cases e
    refine Rep.j ⟨rfl, one_fits hz ?_⟩
    have := Array.mem_of_getElem? h1
    simpa using this⟩
theorem src_range {lo : Int} {n : Nat} {fl : Bool} : Src c fl N2 N H' (upTo lo n) (Itr lo n) :=
  ⟨n, _, _, by simp [upTo], walk_range, fun _ _ => trivial, fun i H2 x H3 d N3 k h3 _ _ e y => by
    obtain ⟨rfl, rfl⟩ := y
    refine ⟨fun _ _ h => h, ?_⟩
    unfold upTo at e
    rw [List.getElem?_map] at e
    by_cases hi : i < n
    · rw [List.getElem?_range hi] at e
      cases e
      exact Rep.j (d := .int (lo + (i : Int))) rfl
    · rw [List.getElem?_eq_none (by simpa using hi)] at e
      cases e⟩
theorem enum_get : ∀ {ds : List D} {k i : Nat} {d : D}, (enumD k ds)[i]? = some d → ∃ x, ds[i]? = some x ∧ d = .tup [.int ((k + i : Nat) : Int), x]
  | [], _, _, _, h => by simp [enumD] at h
  | y :: ds, k, 0, d, h => by
    simp [enumD] at h
    exact ⟨y, by simp, by simp [← h]⟩
  | y :: ds, k, i + 1, d, h => by
    obtain ⟨x, h1, h2⟩ := enum_get (ds := ds) (k := k + 1) (i := i) (d := d) (by simpa [enumD] using h)
    exact ⟨x, by simpa using h1, by rw [h2]; congr 4; omega⟩
theorem enum_len : ∀ {ds : List D} {k : Nat}, (enumD k ds).length = ds.length
  | [], _ => rfl
  | _ :: ds, k => by simp [enumD, enum_len (ds := ds)]
theorem pair_new {T : Addr} {N3 : Addr → Prop} {x y : D} {u v : V} (hT : H2 T = none) (h4 : ∀ a, N3 a → H2 a ≠ none) (h5 : ∀ b, c.β = some b → N3 b) (r1 : Rep c H2 N3 x u) (r2 : Rep c H2 N3 y v) :
    (∀ a o, H2 a = some o → upd H2 T (.tup [u, v]) a = some o) ∧ RepJ c true (upd H2 T (.tup [u, v])) N3 (.tup [x, y]) (.ref T) := by
  refine ⟨same_laid hT, T, _, rfl, fun z => h4 T z hT, .inl upd_same, ?_⟩
  exact RepL.keep (.laid hT) h5 ⟨u, _, rfl, r1, v, _, rfl, r2, rfl⟩
theorem src_enumL {a : Addr} {vs : List V} {ds : List D} {K : PySem.W.Frag} (hs : ∀ a, N2 a → N a) (n : ¬ N2 a) (h1 : H' a = some (.lst vs)) (q : RepL c H' N ds vs) : Src c true N2 N H' (enumD 0 ds) (Ite K a) :=
  ⟨vs.length, _, _, by rw [enum_len, q.length], walk_enum, fun H2 k => .of (k a _ n h1), fun i H2 x H3 d N3 k h3 h4 h5 e y => by
    obtain ⟨T, u, w, rfl, hT, rfl, e1, e2⟩ := y
    obtain ⟨z, e3, rfl⟩ := enum_get e
    cases e1
    rw [Nat.zero_add]
    exact pair_new hT h4 h5 rfl ((get_both q e3 e2).move k hs h3)⟩
theorem zip_get : ∀ {xs ys : List D} {i : Nat} {d : D}, (zipD xs ys)[i]? = some d → ∃ x y, xs[i]? = some x ∧ ys[i]? = some y ∧ d = .tup [x, y]
  | [], _, _, _, h => by simp [zipD] at h
  | _ :: _, [], _, _, h => by simp [zipD] at h
  | x :: xs, y :: ys, 0, d, h => by
    simp [zipD] at h
    exact ⟨x, y, by simp, by simp, h.symm⟩
  | x :: xs, y :: ys, i + 1, d, h => by
    obtain ⟨u, v, h1, h2, h3⟩ := zip_get (xs := xs) (ys := ys) (i := i) (d := d) (by simpa [zipD] using h)
    exact ⟨u, v, by simpa using h1, by simpa using h2, h3⟩
theorem zip_len : ∀ {xs ys : List D}, (zipD xs ys).length = min xs.length ys.length
  | [], _ => by simp [zipD]
  | _ :: _, [] => by simp [zipD]
  | x :: xs, y :: ys => by simp [zipD, zip_len (xs := xs) (ys := ys)]
end
section
open PySem PySem.Spec PyProof.Rows
set_option maxHeartbeats 4000000 in
theorem meets_enum_1 {v : Value} {o : Obj} {H : Heap → Prop} (B : Begins v o H) :
    Meets (Builtin.«enumerate.__new__» ⟨[.type "enumerate", v], []⟩) (fun _ R s => H s.heap ∧
      R (.ok (.ret (.ref (s.heap.push o).objs.size))) { s with heap := (s.heap.push o).push { cls := .type "enumerate", data := .fields #[.none, .bool false, .ref s.heap.objs.size, rawInt 0, .none, .none] } }) :=
  .of_wp fun prog w A R s h => by
    obtain ⟨hp, g, d, tk, os⟩ := s; obtain ⟨h1, h⟩ := h
    have hsub := sub_enumerate
    have q1 : ∀ {A' : Around} {E : Value → Shared → Prop} {Q : Value → Shared → Prop}, Q (.ref hp.objs.size) ⟨hp.push o, g, d, tk, os⟩ → wpAny (model prog w) A' (pyIter v) Q E ⟨hp, g, d, tk, os⟩ :=
      fun q => B.iter prog w _ _ ⟨hp, g, d, tk, os⟩ _ h1 q
    wp_walk using q1
    refine wpAny_stack_any fun st => wpAny_pure ?_
    split
    · rename_i c _ _ _ _ _
      cases (c == Value.type "enumerate")
      · wp_walk using q1
        exact ⟨_, rfl, h⟩
      · wp_walk using q1
        exact ⟨_, rfl, h⟩
    · wp_walk using q1
      exact ⟨_, rfl, h⟩
theorem enum_begins1 {prog : Program} {w : World} {A : Around} {E : Value → Shared → Prop} {s : Shared} {v : Value} {o : Obj} {H : Heap → Prop} {Q : Value → Shared → Prop} (B : Begins v o H) (h1 : H s.heap)
    (h : ∀ h', IsEnum h' (s.heap.objs.size + 1) s.heap.objs.size 0 .none → h'.get? s.heap.objs.size = some o → h'.objs.size = s.heap.objs.size + 2 →
      (∀ b o, s.heap.get? b = some o → h'.get? b = some o) → Q (.ref (s.heap.objs.size + 1)) { s with heap := h' }) :
    wpAny (model prog w) A (call (.type "enumerate") [v]) Q E s := by
  refine callType_new F.called_enumerate (by decide) (F.typeCall_enumerate_1 _) (F.newCall_enumerate_1 _) (fun obj => F.args_object_init_2 obj _) F.entry_enumerate_new
    (meets_enum_1 B) ⟨h1, ?_⟩
  have hz : (s.heap.push o).objs.size = s.heap.objs.size + 1 := Heap.size_push ..
  show _ ∧ _
  rw [hz]
  have he : IsEnum ((s.heap.push o).push { cls := .type "enumerate", data := .fields #[.none, .bool false, .ref s.heap.objs.size, rawInt 0, .none, .none] }) (s.heap.objs.size + 1) s.heap.objs.size 0 .none := by
    have := Heap.get?_push_size (s.heap.push o) (o := { cls := .type "enumerate", data := .fields #[.none, .bool false, .ref s.heap.objs.size, rawInt 0, .none, .none] }) rfl
    rw [hz] at this; exact this
  refine ⟨⟨_, he, rfl⟩, h _ he (Heap.get?_push_of_some _ (Heap.get?_push_size _ B.free)) (by rw [Heap.size_push, hz]) fun b o x => Heap.get?_push_of_some _ (Heap.get?_push_of_some _ x)⟩
/-- the tuple at a, each item in a new pair -/
def IteT (K : PySem.W.Frag) (a : Addr) : It :=
  ⟨fun i H => ∃ (xs : List V) (x : V), SqT K H a xs ∧ xs[i]? = some x, fun i H v H' => ∃ T x, v = .ref T ∧ H T = none ∧ H' = upd H T (.tup [.int (i : Nat), x]) ∧ ∀ xs, SqT K H a xs → xs[i]? = some x, fun i H => ∃ xs : List V, SqT K H a xs ∧ xs.length ≤ i⟩
theorem turn_enumT {P : Program} {w : World} {K : PySem.W.Frag} {elts : List Expr} {kk : Nat} {tpos : Pos} (a e it : Addr) (hne : e ≠ it) (hae : a ≠ e) (hai : a ≠ it) :
    Turn P w K (.Tuple elts kk tpos) (IteT K a) [e, it] e (fun i h => (∃ old, IsEnum h e it ((i : Nat) : Int) old) ∧ h.IsTupleIter it a i) where
  mem := by simp
  obj := fun i h st b hb => by
    obtain ⟨⟨old, he⟩, ⟨o, ho, hc, hd⟩⟩ := st
    have e' : b = e ∨ b = it := by simpa using hb
    rcases e' with z | z
    · rw [z]; exact ⟨_, he, fun v q => nomatch q⟩
    · rw [z]; exact ⟨o, ho, fun v q => by rw [hd] at q; cases q⟩
  keep := fun i h h' st k => let ⟨⟨old, he⟩, hi⟩ := st; ⟨⟨old, k e (by simp) _ he⟩, hi.at fun o q => k it (by simp) o q⟩
  item := by
    intro X hP hw hK hc i pins s σ H E I hf st hg
    subst hP hw hK
    obtain ⟨⟨old, he⟩, hit⟩ := st
    obtain ⟨xs, x, hq, hx⟩ := hg
    obtain ⟨its, rv, p, hz⟩ := I.tuple hq
    obtain ⟨u, hu, ru⟩ := rv.get hx
    have pT : s.heap.IsTuple a its.toArray := p
    have hel : e < s.heap.objs.size := Heap.lt_size he
    have hil : it < s.heap.objs.size := by obtain ⟨_, q, _⟩ := hit; exact Heap.lt_size q
    have hlen : i < its.toArray.size := by
      have := rv.length
      have h1 := (List.getElem?_eq_some_iff.mp hx).1
      simp; omega
    refine wpAny_pyNext_enum_itemC (Draws.tuple (A := X.A.in1) (I.ok.hd hc) it a hai its.toArray) he ⟨hit, pT⟩ hlen hne (by simp; exact ⟨hne, Ne.symm hae⟩) fun u' h' tk hP ho hit' hT hsz hk => ?_
    have eu : u' = u := by
      have hP : its.toArray[i]? = some u' := hP
      have h2 : its[i]? = some u' := by simpa using hP
      rw [hu] at h2
      exact (Option.some.inj h2).symm
    subst eu
    obtain ⟨hit', _⟩ := hit'
    refine ⟨_, rfl, wpAny_letOwnedTupleGo_enum (s := { s with heap := h', toks := tk + 1 }) ho fun h'' he' sb => ?_⟩
    have hT2 : h''.get? s.heap.objs.size = some { cls := .type "tuple", data := .seq #[.int i tk, u'] } := (sb.2 _ (Nat.ne_of_gt hel)).trans hT
    have new : ObjOk X.prog X.w (upd H s.heap.objs.size (.tup [.int (i : Nat), x])) h'' s.heap.objs.size (.tup [.int (i : Nat), x]) :=
      ⟨by show 2 ≤ sizeLine; decide, [.int i tk, u'], .cons ⟨_, rfl⟩ (.cons ru .nil), ⟨_, hT2, rfl, _, rfl⟩⟩
    have I1 : Inv X pins σ (upd H s.heap.objs.size (.tup [.int (i : Nat), x])) { s with heap := h'', toks := tk + 1 } :=
      I.turnedNew (ch := [e, it]) (fun b ob hb q => (sb.2 b (fun z => hb (by simp [z]))).trans (hk b ob (fun z => hb (by simp [z])) (fun z => hb (by simp [z])) q)) hf (Nat.le_refl _) new
    refine ⟨.ref s.heap.objs.size, _, I1, rfl, ⟨_, x, rfl, I.hok.fresh (Nat.le_refl _), rfl, fun ys hy => by rw [I.tuple_inj hy hq]; exact hx⟩, ⟨⟨u', ?_⟩, hit'.at fun o q => (sb.2 it (Ne.symm hne)).trans q⟩, fun b hb => ?_⟩
    · have e1 : ((i + 1 : Nat) : Int) = (i : Int) + 1 := by omega
      rw [e1]; exact he'
    · have hb' : b < s.heap.objs.size := by
        have e' : b = e ∨ b = it := by simpa using hb
        rcases e' with z | z
        · rw [z]; exact hel
        · rw [z]; exact hil
      rw [upd_ne (Nat.ne_of_lt hb')]
      exact (hf b hb).1
  done := by
    intro X hP hw hK hc i pins s σ H E I hf st hg
    subst hP hw hK
    obtain ⟨⟨old, he⟩, hit⟩ := st
    obtain ⟨xs, hq, hx⟩ := hg
    obtain ⟨its, rv, p, hz⟩ := I.tuple hq
    have pT : s.heap.IsTuple a its.toArray := p
    have hl := rv.length
    have hT : s.TypeIs (.ref e) "enumerate" := ⟨_, he, rfl⟩
    unfold pyNext
    refine wpAny_bind (wpAny_attempt (wpAny_callSpecial?_slot (name := Str.ofString "__next__") hT F.slot_enumerate_next
      (wpAny_call_entry F.slot_enumerate_next hT F.entry_enumerate_next ?_ (F.args_enumerate_next_1 _))))
    show wpAny _ _ (field (.ref e) 2 >>= _) _ _ _
    refine wpAny_bind (wpAny_field he rfl (x := .ref it) rfl ?_)
    refine wpAny_bind (wpAny_nextOf_tuple_end (I.ok.hd hc) hit pT (by simp; omega) fun h' x eb hx' => ?_)
    obtain ⟨o, ho, hc⟩ := hx'
    refine wpAny_bind (wpAny_isInstance (T := "StopIteration") (b := true) ⟨o, ho, hc⟩ isSubtype_stop ?_)
    obtain ⟨f0, f1, f2, f3, f4, f5⟩ := hf it (by simp)
    exact wpAny_pure ⟨rfl, I.turned (t' := s.toks) (fun b o hb q => eb b o hb q) f0 f1 f3 f4 f5⟩
  self := fun A i s Q E st h => let ⟨⟨_, he⟩, _⟩ := st; wpAny_pyIter_enum he h
def iEnumA (K : PySem.W.Frag) (ta : TA) : TI := fun σ H R => ta σ H fun vs H1 => ∃ a xs, vs = [.ref a] ∧ ((SqL K H1 a xs ∧ R (Ite K a) H1) ∨ (SqT K H1 a xs ∧ R (IteT K a) H1))
theorem pi_enumA {X : Cx} {e : Expr} {ta : TA} {p pos tpos : Pos} {elts : List Expr} {kk : Nat} (hg : Gl X "enumerate") (hm : X.mg "enumerate" = none) (ha : PA X [e] ta) (hs : starEach [e] X.env = [(false, eval e X.env)] := by rfl) :
    PI X (.Tuple elts kk tpos) (.Call (.Name "enumerate" p) [e] [] pos) (iEnumA X.K ta) := by
  refine ⟨fun pins s σ H R I h => ?_⟩
  refine Call_ (ld_blt I hg hm boot_enumerate (PyProof.Rows.callWith_type1 (thn (ha.run pos pins s σ H _ I h) fun us s1 ⟨vs, H1, I1, r1, q1⟩ => ?_) hs rfl))
  obtain ⟨a, xs, ex, q1⟩ := q1
  subst ex
  have fresh2 : ∀ b ∈ [s1.heap.objs.size + 1, s1.heap.objs.size], FpOk X pins H1 b := fun b hb => by
    have e' : b = s1.heap.objs.size + 1 ∨ b = s1.heap.objs.size := by simpa using hb
    have hle : s1.heap.objs.size ≤ b := by
      rcases e' with z | z
      · rw [z]; exact Nat.le_add_right _ _
      · rw [z]; exact Nat.le_refl _
    exact I1.fpOk hle (I1.hok.fresh hle)
  cases r1 with
  | cons r rr =>
    cases rr
    cases r
    rcases q1 with ⟨hq, q⟩ | ⟨hq, q⟩
    · obtain ⟨its, rv, p', hz⟩ := I1.list hq
      refine call_enumerate_list p'.isList fun h' he hit hsz hk => wpAny_pyIter_enum he ?_
      have I2 : Inv X pins σ H1 { s1 with heap := h' } := I1.kept (t' := s1.toks) hk
      exact ⟨s1.heap.objs.size + 1, [s1.heap.objs.size + 1, s1.heap.objs.size], _, _, H1, rfl, I2, turn_enum a (s1.heap.objs.size + 1) s1.heap.objs.size, ⟨⟨.none, he⟩, hit, Nat.succ_ne_self _⟩, fresh2, q⟩
    · obtain ⟨its, rv, p', hz⟩ := I1.tuple hq
      have pT : s1.heap.IsTuple a its.toArray := p'
      have la : a < s1.heap.objs.size := by obtain ⟨o1, ho1, _⟩ := id p'; exact Heap.lt_size ho1
      refine enum_begins1 (begins_tuple a its.toArray) pT fun h' he hit hsz hk => wpAny_pyIter_enum he ?_
      have I2 : Inv X pins σ H1 { s1 with heap := h' } := I1.kept (t' := s1.toks) hk
      exact ⟨s1.heap.objs.size + 1, [s1.heap.objs.size + 1, s1.heap.objs.size], _, _, H1, rfl, I2, turn_enumT a (s1.heap.objs.size + 1) s1.heap.objs.size (Nat.succ_ne_self _) (Nat.ne_of_lt (Nat.lt_succ_of_lt la)) (Nat.ne_of_lt la), ⟨⟨.none, he⟩, ⟨_, hit, rfl, rfl⟩⟩, fresh2, q⟩
theorem walk_enumT {K : PySem.W.Frag} {a : Addr} {xs : List V} : Walk (IteT K a) xs.length (fun H => SqT K H a xs) (YPair (fun i => some (.int (i : Nat))) (fun i => xs[i]?)) := by
  refine ⟨fun i _ hi q => ⟨xs, xs[i], q, by simp [hi]⟩, fun _ q => ⟨xs, q, Nat.le_refl _⟩, fun i H v H' _ q y => ?_⟩
  obtain ⟨T, x, h1, h2, h3, h4⟩ := y
  exact ⟨T, .int (i : Nat), x, h1, h2, h3, rfl, h4 xs q⟩
end
section
variable {c : Cc} {H' : Hp} {N N2 : Addr → Prop}
theorem src_enumT {a : Addr} {vs : List V} {ds : List D} {K : PySem.W.Frag} (hs : ∀ a, N2 a → N a) (n : ¬ N2 a) (h1 : TupAt H' a vs) (q : RepL c H' N ds vs) : Src c true N2 N H' (enumD 0 ds) (IteT K a) :=
  ⟨vs.length, _, _, by rw [enum_len, q.length], walk_enumT, fun H2 k => (h1.mp fun o => k a o n).sq, fun i H2 x H3 d N3 k h3 h4 h5 e y => by
    obtain ⟨T, u, w, rfl, hT, rfl, e1, e2⟩ := y
    obtain ⟨z, e3, rfl⟩ := enum_get e
    cases e1
    rw [Nat.zero_add]
    exact pair_new hT h4 h5 rfl ((get_both q e3 e2).move k hs h3)⟩
end
end Mi
namespace Mi
open PySem PyProof.Rows L2
/-- one of what is zipped: its iterator, itself, a tuple or a list, its items -/
structure Arm where
  it : Addr
  l : Addr
  b : Bool
  xs : Array Value
def Arm.seqAt (a : Arm) (h : Heap) : Prop := match a.b with
  | true => h.IsTuple a.l a.xs
  | false => h.IsList a.l a.xs
def Arm.itAt (a : Arm) (i : Nat) (h : Heap) : Prop := match a.b with
  | true => h.IsTupleIter a.it a.l i
  | false => h.IsListIter a.it a.l i
theorem Arm.seqAt.mv {a : Arm} {h h' : Heap} (p : a.seqAt h) (k : ∀ o, h.get? a.l = some o → h'.get? a.l = some o) : a.seqAt h' := by
  unfold Arm.seqAt at p ⊢
  cases e : a.b <;> rw [e] at p <;> exact let ⟨o, ho, r⟩ := p; ⟨o, k o ho, r⟩
theorem Arm.itAt.mv {a : Arm} {i : Nat} {h h' : Heap} (p : a.itAt i h) (k : ∀ o, h.get? a.it = some o → h'.get? a.it = some o) : a.itAt i h' := by
  unfold Arm.itAt at p ⊢
  cases e : a.b <;> rw [e] at p <;> exact let ⟨o, ho, r⟩ := p; ⟨o, k o ho, r⟩
theorem Arm.itAt.obj {a : Arm} {i : Nat} {h : Heap} (p : a.itAt i h) : ∃ o, h.get? a.it = some o ∧ ∀ v, o.data ≠ .cell v := by
  unfold Arm.itAt at p
  cases e : a.b <;> rw [e] at p <;> exact let ⟨o, ho, _, d⟩ := p; ⟨o, ho, fun v q => by rw [d] at q; cases q⟩
section
variable {prog : Program} {w : World} {A : Around} {E : Value → Shared → Prop} {s : Shared}
theorem arm_item {a : Arm} {i : Nat} {x : Value} {Q : Value → Shared → Prop} (h1 : a.itAt i s.heap) (h2 : a.seqAt s.heap) (hx : a.xs[i]? = some x)
    (hQ : ∀ h', a.itAt (i + 1) h' → Heap.SameBut a.it s.heap h' → Q x { s with heap := h' }) : wpAny (model prog w) A (Builtin.SmallTypes.nextOf (.ref a.it)) Q E s := by
  unfold Arm.itAt at h1 hQ
  unfold Arm.seqAt at h2
  cases e : a.b <;> rw [e] at h1 h2 hQ
  · exact wpAny_nextOf_list_item h1 h2 hx hQ
  · exact RZ.nextOf_tuple_item h1 h2 hx hQ
theorem arm_end {a : Arm} {i : Nat} {Q : Value → Shared → Prop} (hh : A.handled = none) (h1 : a.itAt i s.heap) (h2 : a.seqAt s.heap) (hx : a.xs[i]? = none)
    (hE : ∀ h' e, Heap.ExtBut a.it s.heap h' → (∃ o, h'.get? e = some o ∧ o.cls = .type "StopIteration") → E (.ref e) { s with heap := h' }) : wpAny (model prog w) A (Builtin.SmallTypes.nextOf (.ref a.it)) Q E s := by
  unfold Arm.itAt at h1
  unfold Arm.seqAt at h2
  cases e : a.b <;> rw [e] at h1 h2
  · exact wpAny_nextOf_list_end hh h1 h2 hx hE
  · exact RZ.nextOf_tuple_end hh h1 h2 hx hE
end
/-- all stand apart -/
structure Apart (z TI TO : Addr) (arms : List Arm) : Prop where
  c1 : TI ≠ z
  c2 : TO ≠ z
  c3 : TI ≠ TO
  c4 : ∀ a ∈ arms, a.it ≠ z ∧ a.it ≠ TI ∧ a.it ≠ TO
  c5 : (arms.map Arm.it).Nodup
  c6 : ∀ a ∈ arms, a.l ≠ z ∧ a.l ≠ TO ∧ ∀ b ∈ arms, a.l ≠ b.it
abbrev TupObj (h : Heap) (T : Addr) (vs : Array Value) : Prop := h.get? T = some { cls := .type "tuple", data := .seq vs }
/-- in the midst of a turn: n items are drawn -/
structure Mid (z TI TO : Addr) (arms : List Arm) (i : Nat) (h0 : Heap) (n : Nat) (h : Heap) : Prop where
  zz : IsZip h z TI TO .ellipsis
  to : ∃ vs : Array Value, vs.size = arms.length ∧ TupObj h TO vs ∧ ∀ j a, j < n → arms[j]? = some a → vs[j]? = a.xs[i]?
  lo : ∀ j a, j < n → arms[j]? = some a → a.itAt (i + 1) h
  hi : ∀ j a, n ≤ j → arms[j]? = some a → a.itAt i h
  sz : h.objs.size = h0.objs.size
  kp : ∀ c o, c ≠ z → c ≠ TO → (∀ a ∈ arms, c ≠ a.it) → h0.get? c = some o → h.get? c = some o
theorem Apart.ne {z TI TO : Addr} {arms : List Arm} (D : Apart z TI TO arms) {i j : Nat} {a b : Arm} (h1 : arms[i]? = some a) (h2 : arms[j]? = some b) (h : i ≠ j) : a.it ≠ b.it := fun e => by
  obtain ⟨l1, q1⟩ := List.getElem?_eq_some_iff.mp h1
  obtain ⟨l2, q2⟩ := List.getElem?_eq_some_iff.mp h2
  have p := List.pairwise_iff_getElem.mp D.c5
  rcases Nat.lt_or_gt_of_ne h with g | g
  · exact p i j (by simpa using l1) (by simpa using l2) g (by simp [q1, q2, e])
  · exact p j i (by simpa using l2) (by simpa using l1) g (by simp [q1, q2, e])
section
variable {prog : Program} {w : World} {A : Around} {E : Value → Shared → Prop} {s : Shared}
theorem upd_tup {T : Addr} {vs : Array Value} {k : Nat} {x : Value} {Q : Unit → Shared → Prop} (hT : TupObj s.heap T vs) (hs : vs.size ≤ 100)
    (h : ∀ h', TupObj h' T (vs.setIfInBounds k x) → Heap.SameBut T s.heap h' → Q () { s with heap := h' }) : wpAny (model prog w) A (updateSeq T (·.setIfInBounds k x)) Q E s := by
  have big : (100 : Nat) ≤ sizeLine := by decide
  refine wpAny_updateSeq hT rfl (h _ ?_ (Heap.SameBut.update ..)) (Nat.le_trans hs big) (by rw [Array.size_setIfInBounds]; exact Nat.le_succ_of_le (Nat.le_trans hs big))
  unfold TupObj
  rw [Heap.get?_update_self _ hT rfl]
  simp [Obj.mapSeq]
/-- the heap when one more item is drawn -/
theorem Mid.next {z TI TO : Addr} {arms : List Arm} {i n : Nat} {h0 h h1 h2 : Heap} {a : Arm} {x : Value} {vs : Array Value} (D : Apart z TI TO arms) (m : Mid z TI TO arms i h0 n h) (ha : arms[n]? = some a) (hx : a.xs[i]? = some x)
    (it1 : a.itAt (i + 1) h1) (s1 : Heap.SameBut a.it h h1) (v1 : vs.size = arms.length) (v2 : ∀ j a, j < n → arms[j]? = some a → vs[j]? = a.xs[i]?) (t2 : TupObj h2 TO (vs.setIfInBounds n x)) (s2 : Heap.SameBut TO h1 h2) : Mid z TI TO arms i h0 (n + 1) h2 := by
  have am := List.mem_of_getElem? ha
  have hn : n < arms.length := (List.getElem?_eq_some_iff.mp ha).1
  have up : ∀ c o, c ≠ TO → c ≠ a.it → h.get? c = some o → h2.get? c = some o := fun c o g1 g2 e => s2.extBut _ _ g1 (s1.extBut _ _ g2 e)
  refine ⟨up _ _ D.c2.symm (D.c4 a am).1.symm m.zz, ⟨_, by rw [Array.size_setIfInBounds]; exact v1, t2, fun j b hj hb => ?_⟩, fun j b hj hb => ?_, fun j b hj hb => ?_, by rw [s2.1, s1.1]; exact m.sz, fun c o g1 g2 g3 e => up c o g2 (g3 a am) (m.kp c o g1 g2 g3 e)⟩
  · rw [Array.getElem?_setIfInBounds]
    by_cases e : n = j
    · subst e
      have eb : b = a := Option.some.inj (hb.symm.trans ha)
      subst eb
      rw [if_pos rfl, if_pos (by omega), hx]
    · rw [if_neg e]
      exact v2 j b (by omega) hb
  · by_cases e : n = j
    · subst e
      have eb : b = a := Option.some.inj (hb.symm.trans ha)
      subst eb
      exact it1.mv fun o q => s2.extBut _ _ (D.c4 b am).2.2 q
    · exact (m.lo j b (by omega) hb).mv fun o q => up _ o (D.c4 b (List.mem_of_getElem? hb)).2.2 (D.ne hb ha fun z => e z.symm) q
  · exact (m.hi j b (by omega) hb).mv fun o q => up _ o (D.c4 b (List.mem_of_getElem? hb)).2.2 (D.ne hb ha (by omega)) q
def refsOf (arms : List Arm) : Array Value := (arms.map fun a => Value.ref a.it).toArray
/-- an object whose own turn is ahead -/
structure Ready (z TI TO : Addr) (arms : List Arm) (i : Nat) (h : Heap) : Prop where
  zz : IsZip h z TI TO .none
  ti : TupObj h TI (refsOf arms)
  to : ∃ vs : Array Value, vs.size = arms.length ∧ TupObj h TO vs
  cur : ∀ a ∈ arms, a.itAt i h
theorem drop_zipIdx {α : Type} {xs : List α} {n : Nat} {p : α × Nat} {r : List (α × Nat)} (h : p :: r = xs.zipIdx.drop n) : n < xs.length ∧ (∃ x, xs[n]? = some x ∧ p = (x, n)) ∧ r = xs.zipIdx.drop (n + 1) := by
  have hl : n < xs.zipIdx.length := by
    have := congrArg List.length h
    rw [List.length_cons, List.length_drop] at this
    omega
  rw [List.drop_eq_getElem_cons hl] at h
  injection h with e1 e2
  have hl' : n < xs.length := by simpa using hl
  refine ⟨hl', ⟨xs[n], List.getElem?_eq_getElem hl', ?_⟩, e2⟩
  rw [e1, List.getElem_zipIdx]
  simp
theorem Ready.mid {z TI TO : Addr} {arms : List Arm} {i : Nat} {h h1 : Heap} (D : Apart z TI TO arms) (r : Ready z TI TO arms i h) (zz : IsZip h1 z TI TO .ellipsis) (sb : Heap.SameBut z h h1) : Mid z TI TO arms i h 0 h1 := by
  obtain ⟨vs, v1, v2⟩ := r.to
  exact ⟨zz, ⟨vs, v1, sb.extBut _ _ D.c2 v2, fun j _ h => absurd h (Nat.not_lt_zero _)⟩, fun j _ h => absurd h (Nat.not_lt_zero _), fun j a _ ha => (r.cur a (List.mem_of_getElem? ha)).mv fun o q => sb.extBut _ _ (D.c4 a (List.mem_of_getElem? ha)).1 q, sb.1, fun c o g1 _ _ e => sb.extBut _ _ g1 e⟩
/-- what a turn does: the loop over the iterators -/
theorem zip_next {z TI TO : Addr} {arms : List Arm} {i : Nat} {Q : Fin → Shared → Prop} (hh : A.handled = none) (D : Apart z TI TO arms) (hne : 0 < arms.length) (hsm : arms.length ≤ 100) (r : Ready z TI TO arms i s.heap) (hseq : ∀ a ∈ arms, a.seqAt s.heap)
    (good : ∀ (h' : Heap) (vs : Array Value), IsZip h' z TI TO (rawInt s.heap.objs.size) → TupObj h' TI (refsOf arms) → (∃ ws : Array Value, ws.size = arms.length ∧ TupObj h' TO ws) → (∀ a ∈ arms, a.itAt (i + 1) h') → vs.size = arms.length → (∀ (j : Nat) (a : Arm), arms[j]? = some a → vs[j]? = a.xs[i]?) → TupObj h' s.heap.objs.size vs → (∀ a ∈ arms, ∃ x, a.xs[i]? = some x) →
      (∀ c o, c ≠ z → c ≠ TO → (∀ a ∈ arms, c ≠ a.it) → s.heap.get? c = some o → h'.get? c = some o) → Q (.done (.ret (.ref s.heap.objs.size))) { s with heap := h' })
    (over : ∀ h' e, (∃ a ∈ arms, a.xs[i]? = none) → (∀ c o, c ≠ z → c ≠ TO → (∀ a ∈ arms, c ≠ a.it) → s.heap.get? c = some o → h'.get? c = some o) → (∃ o, h'.get? e = some o ∧ o.cls = .type "StopIteration") → E (.ref e) { s with heap := h' }) :
    wpAny (model prog w) A (Builtin.«zip.__next__» ⟨[.ref z], []⟩) Q E s := by
  have hz := r.zz
  obtain ⟨vs0, w1, w2⟩ := r.to
  have rsz : (refsOf arms).isEmpty = false := by
    cases arms with
    | nil => cases hne
    | cons a t => rfl
  show wpAny _ _ (field (.ref z) 2 >>= _) _ _ _
  refine wpAny_bind (wpAny_field (x := .bool false) hz rfl rfl ?_)
  show wpAny _ _ (field (.ref z) 3 >>= _) _ _ _
  refine wpAny_bind (wpAny_field (x := .ref TI) hz rfl rfl (wpAny_bind (wpAny_seqItems r.ti rfl ?_)))
  simp only [rsz, Bool.false_eq_true, if_false]
  refine wpAny_bind ?_
  unfold Builtin.SmallTypes.ownedTupleIsFree
  refine wpAny_bind (wpAny_field (x := .none) hz rfl rfl (wpAny_pure ?_))
  simp only [if_true]
  refine wpAny_bind (wpAny_rule (wpAny_bind (wpAny_field (x := .ref TO) hz rfl rfl (wpAny_bind (wpAny_setField_rec hz (by simp) fun h1 zz1 sb1 => ?_)))))
  have m1 : Mid z TI TO arms i s.heap 0 h1 := r.mid D zz1 sb1
  refine wpAny_bind (wpAny_forIn_list _ (fun rest b s' => b = (none, PUnit.unit) ∧ ∃ n, n ≤ arms.length ∧ rest = ((refsOf arms).toList.zipIdx).drop n ∧ (∀ (j : Nat) (a : Arm), j < n → arms[j]? = some a → ∃ x, a.xs[i]? = some x) ∧ ∃ h', s' = { s with heap := h' } ∧ Mid z TI TO arms i s.heap n h') _ ?_ ?_ _ _ ⟨rfl, 0, Nat.zero_le _, rfl, fun _ _ h => absurd h (Nat.not_lt_zero _), h1, rfl, m1⟩)
  · rintro p rest b s' ⟨rfl, n, hn, hr, hd, h', rfl, m⟩
    obtain ⟨g1, ⟨v, g2, rfl⟩, g3⟩ := drop_zipIdx hr
    have hn1 : n < arms.length := by simpa [refsOf] using g1
    have ha : arms[n]? = some arms[n] := List.getElem?_eq_getElem hn1
    have ev : v = .ref arms[n].it := by
      simp only [refsOf, List.getElem?_map, ha, Option.map_some, Option.some.injEq] at g2
      exact g2.symm
    subst ev
    have am := List.mem_of_getElem? ha
    have sq : arms[n].seqAt h' := (hseq _ am).mv fun o q => m.kp _ o (D.c6 _ am).1 (D.c6 _ am).2.1 (D.c6 _ am).2.2 q
    refine wpAny_bind (wpAny_onRaise ?_)
    show wpAny _ _ (Builtin.SmallTypes.nextOf (.ref arms[n].it) >>= _) _ _ _
    cases hx : arms[n].xs[i]? with
    | none =>
      refine wpAny_bind (arm_end hh (m.hi n _ (Nat.le_refl _) ha) sq hx fun h2 e sb he => ?_)
      obtain ⟨oe, hoe, hce⟩ := he
      have z2 : IsZip h2 z TI TO .ellipsis := sb _ _ (D.c4 _ am).1.symm m.zz
      have ez : e ≠ z := fun q => by
        subst q
        rw [z2] at hoe
        cases hoe
        simp at hce
      exact wpAny_setField_rec z2 (by simp) fun h3 _ sb3 => over h3 e ⟨_, am, hx⟩ (fun c o f1 f2 f3 q => sb3.extBut _ _ f1 (sb _ _ (f3 _ am) (m.kp c o f1 f2 f3 q))) ⟨oe, sb3.extBut _ _ ez hoe, hce⟩
    | some x =>
      refine wpAny_bind (arm_item (m.hi n _ (Nat.le_refl _) ha) sq hx fun h2 it2 sb => wpAny_pure ?_)
      obtain ⟨vs, v1, v2, v3⟩ := m.to
      have t2 : TupObj h2 TO vs := sb.extBut _ _ (D.c4 _ am).2.2.symm v2
      refine wpAny_bind (wpAny_seqItems t2 rfl (wpAny_bind (upd_tup t2 (by omega) fun h3 t3 sb3 => wpAny_bind (wpAny_letGo (wpAny_pure ?_)))))
      refine ⟨rfl, n + 1, hn1, g3, fun j a hj hja => ?_, h3, rfl, m.next D ha hx it2 sb v1 v3 t3 sb3⟩
      by_cases e : j = n
      · subst e
        have eb : a = arms[j] := Option.some.inj (hja.symm.trans ha)
        exact ⟨x, by rw [eb]; exact hx⟩
      · exact hd j a (by omega) hja
  · rintro b s' ⟨rfl, n, hn, hr, hd, h', rfl, m⟩
    have hn2 : n = arms.length := by
      have := congrArg List.length hr
      simp [refsOf] at this
      omega
    subst hn2
    obtain ⟨vs, v1, v2, v3⟩ := m.to
    have big : (100 : Nat) ≤ sizeLine := by decide
    refine wpAny_bind (wpAny_seqItems v2 rfl (wpAny_bind (wpAny_newTuple ?_ (by rw [Array.length_toList, v1]; exact Nat.le_trans hsm big))))
    refine wpAny_bind ?_
    unfold Builtin.SmallTypes.ownedTupleHandOut
    have zlt : z < h'.objs.size := Heap.lt_size m.zz
    have z2 : IsZip (h'.push { cls := .type "tuple", data := .seq vs.toList.toArray }) z TI TO .ellipsis := Heap.get?_push_of_some _ m.zz
    refine wpAny_bind (wpAny_setField_rec z2 (by simp) fun h3 z3 sb3 => ?_)
    replace z3 : IsZip h3 z TI TO (rawInt h'.objs.size) := z3
    refine wpAny_setField_rec z3 (by simp) fun h4 z4 sb4 => ?_
    replace z4 : IsZip h4 z TI TO (rawInt h'.objs.size) := z4
    have up : ∀ c o, c ≠ z → h'.get? c = some o → h4.get? c = some o := fun c o g e => sb4.extBut _ _ g (sb3.extBut _ _ g (Heap.get?_push_of_some _ e))
    have T4 : TupObj h4 h'.objs.size vs := by
      have p0 : (h'.push { cls := .type "tuple", data := .seq vs.toList.toArray }).get? h'.objs.size = some { cls := .type "tuple", data := .seq vs.toList.toArray } := Heap.get?_push_size _ rfl
      have := sb4.extBut _ _ (Nat.ne_of_gt zlt) (sb3.extBut _ _ (Nat.ne_of_gt zlt) p0)
      simpa using this
    rw [m.sz] at z4 T4
    refine wpAny_pure ?_
    show Q (.done (.ret (.ref h'.objs.size))) _
    rw [m.sz]
    refine good h4 vs z4 (up _ _ D.c1 (m.kp _ _ D.c1 D.c3 (fun a ha => (D.c4 a ha).2.1.symm) r.ti)) ⟨vs, v1, up _ _ D.c2 v2⟩ (fun a ha => ?_) v1 (fun j a hj => v3 j a (List.getElem?_eq_some_iff.mp hj).1 hj) T4 (fun a ha => ?_) fun c o g1 g2 g3 q => up c o g1 (m.kp c o g1 g2 g3 q)
    · obtain ⟨j, hj⟩ := List.mem_iff_getElem?.mp ha
      exact (m.lo j a (List.getElem?_eq_some_iff.mp hj).1 hj).mv fun o q => up _ o (D.c4 a ha).1 q
    · obtain ⟨j, hj⟩ := List.mem_iff_getElem?.mp ha
      exact hd j a (List.getElem?_eq_some_iff.mp hj).1 hj
end
end Mi
namespace Mi
open PySem PyProof.Rows L2
/-- a tuple (b) or a list of these items -/
def SqB (K : PySem.W.Frag) (H : Hp) (b : Bool) (a : Addr) (xs : List V) : Prop := match b with
  | true => SqT K H a xs
  | false => SqL K H a xs
section
variable {X : Cx} {pins : List (Addr × Obj)} {σ : L2.St} {H : Hp} {s : Shared}
theorem SqB.inj {b : Bool} {a : Addr} {xs ys : List V} (I : Inv X pins σ H s) (h1 : SqB X.K H b a xs) (h2 : SqB X.K H b a ys) : xs = ys := by
  cases b
  · exact I.list_inj h1 h2
  · exact I.tuple_inj h1 h2
theorem SqB.its {b : Bool} {a it : Addr} {xs : List V} (I : Inv X pins σ H s) (h : SqB X.K H b a xs) : ∃ us : List Value, Vals xs us ∧ (Arm.mk it a b us.toArray).seqAt s.heap := by
  cases b
  · obtain ⟨us, rv, p, _⟩ := I.list h
    exact ⟨us, rv, p.isList⟩
  · obtain ⟨us, rv, p, _⟩ := I.tuple h
    exact ⟨us, rv, p⟩
end
theorem vals_get : ∀ {xs : List V} {us : List Value}, xs.length = us.length → (∀ (j : Nat) (x : V) (u : Value), xs[j]? = some x → us[j]? = some u → RelV x u) → Vals xs us
  | [], [], _, _ => .nil
  | [], _ :: _, h, _ => by cases h
  | _ :: _, [], h, _ => by cases h
  | x :: xs, u :: us, h, r => .cons (r 0 x u rfl rfl) (vals_get (by simpa using h) fun j y v h1 h2 => r (j + 1) y v (by simpa using h1) (by simpa using h2))
/-- the lists and tuples ls as they stand at each turn, the items in new tuples -/
def ItN (K : PySem.W.Frag) (ls : List (Bool × Addr)) : It :=
  ⟨fun i H => ∀ p : Bool × Addr, p ∈ ls → ∃ (xs : List V) (x : V), SqB K H p.1 p.2 xs ∧ xs[i]? = some x,
    fun i H v H' => ∃ (T : Addr) (vs : List V), v = .ref T ∧ H T = none ∧ H' = upd H T (.tup vs) ∧ vs.length = ls.length ∧ ∀ (j : Nat) (p : Bool × Addr) (xs : List V), ls[j]? = some p → SqB K H p.1 p.2 xs → vs[j]? = xs[i]?,
    fun i H => (∀ p : Bool × Addr, p ∈ ls → ∃ xs : List V, SqB K H p.1 p.2 xs) ∧ ∃ p : Bool × Addr, p ∈ ls ∧ ∃ xs : List V, SqB K H p.1 p.2 xs ∧ xs.length ≤ i⟩
theorem Ready.mv {z TI TO : Addr} {arms : List Arm} {i : Nat} {h h' : Heap} (r : Ready z TI TO arms i h) (k : ∀ c ∈ z :: TI :: TO :: arms.map Arm.it, ∀ o, h.get? c = some o → h'.get? c = some o) : Ready z TI TO arms i h' := by
  obtain ⟨vs, v1, v2⟩ := r.to
  exact ⟨k z (by simp) _ r.zz, k TI (by simp) _ r.ti, ⟨vs, v1, k TO (by simp) _ v2⟩, fun a ha => (r.cur a ha).mv fun o q => k a.it (by simp only [List.mem_cons, List.mem_map]; exact .inr (.inr (.inr ⟨a, ha, rfl⟩))) o q⟩
/-- arms with their items -/
def withXs (g : Arm → Array Value) (a : Arm) : Arm := ⟨a.it, a.l, a.b, g a⟩
theorem Apart.with {z TI TO : Addr} {arms : List Arm} (D : Apart z TI TO arms) (g : Arm → Array Value) : Apart z TI TO (arms.map (withXs g)) := by
  refine ⟨D.c1, D.c2, D.c3, fun a ha => ?_, by rw [List.map_map]; exact D.c5, fun a ha => ?_⟩
  · obtain ⟨b, hb, rfl⟩ := List.mem_map.mp ha
    exact D.c4 b hb
  · obtain ⟨b, hb, rfl⟩ := List.mem_map.mp ha
    refine ⟨(D.c6 b hb).1, (D.c6 b hb).2.1, fun c hc => ?_⟩
    obtain ⟨d, hd, rfl⟩ := List.mem_map.mp hc
    exact (D.c6 b hb).2.2 d hd
theorem Ready.with {z TI TO : Addr} {arms : List Arm} {i : Nat} {h : Heap} (r : Ready z TI TO arms i h) (g : Arm → Array Value) : Ready z TI TO (arms.map (withXs g)) i h := by
  obtain ⟨vs, v1, v2⟩ := r.to
  refine ⟨r.zz, ?_, ⟨vs, by rw [List.length_map]; exact v1, v2⟩, fun a ha => ?_⟩
  · have : refsOf (arms.map (withXs g)) = refsOf arms := by
      unfold refsOf
      rw [List.map_map]
      rfl
    rw [this]
    exact r.ti
  · obtain ⟨b, hb, rfl⟩ := List.mem_map.mp ha
    exact r.cur b hb
theorem Ready.un {z TI TO : Addr} {arms : List Arm} {i : Nat} {h : Heap} {g : Arm → Array Value} (r1 : IsZip h z TI TO .none) (r2 : TupObj h TI (refsOf (arms.map (withXs g)))) (r3 : ∃ ws : Array Value, ws.size = (arms.map (withXs g)).length ∧ TupObj h TO ws) (r4 : ∀ a ∈ arms.map (withXs g), a.itAt i h) : Ready z TI TO arms i h := by
  obtain ⟨vs, v1, v2⟩ := r3
  refine ⟨r1, ?_, ⟨vs, by rw [List.length_map] at v1; exact v1, v2⟩, fun a ha => r4 (withXs g a) (List.mem_map_of_mem (f := withXs g) ha)⟩
  have : refsOf (arms.map (withXs g)) = refsOf arms := by
    unfold refsOf
    rw [List.map_map]
    rfl
  rw [← this]
  exact r2
open Classical in
theorem choose_on {α β : Type} [Inhabited β] {P : α → β → Prop} {xs : List α} (h : ∀ a ∈ xs, ∃ b, P a b) : ∃ g : α → β, ∀ a ∈ xs, P a (g a) := by
  refine ⟨fun a => if q : ∃ b, P a b then Classical.choose q else default, fun a ha => ?_⟩
  have q := h a ha
  show P a (if q : ∃ b, P a b then Classical.choose q else default)
  rw [dif_pos q]
  exact Classical.choose_spec q
/-- what next of the object gives -/
theorem pyNext_zip {prog : Program} {w : World} {A : Around} {E : Value → Shared → Prop} {s : Shared} {z TI TO : Addr} {arms : List Arm} {i : Nat} {Q : Option Value → Shared → Prop} (hh : A.handled = none) (D : Apart z TI TO arms) (hne : 0 < arms.length) (hsm : arms.length ≤ 100) (r : Ready z TI TO arms i s.heap) (hseq : ∀ a ∈ arms, a.seqAt s.heap)
    (good : ∀ (h' : Heap) (vs : Array Value), IsZip h' z TI TO (rawInt s.heap.objs.size) → TupObj h' TI (refsOf arms) → (∃ ws : Array Value, ws.size = arms.length ∧ TupObj h' TO ws) → (∀ a ∈ arms, a.itAt (i + 1) h') → vs.size = arms.length → (∀ (j : Nat) (a : Arm), arms[j]? = some a → vs[j]? = a.xs[i]?) → TupObj h' s.heap.objs.size vs → (∀ a ∈ arms, ∃ x, a.xs[i]? = some x) →
      (∀ c o, c ≠ z → c ≠ TO → (∀ a ∈ arms, c ≠ a.it) → s.heap.get? c = some o → h'.get? c = some o) → Q (some (.ref s.heap.objs.size)) { s with heap := h' })
    (over : ∀ h', (∃ a ∈ arms, a.xs[i]? = none) → (∀ c o, c ≠ z → c ≠ TO → (∀ a ∈ arms, c ≠ a.it) → s.heap.get? c = some o → h'.get? c = some o) → Q none { s with heap := h' }) : wpAny (model prog w) A (pyNext (.ref z)) Q E s := by
  have hT : s.TypeIs (.ref z) "zip" := ⟨_, r.zz, rfl⟩
  unfold pyNext
  refine wpAny_bind (wpAny_attempt (wpAny_callSpecial?_slot (name := Str.ofString "__next__") hT F.slot_zip_next (wpAny_call_entry F.slot_zip_next hT F.entry_zip_next
    (zip_next hh D hne hsm r hseq (fun h' vs a1 a2 a3 a4 a5 a6 a7 a8 a9 => ⟨_, rfl, wpAny_pure (good h' vs a1 a2 a3 a4 a5 a6 a7 a8 a9)⟩) fun h' e a1 a2 he => ?_) (F.args_zip_next_1 _))))
  obtain ⟨o, ho, hc⟩ := he
  exact wpAny_bind (wpAny_isInstance (T := "StopIteration") (b := true) ⟨o, ho, hc⟩ isSubtype_stop (wpAny_pure (over h' a1 a2)))
theorem turn_zipN {P : Program} {w : World} {K : PySem.W.Frag} {elts : List Expr} {kk : Nat} {tpos : Pos} {z TI TO : Addr} {arms : List Arm} (D : Apart z TI TO arms) (hne : 0 < arms.length) (hsm : arms.length ≤ 100) :
    Turn P w K (.Tuple elts kk tpos) (ItN K (arms.map fun a => (a.b, a.l))) (z :: TI :: TO :: arms.map Arm.it) z (Ready z TI TO arms) where
  mem := List.mem_cons_self ..
  obj := fun i h st c hc => by
    obtain ⟨vs, v1, v2⟩ := st.to
    simp only [List.mem_cons, List.mem_map] at hc
    rcases hc with rfl | rfl | rfl | ⟨a, ha, rfl⟩
    · exact ⟨_, st.zz, fun v q => nomatch q⟩
    · exact ⟨_, st.ti, fun v q => nomatch q⟩
    · exact ⟨_, v2, fun v q => nomatch q⟩
    · exact (st.cur a ha).obj
  keep := fun i h h' st k => st.mv k
  item := by
    intro X hP hw hK hc i pins s σ H E I hf st hg
    subst hP hw hK
    have h1 : ∀ a ∈ arms, ∃ q : List V × List Value × V, SqB X.K H a.b a.l q.1 ∧ Vals q.1 q.2.1 ∧ (Arm.mk a.it a.l a.b q.2.1.toArray).seqAt s.heap ∧ q.1[i]? = some q.2.2 := fun a ha => by
      obtain ⟨xs, x, p1, p2⟩ := hg (a.b, a.l) (List.mem_map.mpr ⟨a, ha, rfl⟩)
      obtain ⟨us, p3, p4⟩ := SqB.its (it := a.it) I p1
      exact ⟨(xs, us, x), p1, p3, p4, p2⟩
    haveI : Inhabited (List V × List Value × V) := ⟨([], [], .int 0)⟩
    obtain ⟨g, hgs⟩ := choose_on h1
    refine pyNext_zip (arms := arms.map (withXs fun a => (g a).2.1.toArray)) (I.ok.hd hc) (D.with _) (by simpa using hne) (by simpa using hsm) (st.with _) (fun a ha => ?_) (fun h' us a1 a2 a3 a4 a5 a6 a7 a8 a9 => ?_) fun h' a1 a2 => ?_
    · obtain ⟨b, hb, rfl⟩ := List.mem_map.mp ha
      exact (hgs b hb).2.2.1
    · refine ⟨_, rfl, wpAny_letOwnedTupleGo_zip (s := { s with heap := h' }) a1 fun h'' z'' sb => ?_⟩
      have zlt : z < s.heap.objs.size := Heap.lt_size st.zz
      obtain ⟨us⟩ := us
      have T2 : TupObj h'' s.heap.objs.size us.toArray := (sb.2 _ (Nat.ne_of_gt zlt)).trans a7
      have hlen : (arms.map fun a => (g a).2.2).length = us.length := by
        have : us.length = (arms.map (withXs fun a => (g a).2.1.toArray)).length := a5
        rw [this, List.length_map, List.length_map]
      have rv : Vals (arms.map fun a => (g a).2.2) us := vals_get hlen fun j x u hx hu => by
        rw [List.getElem?_map] at hx
        obtain ⟨a, ha, rfl⟩ := Option.map_eq_some_iff.mp hx
        have am := List.mem_of_getElem? ha
        have e1 := a6 j (withXs (fun a => (g a).2.1.toArray) a) (by rw [List.getElem?_map, ha]; rfl)
        have e1 : us[j]? = (g a).2.1.toArray[i]? := by simpa [withXs] using e1
        obtain ⟨u2, hu2, ru⟩ := (hgs a am).2.1.get (hgs a am).2.2.2
        rw [hu, List.getElem?_toArray, hu2] at e1
        cases e1
        exact ru
      have big : (100 : Nat) ≤ sizeLine := by decide
      have new : ObjOk X.prog X.w (upd H s.heap.objs.size (.tup (arms.map fun a => (g a).2.2))) h'' s.heap.objs.size (.tup (arms.map fun a => (g a).2.2)) :=
        ⟨by show (arms.map fun a => (g a).2.2).length ≤ sizeLine; rw [List.length_map]; exact Nat.le_trans hsm big, us, rv, ⟨_, T2, rfl, _, rfl⟩⟩
      have kp : ∀ c o, c ∉ z :: TI :: TO :: arms.map Arm.it → s.heap.get? c = some o → h''.get? c = some o := fun c o hb q => by
        simp only [List.mem_cons, List.mem_map, not_or, not_exists, not_and] at hb
        refine (sb.2 c hb.1).trans (a9 c o hb.1 hb.2.2.1 (fun a ha => ?_) q)
        obtain ⟨b, hbm, rfl⟩ := List.mem_map.mp ha
        exact fun e => hb.2.2.2 b hbm e.symm
      have I1 : Inv X pins σ (upd H s.heap.objs.size (.tup (arms.map fun a => (g a).2.2))) { s with heap := h'' } := I.turnedNew (t' := s.toks) kp hf (Nat.le_refl _) new
      have a1' : Ready z TI TO arms (i + 1) h'' := by
        obtain ⟨ws, w1, w2⟩ := a3
        exact Ready.un (g := fun a => (g a).2.1.toArray) z'' ((sb.2 _ D.c1).trans a2) ⟨ws, w1, (sb.2 _ D.c2).trans w2⟩ fun a ha => (a4 a ha).mv fun o q => (sb.2 _ ((D.with _).c4 a ha).1).trans q
      refine ⟨.ref s.heap.objs.size, _, I1, rfl, ⟨_, _, rfl, I.hok.fresh (Nat.le_refl _), rfl, by rw [List.length_map, List.length_map], fun j p xs hj hq => ?_⟩, a1', fun c hcm => ?_⟩
      · rw [List.getElem?_map] at hj ⊢
        obtain ⟨a, ha, rfl⟩ := Option.map_eq_some_iff.mp hj
        have am := List.mem_of_getElem? ha
        rw [ha, SqB.inj I hq (hgs a am).1, (hgs a am).2.2.2]
        rfl
      · obtain ⟨o, ho, _⟩ : ∃ o, s.heap.get? c = some o ∧ ∀ v, o.data ≠ .cell v := by
          obtain ⟨vs, v1, v2⟩ := st.to
          simp only [List.mem_cons, List.mem_map] at hcm
          rcases hcm with rfl | rfl | rfl | ⟨a, ha, rfl⟩
          · exact ⟨_, st.zz, fun v q => nomatch q⟩
          · exact ⟨_, st.ti, fun v q => nomatch q⟩
          · exact ⟨_, v2, fun v q => nomatch q⟩
          · exact (st.cur a ha).obj
        rw [upd_ne (Nat.ne_of_lt (Heap.lt_size ho))]
        exact (hf c hcm).1
    · obtain ⟨a, ha, e⟩ := a1
      obtain ⟨b, hb, rfl⟩ := List.mem_map.mp ha
      obtain ⟨u, hu, _⟩ := (hgs b hb).2.1.get (hgs b hb).2.2.2
      have e : (g b).2.1.toArray[i]? = none := e
      rw [List.getElem?_toArray, hu] at e
      cases e
  done := by
    intro X hP hw hK hc i pins s σ H E I hf st hg
    subst hP hw hK
    have h1 : ∀ a ∈ arms, ∃ q : List V × List Value, SqB X.K H a.b a.l q.1 ∧ Vals q.1 q.2 ∧ (Arm.mk a.it a.l a.b q.2.toArray).seqAt s.heap := fun a ha => by
      obtain ⟨xs, p1⟩ := hg.1 (a.b, a.l) (List.mem_map.mpr ⟨a, ha, rfl⟩)
      obtain ⟨us, p3, p4⟩ := SqB.its (it := a.it) I p1
      exact ⟨(xs, us), p1, p3, p4⟩
    haveI : Inhabited (List V × List Value) := ⟨([], [])⟩
    obtain ⟨g, hgs⟩ := choose_on h1
    obtain ⟨p, hp, xs, hx, hle⟩ := hg.2
    obtain ⟨a0, ha0, rfl⟩ := List.mem_map.mp hp
    have e0 : (g a0).2.toArray[i]? = none := by
      rw [List.getElem?_toArray, List.getElem?_eq_none]
      have := SqB.inj I hx (hgs a0 ha0).1
      rw [← (hgs a0 ha0).2.1.length, ← this]
      exact hle
    refine pyNext_zip (arms := arms.map (withXs fun a => (g a).2.toArray)) (I.ok.hd hc) (D.with _) (by simpa using hne) (by simpa using hsm) (st.with _) (fun a ha => ?_) (fun h' us a1 a2 a3 a4 a5 a6 a7 a8 a9 => ?_) fun h' a1 a2 => ?_
    · obtain ⟨b, hb, rfl⟩ := List.mem_map.mp ha
      exact (hgs b hb).2.2
    · obtain ⟨x, hx⟩ := a8 (withXs (fun a => (g a).2.toArray) a0) (List.mem_map_of_mem (f := withXs fun a => (g a).2.toArray) ha0)
      have hx : (g a0).2.toArray[i]? = some x := hx
      rw [e0] at hx
      cases hx
    · refine ⟨rfl, I.turnedL (t' := s.toks) (ch := z :: TI :: TO :: arms.map Arm.it) (fun c o hb q => ?_) hf⟩
      simp only [List.mem_cons, List.mem_map, not_or, not_exists, not_and] at hb
      refine a2 c o hb.1 hb.2.2.1 (fun a ha => ?_) q
      obtain ⟨b, hbm, rfl⟩ := List.mem_map.mp ha
      exact fun e => hb.2.2.2 b hbm e.symm
  self := fun A i s Q E st h => wpAny_pyIter_zip st.zz h
end Mi
namespace Mi
open PySem PyProof.Rows L2
def itObj (b : Bool) (l : Addr) : Obj := match b with
  | true => { cls := .type "tuple_iterator", data := .fields #[.ref l, .int 0 0] }
  | false => { cls := .type "list_iterator", data := .fields #[.ref l, .int 0 0] }
theorem begins_sq (b : Bool) (l : Addr) (xs : Array Value) : Begins (.ref l) (itObj b l) fun h => (Arm.mk 0 l b xs).seqAt h := by
  cases b
  · exact begins_list l xs
  · exact begins_tuple l xs
theorem itAt_new {b : Bool} {l it : Addr} {xs : Array Value} {h : Heap} (e : h.get? it = some (itObj b l)) : (Arm.mk it l b xs).itAt 0 h := by
  cases b
  · exact ⟨_, e, rfl, rfl⟩
  · exact ⟨_, e, rfl, rfl⟩
theorem seq_lt {b : Bool} {l it : Addr} {xs : Array Value} {h : Heap} (e : (Arm.mk it l b xs).seqAt h) : l < h.objs.size := by
  cases b <;> exact let ⟨_, ho, _⟩ := e; Heap.lt_size ho
theorem apart2 (n a a2 : Nat) (b b2 : Bool) (l1 : a < n) (l2 : a2 < n) : Apart (n + 4) (n + 2) (n + 3) [⟨n, a, b, #[]⟩, ⟨n + 1, a2, b2, #[]⟩] := by
  refine ⟨Nat.ne_of_lt (by omega), Nat.ne_of_lt (by omega), Nat.ne_of_lt (by omega), ?_, ?_, ?_⟩
  · simp only [List.forall_mem_cons, List.not_mem_nil, false_implies, implies_true, and_true]
    exact ⟨⟨Nat.ne_of_lt (by omega), Nat.ne_of_lt (by omega), Nat.ne_of_lt (by omega)⟩, Nat.ne_of_lt (by omega), Nat.ne_of_lt (by omega), Nat.ne_of_lt (by omega)⟩
  · simp
  · simp only [List.forall_mem_cons, List.not_mem_nil, false_implies, implies_true, and_true]
    exact ⟨⟨Nat.ne_of_lt (by omega), Nat.ne_of_lt (by omega), Nat.ne_of_lt (by omega), Nat.ne_of_lt (by omega)⟩, Nat.ne_of_lt (by omega), Nat.ne_of_lt (by omega), Nat.ne_of_lt (by omega), Nat.ne_of_lt (by omega)⟩
theorem apart3 (n a a2 a3 : Nat) (b b2 b3 : Bool) (l1 : a < n) (l2 : a2 < n) (l3 : a3 < n) : Apart (n + 5) (n + 3) (n + 4) [⟨n, a, b, #[]⟩, ⟨n + 1, a2, b2, #[]⟩, ⟨n + 2, a3, b3, #[]⟩] := by
  refine ⟨Nat.ne_of_lt (by omega), Nat.ne_of_lt (by omega), Nat.ne_of_lt (by omega), ?_, ?_, ?_⟩
  · simp only [List.forall_mem_cons, List.not_mem_nil, false_implies, implies_true, and_true]
    exact ⟨⟨Nat.ne_of_lt (by omega), Nat.ne_of_lt (by omega), Nat.ne_of_lt (by omega)⟩, ⟨Nat.ne_of_lt (by omega), Nat.ne_of_lt (by omega), Nat.ne_of_lt (by omega)⟩, Nat.ne_of_lt (by omega), Nat.ne_of_lt (by omega), Nat.ne_of_lt (by omega)⟩
  · simp
  · simp only [List.forall_mem_cons, List.not_mem_nil, false_implies, implies_true, and_true]
    exact ⟨⟨Nat.ne_of_lt (by omega), Nat.ne_of_lt (by omega), Nat.ne_of_lt (by omega), Nat.ne_of_lt (by omega), Nat.ne_of_lt (by omega)⟩, ⟨Nat.ne_of_lt (by omega), Nat.ne_of_lt (by omega), Nat.ne_of_lt (by omega), Nat.ne_of_lt (by omega), Nat.ne_of_lt (by omega)⟩, Nat.ne_of_lt (by omega), Nat.ne_of_lt (by omega), Nat.ne_of_lt (by omega), Nat.ne_of_lt (by omega), Nat.ne_of_lt (by omega)⟩
def iZip2 (K : PySem.W.Frag) (ta : TA) : TI := fun σ H R => ta σ H fun vs H1 => ∃ (a a2 : Addr) (b b2 : Bool) (xs ys : List V), vs = [.ref a, .ref a2] ∧ SqB K H1 b a xs ∧ SqB K H1 b2 a2 ys ∧ R (ItN K [(b, a), (b2, a2)]) H1
def iZip3 (K : PySem.W.Frag) (ta : TA) : TI := fun σ H R => ta σ H fun vs H1 => ∃ (a a2 a3 : Addr) (b b2 b3 : Bool) (xs ys zs : List V), vs = [.ref a, .ref a2, .ref a3] ∧ SqB K H1 b a xs ∧ SqB K H1 b2 a2 ys ∧ SqB K H1 b3 a3 zs ∧ R (ItN K [(b, a), (b2, a2), (b3, a3)]) H1
section
variable {X : Cx}
theorem pi_zip2 {e e2 : Expr} {ta : TA} {p pos tpos : Pos} {elts : List Expr} {kk : Nat} (hg : Gl X "zip") (hm : X.mg "zip" = none) (ha : PA X [e, e2] ta)
    (hs : starEach [e, e2] X.env = (false, eval e X.env) :: starEach [e2] X.env) (hpl : (backTo pos (starEach [e2] X.env)).any (·.1) = false) : PI X (.Tuple elts kk tpos) (.Call (.Name "zip" p) [e, e2] [] pos) (iZip2 X.K ta) := by
  refine ⟨fun pins s σ H R I h => Call_ (ld_blt I hg hm PyProof.Rows.boot_zip (PyProof.Rows.callWith_type1 (thn (ha.run pos pins s σ H _ I h) fun us s1 ⟨vs, H1, I1, r1, q1⟩ => ?_) hs hpl))⟩
  obtain ⟨a, a2, b, b2, xs, ys, rfl, hx, hy, q⟩ := q1
  obtain ⟨u1, u2, rfl, w1, w2⟩ := vals2 r1
  cases w1
  cases w2
  obtain ⟨us, _, p1⟩ := SqB.its (it := 0) I1 hx
  obtain ⟨us2, _, p2⟩ := SqB.its (it := 0) I1 hy
  have l1 := seq_lt p1
  have l2 := seq_lt p2
  refine zip_begins2 (begins_sq b a us.toArray) (begins_sq b2 a2 us2.toArray) p1 p2 fun h' hz hTI hTO h1 h2 hsz hk => wpAny_pyIter_zip hz ?_
  have I2 : Inv X pins σ H1 { s1 with heap := h' } := I1.kept (t' := s1.toks) hk
  have D := apart2 s1.heap.objs.size a a2 b b2 l1 l2
  refine ⟨s1.heap.objs.size + 4, _, _, _, H1, rfl, I2, turn_zipN D (by simp) (by simp), ⟨hz, hTI, ⟨_, rfl, hTO⟩, ?_⟩, fun c hc => ?_, q⟩
  · simp only [List.forall_mem_cons, List.not_mem_nil, false_implies, implies_true, and_true]
    exact ⟨itAt_new h1, itAt_new h2⟩
  · have hle : s1.heap.objs.size ≤ c := by
      simp only [List.map_cons, List.map_nil, List.mem_cons, List.not_mem_nil, or_false] at hc
      rcases hc with e | e | e | e | e <;> (rw [e]; first | exact Nat.le_refl _ | exact Nat.le_add_right _ _)
    exact I1.fpOk hle (I1.hok.fresh hle)
theorem pi_zip3 {e e2 e3 : Expr} {ta : TA} {p pos tpos : Pos} {elts : List Expr} {kk : Nat} (hg : Gl X "zip") (hm : X.mg "zip" = none) (ha : PA X [e, e2, e3] ta)
    (hs : starEach [e, e2, e3] X.env = (false, eval e X.env) :: starEach [e2, e3] X.env) (hpl : (backTo pos (starEach [e2, e3] X.env)).any (·.1) = false) : PI X (.Tuple elts kk tpos) (.Call (.Name "zip" p) [e, e2, e3] [] pos) (iZip3 X.K ta) := by
  refine ⟨fun pins s σ H R I h => Call_ (ld_blt I hg hm PyProof.Rows.boot_zip (PyProof.Rows.callWith_type1 (thn (ha.run pos pins s σ H _ I h) fun us s1 ⟨vs, H1, I1, r1, q1⟩ => ?_) hs hpl))⟩
  obtain ⟨a, a2, a3, b, b2, b3, xs, ys, zs, rfl, hx, hy, hz3, q⟩ := q1
  cases r1 with | cons w1 rr => ?_
  cases rr with | cons w2 rr => ?_
  cases rr with | cons w3 rr => ?_
  cases rr
  cases w1
  cases w2
  cases w3
  obtain ⟨us, _, p1⟩ := SqB.its (it := 0) I1 hx
  obtain ⟨us2, _, p2⟩ := SqB.its (it := 0) I1 hy
  obtain ⟨us3, _, p3⟩ := SqB.its (it := 0) I1 hz3
  have l1 := seq_lt p1
  have l2 := seq_lt p2
  have l3 := seq_lt p3
  refine zip_begins3 (begins_sq b a us.toArray) (begins_sq b2 a2 us2.toArray) (begins_sq b3 a3 us3.toArray) p1 p2 p3 fun h' hz hTI hTO h1 h2 h3 hsz hk => wpAny_pyIter_zip hz ?_
  have I2 : Inv X pins σ H1 { s1 with heap := h' } := I1.kept (t' := s1.toks) hk
  have D := apart3 s1.heap.objs.size a a2 a3 b b2 b3 l1 l2 l3
  refine ⟨s1.heap.objs.size + 5, _, _, _, H1, rfl, I2, turn_zipN D (by simp) (by simp), ⟨hz, hTI, ⟨_, rfl, hTO⟩, ?_⟩, fun c hc => ?_, q⟩
  · simp only [List.forall_mem_cons, List.not_mem_nil, false_implies, implies_true, and_true]
    exact ⟨itAt_new h1, itAt_new h2, itAt_new h3⟩
  · have hle : s1.heap.objs.size ≤ c := by
      simp only [List.map_cons, List.map_nil, List.mem_cons, List.not_mem_nil, or_false] at hc
      rcases hc with e | e | e | e | e | e <;> (rw [e]; first | exact Nat.le_refl _ | exact Nat.le_add_right _ _)
    exact I1.fpOk hle (I1.hok.fresh hle)
end
section
variable {c : Cc} {H' : Hp} {N2 N : Addr → Prop}
def SeqIn (H : Hp) (b : Bool) (a : Addr) (vs : List V) : Prop := match b with
  | true => TupAt H a vs
  | false => H a = some (.lst vs)
theorem SeqIn.at {b : Bool} {a : Addr} {vs : List V} {H H2 : Hp} {K : PySem.W.Frag} (h : SeqIn H b a vs) (k : ∀ o, H a = some o → H2 a = some o) : SqB K H2 b a vs := by
  cases b
  · exact .of (k _ h)
  · exact (TupAt.mp h k).sq
theorem zip3_get : ∀ {xs ys zs : List D} {i : Nat} {d : D}, (zipD3 xs ys zs)[i]? = some d → ∃ x y z, xs[i]? = some x ∧ ys[i]? = some y ∧ zs[i]? = some z ∧ d = .tup [x, y, z]
  | [], _, _, _, _, h => by simp [zipD3] at h
  | _ :: _, [], _, _, _, h => by simp [zipD3] at h
  | _ :: _, _ :: _, [], _, _, h => by simp [zipD3] at h
  | x :: xs, y :: ys, z :: zs, 0, d, h => by
    simp [zipD3] at h
    exact ⟨x, y, z, by simp, by simp, by simp, h.symm⟩
  | x :: xs, y :: ys, z :: zs, i + 1, d, h => by
    obtain ⟨u, v, w, h1, h2, h3, h4⟩ := zip3_get (xs := xs) (ys := ys) (zs := zs) (i := i) (d := d) (by simpa [zipD3] using h)
    exact ⟨u, v, w, by simpa using h1, by simpa using h2, by simpa using h3, h4⟩
theorem zip3_len : ∀ {xs ys zs : List D}, (zipD3 xs ys zs).length = min xs.length (min ys.length zs.length)
  | [], _, _ => by simp [zipD3]
  | _ :: _, [], _ => by simp [zipD3]
  | _ :: _, _ :: _, [] => by simp [zipD3]
  | x :: xs, y :: ys, z :: zs => by simp [zipD3, zip3_len (xs := xs) (ys := ys) (zs := zs)]
theorem tup_new {H2 : Hp} {T : Addr} {N3 : Addr → Prop} {ds : List D} {us : List V} (hT : H2 T = none) (h4 : ∀ a, N3 a → H2 a ≠ none) (h5 : ∀ b, c.β = some b → N3 b) (r : RepL c H2 N3 ds us) :
    (∀ a o, H2 a = some o → upd H2 T (.tup us) a = some o) ∧ RepJ c true (upd H2 T (.tup us)) N3 (.tup ds) (.ref T) :=
  ⟨same_laid hT, T, _, rfl, fun z => h4 T z hT, .inl upd_same, RepL.keep (.laid hT) h5 r⟩
theorem src_zip2 {a a2 : Addr} {b b2 : Bool} {vs vs2 : List V} {ds ds2 : List D} {K : PySem.W.Frag} (hs : ∀ a, N2 a → N a) (n : ¬ N2 a) (h1 : SeqIn H' b a vs) (q : RepL c H' N ds vs) (n2 : ¬ N2 a2) (h2 : SeqIn H' b2 a2 vs2) (q2 : RepL c H' N ds2 vs2) :
    Src c true N2 N H' (zipD ds ds2) (ItN K [(b, a), (b2, a2)]) := by
  refine ⟨min vs.length vs2.length, fun H => SqB K H b a vs ∧ SqB K H b2 a2 vs2, fun i H x H3 => ∃ (T : Addr) (u w : V), x = .ref T ∧ H T = none ∧ H3 = upd H T (.tup [u, w]) ∧ vs[i]? = some u ∧ vs2[i]? = some w, by rw [zip_len, q.length, q2.length], ⟨fun i H hi g => ?_, fun H g => ⟨?_, ?_⟩, fun i H x H3 hi g y => ?_⟩, fun H2 k => ⟨h1.at fun o => k a o n, h2.at fun o => k a2 o n2⟩, fun i H2 x H3 d N3 k h3 h4 h5 e y => ?_⟩
  · simp only [ItN, List.forall_mem_cons, List.not_mem_nil, false_implies, implies_true, and_true]
    exact ⟨⟨vs, _, g.1, List.getElem?_eq_getElem (by omega)⟩, ⟨vs2, _, g.2, List.getElem?_eq_getElem (by omega)⟩⟩
  · simp only [List.forall_mem_cons, List.not_mem_nil, false_implies, implies_true, and_true]
    exact ⟨⟨vs, g.1⟩, ⟨vs2, g.2⟩⟩
  · rcases Nat.le_total vs.length vs2.length with l | l
    · exact ⟨(b, a), by simp, vs, g.1, by omega⟩
    · exact ⟨(b2, a2), by simp, vs2, g.2, by omega⟩
  · obtain ⟨T, ws, e1, e2, e3, e4, e5⟩ := y
    have f1 := e5 0 (b, a) vs rfl g.1
    have f2 := e5 1 (b2, a2) vs2 rfl g.2
    match ws, e4 with
    | [u, w], _ => exact ⟨T, u, w, e1, e2, e3, f1.symm, f2.symm⟩
  · obtain ⟨T, u, w, rfl, hT, rfl, e1, e2⟩ := y
    obtain ⟨z, z2, e3, e4, rfl⟩ := zip_get e
    exact tup_new hT h4 h5 ⟨u, _, rfl, (get_both q e3 e1).move k hs h3, w, _, rfl, (get_both q2 e4 e2).move k hs h3, rfl⟩
theorem src_zip3 {a a2 a3 : Addr} {b b2 b3 : Bool} {vs vs2 vs3 : List V} {ds ds2 ds3 : List D} {K : PySem.W.Frag} (hs : ∀ a, N2 a → N a) (n : ¬ N2 a) (h1 : SeqIn H' b a vs) (q : RepL c H' N ds vs) (n2 : ¬ N2 a2) (h2 : SeqIn H' b2 a2 vs2) (q2 : RepL c H' N ds2 vs2) (n3 : ¬ N2 a3) (h3' : SeqIn H' b3 a3 vs3) (q3 : RepL c H' N ds3 vs3) :
    Src c true N2 N H' (zipD3 ds ds2 ds3) (ItN K [(b, a), (b2, a2), (b3, a3)]) := by
  refine ⟨min vs.length (min vs2.length vs3.length), fun H => SqB K H b a vs ∧ SqB K H b2 a2 vs2 ∧ SqB K H b3 a3 vs3, fun i H x H3 => ∃ (T : Addr) (u w t : V), x = .ref T ∧ H T = none ∧ H3 = upd H T (.tup [u, w, t]) ∧ vs[i]? = some u ∧ vs2[i]? = some w ∧ vs3[i]? = some t, by rw [zip3_len, q.length, q2.length, q3.length], ⟨fun i H hi g => ?_, fun H g => ⟨?_, ?_⟩, fun i H x H3 hi g y => ?_⟩, fun H2 k => ⟨h1.at fun o => k a o n, h2.at fun o => k a2 o n2, h3'.at fun o => k a3 o n3⟩, fun i H2 x H3 d N3 k h3 h4 h5 e y => ?_⟩
  · simp only [ItN, List.forall_mem_cons, List.not_mem_nil, false_implies, implies_true, and_true]
    exact ⟨⟨vs, _, g.1, List.getElem?_eq_getElem (by omega)⟩, ⟨vs2, _, g.2.1, List.getElem?_eq_getElem (by omega)⟩, ⟨vs3, _, g.2.2, List.getElem?_eq_getElem (by omega)⟩⟩
  · simp only [List.forall_mem_cons, List.not_mem_nil, false_implies, implies_true, and_true]
    exact ⟨⟨vs, g.1⟩, ⟨vs2, g.2.1⟩, ⟨vs3, g.2.2⟩⟩
  · by_cases l : vs.length ≤ min vs2.length vs3.length
    · exact ⟨(b, a), by simp, vs, g.1, by omega⟩
    · rcases Nat.le_total vs2.length vs3.length with l2 | l2
      · exact ⟨(b2, a2), by simp, vs2, g.2.1, by omega⟩
      · exact ⟨(b3, a3), by simp, vs3, g.2.2, by omega⟩
  · obtain ⟨T, ws, e1, e2, e3, e4, e5⟩ := y
    have f1 := e5 0 (b, a) vs rfl g.1
    have f2 := e5 1 (b2, a2) vs2 rfl g.2.1
    have f3 := e5 2 (b3, a3) vs3 rfl g.2.2
    match ws, e4 with
    | [u, w, t], _ => exact ⟨T, u, w, t, e1, e2, e3, f1.symm, f2.symm, f3.symm⟩
  · obtain ⟨T, u, w, t, rfl, hT, rfl, e1, e2, e3⟩ := y
    obtain ⟨z, z2, z3, e4, e5, e6, rfl⟩ := zip3_get e
    exact tup_new hT h4 h5 ⟨u, _, rfl, (get_both q e4 e1).move k hs h3, w, _, rfl, (get_both q2 e5 e2).move k hs h3, t, _, rfl, (get_both q3 e6 e3).move k hs h3, rfl⟩
end
end Mi
namespace Mi
open PySem PySem.W PySem.Calls PyProof.Rows L2
open PySem.Builtin PySem.Builtin.ObjectAttr
/-- an exception of the class at C, its arguments at t, its dict -/
abbrev exR (C t : Addr) (d : Option Addr) : Obj := { cls := .ref C, dict := d, data := .fields #[.ref t, .none, .none, .none, .bool false, .none] }
/-- what the written part says of the class at C, straight over the built-in class B -/
structure ExK (K : Frag) (C : Addr) (B newId initId : String) (bmB : List Value) : Prop where
  fb : ExcBaseFacts B newId initId bmB
  kf : KxsFacts B initId
  pass : ∀ self, refuseLoop self "__setattr__" bmB = pure ()
  ob : bmB.contains (.type "object") = true
  cls : ∃ nm q N bs sn sub ab col dd k0 k1 k2 k3 k5, K.lookup C = some (excClassObj nm q C N bs bmB true sn sub ab col dd k0 k1 k2 k3 k5 newId)
  sa : findIn K (.ref C) "__setattr__" = some (some (.builtin "object.__setattr__"))
  al : alongIn K "__init__" bmB = some (some (.builtin initId))
  opq : nsIn K cStatics "thirdparty.any" = some none
section
variable {prog : Program} {w : World} {A : Around} {R : Result → Shared → Prop} {K : Frag} {C : Addr} {B newId initId : String} {bmB : List Value} {h : Heap} {g : Array GenState} {d : Drawn} {t : Nat} {os : OsState}
theorem ExK.clsIn (T : ExK K C B newId initId bmB) : ∃ cd, clsIn K C = some cd ∧ cd.mro = .ref C :: bmB ∧ cd.hasDict = true := by
  obtain ⟨nm, q, N, bs, sn, sub, ab, col, dd, k0, k1, k2, k3, k5, hC⟩ := T.cls
  refine ⟨{ name := nm, bases := bs, mro := .ref C :: bmB, ns := N, qualname := q, hasDict := true, slotNames := sn, subclasses := sub, abstract := ab, collection := col, hasDel := false }, ?_, rfl, rfl⟩
  unfold PySem.W.clsIn
  rw [hC] <;> rfl
theorem mro_in (T : ExK K C B newId initId bmB) {b : Value} (hb : (Value.ref C :: bmB).contains b = true) : mroIn K C b = some true := by
  obtain ⟨cd, h1, h2, _⟩ := T.clsIn
  unfold mroIn
  rw [h1, Option.bind_some, h2, if_neg (show ¬ (List.isEmpty (Value.ref C :: bmB) = true) from Bool.false_ne_true), hb]
/-- the first store on such an exception lays its dict -/
theorem ex_store (T : ExK K C B newId initId bmB) {name : Str} {tk : Tok} {v : Value} {x t1 : Addr} (X : K.In h) (hx : h.get? x = some (exR C t1 none)) (ha : findIn K (.ref C) name = some none)
    (hq : ∀ h' tk' dx, (∀ b o, b ≠ x → h.get? b = some o → h'.get? b = some o) → h.objs.size ≤ dx → dx ≠ x → h'.get? x = some (exR C t1 (some dx)) →
      h'.Ns1 dx (fun y => if y = name then some v else none) → R (.ok (.ret .none)) ⟨h', g, d, tk', os⟩) :
    codeAny (model prog w) A (.call (.builtin "object.__setattr__") ⟨[.ref x, .str name tk, v], []⟩) R ⟨h, g, d, t, os⟩ := by
  obtain ⟨cd, hcd, hm, hh⟩ := T.clsIn
  have I : InstAt h x (exR C t1 none) C none := ⟨hx, rfl, rfl, trivial⟩
  have SF := PySem.F.store_object
  have hxs : x ≠ h.objs.size := Nat.ne_of_lt (Heap.lt_size hx)
  have sub : Looks (model prog w) h (isInstance (.ref x) (.type "object")) true := I.type.andThen (looks_mroIn X (mro_in T (by rw [List.contains_cons, T.ob, Bool.or_true])))
  refine codeAny_call_builtin SF.slot.plain SF.entry (@check_slot (model prog w) _ _ ⟨h, g, d, t, os⟩ "object.__setattr__" "object" "__setattr__" (.ref x) [.str name tk, v] [] _ SF.kind SF.split sub (SF.args (.ref x) (.str name tk) v) ?_)
  have hmr : Looks (model prog w) h (mroOf (.ref C)) cd.mro := (looks_clsIn X hcd).andThen .now
  have L3 : Looks (model prog w) h (storeTaker? none) none := .now
  have hcls : Looks (model prog w) h (classData C) cd := looks_clsIn X hcd
  have hp : refuseLoop (.ref x) "__setattr__" cd.mro = pure () := by
    rw [hm, refuseLoop_ref]
    exact T.pass _
  rw [osa_eq, refuse_eq]
  refine wpAny_bind (wpAny_bind (I.type.at (wpAny_bind (hmr.at ?_))))
  rw [hp]
  refine wpAny_pure (wpAny_bind (I.type.at (wpAny_bind ((looks_findIn X ha).at (wpAny_bind (L3.at ?_))))))
  show wpAny _ _ (storeInOwnDict (.ref x) (.ref C) (.str name tk) name v false) _ _ _
  obtain ⟨nm, bs, mro, ns, qn, hd, sn, sb, ab, col, del⟩ := cd
  dsimp only at hh
  subst hh
  unfold storeInOwnDict ownDictForStores
  repeat (first | with_reducible refine HandSPX.store_in_new ?_ ?_ | with_reducible refine wpAny_loadPart_at hx ?_ | with_reducible refine hcls.at ?_ | wp_step)
  · exact ⟨_, #[], _, (Heap.get?_update_ne _ _ _ _ hxs.symm).trans (Heap.get?_push_at rfl rfl), rfl, fun e he => absurd he (by simp), fun _ => rfl⟩
  · intro h' tk' hn' hs
    have hx₁ : (h.push { cls := .type "dict", data := .dict #[] }).get? x = some (exR C t1 none) := Heap.get?_push_of_some _ hx
    refine hq h' tk' h.objs.size (fun b o hb ho => ?_) (Nat.le_refl _) hxs.symm ?_ hn'
    · exact (hs.2 b (Nat.ne_of_lt (Heap.lt_size ho))).trans ((Heap.get?_update_ne _ _ _ _ hb).trans (Heap.get?_push_of_some _ ho))
    · exact (hs.2 x hxs).trans (Heap.get?_update_self _ hx₁ rfl)
/-- the built-in __init__ bound to x, called -/
theorem ex_init (T : ExK K C B newId initId bmB) {u x t0 : Addr} {rest : List Value} {E : Value → Shared → Prop} {Q : Value → Shared → Prop} (X : K.In h) (hu : h.get? u = some (kxs_mw initId x)) (hx : h.get? x = some (exR C t0 none)) (hz : rest.length ≤ sizeLine)
    (hq : ∀ h' t1, (∀ b o, b ≠ x → h.get? b = some o → h'.get? b = some o) → h'.get? x = some (exR C t1 none) → Q .none ⟨h', g, d, t, os⟩) :
    wpAny (model prog w) A (call (.ref u) rest) Q E ⟨h, g, d, t, os⟩ := by
  obtain ⟨nm, q, N, bs, sn, sub, ab, col, dd, k0, k1, k2, k3, k5, hC⟩ := T.cls
  refine wpAny_call (codeAny_of_tree ?_)
  show wpAny _ A.in1 (callAny (.ref u) ⟨rest, []⟩) _ _ _
  simp only [callAny]
  refine wpAny_bind (wpAny_load hu ?_)
  have m1 : (Value.type "method-wrapper" == Value.type "method" || Value.type "method-wrapper" == Value.type "builtin_function_or_method" || Value.type "method-wrapper" == Value.type "method-wrapper") = true := by decide
  simp only [kxs_mw, m1, if_true]
  refine KFB.if_so (by decide) ?_
  refine wpAny_bind (check_bound_init T.fb.toExcCallFacts (X _ _ hC) hx rfl ?_)
  refine wpAny_bind (wpAny_pure (wpAny_pure ?_))
  refine ⟨plainId_quiet T.fb.init.plain _, codeAny_builtin T.fb.initEntry ?_⟩
  exact exc_init_tree (cls := .ref C) (t0 := t0) (dv := none) (c2 := .none) (c3 := .none) (b4 := .bool false) hx hz fun h' k e _ => hq h' _ k e
theorem meth_eq {o : Expr} {name : Str} {apos pos : Pos} {x : Str} {p4 : Pos} {env : PySem.Env} (hl : (apos.endLine == pos.line) = true) : PySem.eval (.Call (.Attribute o name apos) [.Name x p4] [] pos) env = (do
      let ov ← attributeBase o name env (PySem.eval o env)
      standAt apos.atName
      let (f, first) ← holding [ov] (getMethod ov name (do return (← importBound o env).getD true))
      callWith pos f first (backTo pos (starEach [.Name x p4] env)) []) := by
  rw [arm_eval_Call]
  refine bind_congr fun ov => bind_congr fun _ => ?_
  have hform : methodCallForm (([.Name x p4] : List Expr).length + ([] : List Keyword).length) (backTo pos (starEach [.Name x p4] env)) (backToKw pos (keywordEach [] env)) = true := rfl
  have hpos : methodCallPos true o env apos pos = pure pos := by unfold methodCallPos; simp [hl]
  unfold methodCall calleeOf
  rw [hform]
  simp only [if_true]
  refine bind_congr fun f => ?_
  rw [hpos, pure_bind]
  rfl
/-- the row of such an __init__ -/
def iniBody (me x f : Str) : List Stmt → Bool
  | [.Expr (.Call (.Attribute (.Call (.Name s0 _) [] [] _) m ap) [.Name y _] [] cp) _, .Assign [.Attribute (.Name s1 _) f1 _] (.Name z _) _] => decide (s0 = ("super" : Str)) && decide (m = ("__init__" : Str)) && decide (y = x) && decide (s1 = me) && decide (f1 = f) && decide (z = x) && (ap.endLine == cp.line)
  | _ => false
theorem ini_inv {me x f : Str} {body : List Stmt} (h : iniBody me x f body = true) : ∃ p1 p2 p3 p4 p5 p6 p7 p8 p9 p10, body = [.Expr (.Call (.Attribute (.Call (.Name "super" p1) [] [] p2) "__init__" p3) [.Name x p4] [] p5) p6, .Assign [.Attribute (.Name me p7) f p8] (.Name x p9) p10] ∧ (p3.endLine == p5.line) = true := by
  unfold iniBody at h
  split at h
  · simp only [Bool.and_eq_true, decide_eq_true_eq] at h
    obtain ⟨⟨⟨⟨⟨⟨h1, h2⟩, h3⟩, h4⟩, h5⟩, h6⟩, h7⟩ := h
    subst h1 h2 h3 h4 h5 h6
    exact ⟨_, _, _, _, _, _, _, _, _, _, rfl, h7⟩
  · cases h
/-- its names -/
def iniScope (me x : Str) (sc : Scope) : Bool := (match sc.kind with | .function => true | _ => false) && !sc.isCoroutine && !sc.isGenerator && decide (sc.names.lookup me = some .local) && decide (sc.names.lookup x = some .local) && decide (sc.names.lookup ("super" : Str) = some .globalImplicit) &&
  decide (sc.names.lookup ("__class__" : Str) = some .free) && (sc.names.all fun y => match y.2 with | .cell => false | _ => true) && decide (me ≠ x) && !(me == ("__debug__" : Str)) && !(x == ("__debug__" : Str))
/-- what the written part says of the def -/
structure IniK (prog : Program) (K : Frag) (C fI : Addr) (me x f : Str) (fd : FuncData) : Prop where
  fn : ∃ oc od osl, K.lookup fI = some ⟨oc, od, .func fd, osl⟩
  code : ∃ cda ccl cdd vs ccs file tf, fd.code = .ref cda ∧ K.lookup cda = some ⟨ccl, cdd, .fields vs, ccs⟩ ∧ vs[2]? = some (.str file tf) ∧ (prog.main.file == file) = true
  cin : codeIn K fd.code fd.qualname = true
  cell : ∃ cc cl cld csl, fd.closure = [(("__class__" : Str), cc)] ∧ K.lookup cc = some ⟨cl, cld, .cell (some (.ref C)), csl⟩
  glob : fd.globals = mainGlobals
  blt : fd.builtins = builtinsNs
  body : ∃ b, fd.body = .stmts b ∧ iniBody me x f b = true
  sc : iniScope me x fd.scope = true
  args : plainArgs [me, x] fd.params = true
  dfl : fd.defaults = .none
  top : (prog.main.scope.names.lookup ("super" : Str)).isSome = false
theorem ini_run {mg : Str → Option Value} {base : Heap} {fI e t0 : Addr} {me x f : Str} {fd : FuncData} {v : Value} (T : ExK K C B newId initId bmB) (J : IniK prog K C fI me x f fd) (Md : Mod K mg base) (kb : ∀ b o, base.get? b = some o → h.get? b = some o) (hs : mg "super" = none)
    (ha : findIn K (.ref C) f = some none) (hroom : A.depth < recursionLimit) (he : h.get? e = some (exR C t0 none)) (hbe : base.get? e = none)
    (hq : ∀ h' tk' t1 dx, (∀ b o, b ≠ e → h.get? b = some o → h'.get? b = some o) → h.objs.size ≤ dx → dx ≠ e → h'.get? e = some (exR C t1 (some dx)) → h'.Ns1 dx (fun y => if y = f then some v else none) → R (.ok (.ret .none)) ⟨h', g, d, tk', os⟩) :
    codeAny (model prog w) A (.call (.ref fI) ⟨[.ref e, v], []⟩) R ⟨h, g, d, t, os⟩ := by
  have X : K.In h := Md.kin.keeps kb
  obtain ⟨oc, od, osl, hfn⟩ := J.fn
  obtain ⟨cda, ccl, cdd, vs, ccs, file, tf, hc1, hc2, hc3, hc4⟩ := J.code
  obtain ⟨cc, cl, cld, csl, hcl1, hcl2⟩ := J.cell
  obtain ⟨bd, hb1, hb2⟩ := J.body
  obtain ⟨p1, p2, p3, p4, p5, p6, p7, p8, p9, p10, rfl, hline⟩ := ini_inv hb2
  have hsc := J.sc
  unfold iniScope at hsc
  simp only [Bool.and_eq_true, decide_eq_true_eq, Bool.not_eq_true'] at hsc
  obtain ⟨⟨⟨⟨⟨⟨⟨⟨⟨⟨s1, s2⟩, s3⟩, s4⟩, s5⟩, s6⟩, s7⟩, s8⟩, s9⟩, s10⟩, s11⟩ := hsc
  have hk : fd.scope.kind = .function := by
    cases e1 : fd.scope.kind <;> rw [e1] at s1 <;> first | rfl | cases s1
  have hnc : ∀ y ∈ fd.scope.names, y.2 ≠ .cell := fun y hy z => by
    have := List.all_eq_true.mp s8 y hy
    rw [z] at this
    cases this
  obtain ⟨mb, hmb1, hmb2⟩ := Md.blt
  have hbind : ∀ s, BindsTo s fd ⟨[.ref e, v], []⟩ [(me, .ref e), (x, v)] := fun s => by
    obtain ⟨nm, qn, pr, bo, sc, gl, cls, df, kd, dc, pm, an, cdv, ct, bl⟩ := fd
    have hdf : df = .none := J.dfl
    subst hdf
    have hgl : gl = mainGlobals := J.glob
    have hbl : bl = builtinsNs := J.blt
    subst hgl hbl
    have hp := bind_args (x := nm) (qual := qn) (body := []) (scope := sc) (kV := kd) (doc := dc) (pm := pm) (an := an) (cdv := cdv) (ct := ct) (params := pr) (ps := [me, x]) J.args (by simp [s9]) [.ref e, v] [] [] rfl rfl List.nodup_nil (fun k => by simp)
    refine .of_eq ?_
    have e0 : bindArgs ⟨nm, qn, pr, bo, sc, mainGlobals, cls, .none, kd, dc, pm, an, cdv, ct, builtinsNs⟩ ⟨[.ref e, v], []⟩ = bindArgs (fnOf nm qn pr [] sc .none kd dc pm an cdv ct) ⟨[.ref e, v], []⟩ := rfl
    rw [e0]
    refine hp.trans ?_
    have hne : (x == me) = false := beq_eq_false_iff_ne.mpr (Ne.symm s9)
    simp [List.lookup, hne]
  refine ks_codeAny_call_defAt (fd := fd) (binds := [(me, .ref e), (x, v)]) hroom (X _ _ hfn) rfl (Md.nolimit.keeps kb) (codeRec_of X J.cin) hb1 (hbind _) hnc (fun y hy => ?_) (fun h0 hns k0 => ?_) s2 s3 hk
  · rcases List.mem_cons.mp hy with rfl | hy
    · exact s4
    · rcases List.mem_cons.mp hy with rfl | hy
      · exact s5
      · cases hy
  have X0 : K.In h0 := X.keeps k0
  have kindOf : ∀ y, (callEnv fd h.objs.size fI).kindOf y = fd.scope.names.lookup y := fun y => rfl
  have hme : ([(me, Value.ref e), (x, v)].reverse.lookup me) = some (.ref e) := by
    have hne : (me == x) = false := beq_eq_false_iff_ne.mpr s9
    simp [List.lookup, hne]
  have hx : ([(me, Value.ref e), (x, v)].reverse.lookup x) = some v := by simp [List.lookup]
  have he0 := k0 _ _ he
  obtain ⟨cd, hcd, hmro, _⟩ := T.clsIn
  obtain ⟨nm, q, N, bs, sn, sub, ab, col, dd, kk0, kk1, kk2, kk3, kk5, hC⟩ := T.cls
  have hI : InstAt h0 e (exR C t0 none) C none := ⟨he0, rfl, rfl, trivial⟩
  obtain ⟨ar, ar2, hpa, hnm, hnm2⟩ : ∃ ar ar2, fd.params.posonlyargs ++ fd.params.args = [ar, ar2] ∧ ar.arg = me ∧ ar2.arg = x := by
    have h1 := J.args
    unfold plainArgs at h1
    simp only [Bool.and_eq_true, decide_eq_true_eq, List.isEmpty_iff] at h1
    obtain ⟨⟨⟨⟨h1, _⟩, _⟩, _⟩, h5⟩ := h1
    rw [h1, List.nil_append]
    rcases hl : fd.params.args with _ | ⟨a1, _ | ⟨a2, _ | ⟨_, _⟩⟩⟩ <;> rw [hl] at h5 <;> simp at h5
    exact ⟨a1, a2, rfl, h5.1, h5.2⟩
  have kb0 : ∀ b o, base.get? b = some o → h0.get? b = some o := fun b o z => k0 b o (kb b o z)
  have oL : h0.get? h.objs.size ≠ none := by
    obtain ⟨o, _, _, z, _⟩ := hns
    rw [z]
    exact fun y => nomatch y
  have eL : e ≠ h.objs.size := Nat.ne_of_lt (Heap.lt_size he)
  have hint : interactive (callEnv fd h.objs.size fI) = false := by
    have e1 : (callEnv fd h.objs.size fI).scope = fd.scope := rfl
    unfold interactive
    simp [e1, hk]
  refine ks_wpAt_execs_cons (ks_wpAt_Expr_any (ks_wpAt_MethodCall (ks_wpAt_super_base (env := callEnv fd h.objs.size fI) (ar := ar) s6 s7 (by decide) rfl (X0 _ _ hfn) rfl (by rw [hpa]; rfl) hc1 (X0 _ _ hc2) rfl hc3 hc4 J.top ?_) (meth_eq hline)) hint rfl)
  refine ks_loadName_global hk s6 (loadGlobal_builtin (mg := mg) (mb := mb) (by rw [show (callEnv fd h.objs.size fI).globals = mainGlobals from J.glob]; exact Md.glob.keeps kb0) hs (by rw [show (callEnv fd h.objs.size fI).builtins = builtinsNs from J.blt]; exact hmb1.keeps kb0) ((hmb2 _ (by decide)).trans (show bootBuiltins "super" = some (.type "super") from by decide +kernel)) ⟨rfl, ?_⟩)
  refine wpAny_loadName_free (c := cc) hk s7 (by show fd.closure.lookup _ = _; rw [hcl1]; rfl) ⟨_, X0 _ _ hcl2, rfl⟩ ?_
  refine wpAny_loadName_local hk (by rw [hnm]; exact s4) hns (by rw [hnm]; exact hme) ?_
  refine ks_wpAny_isType_cls (X0 _ _ hC) rfl ⟨rfl, ?_⟩
  refine ks_wpAny_call_super (X0 _ _ hC) rfl he0 rfl (fun c z => by cases z) (looks_mroIn X0 (mro_in T (by rw [List.contains_cons]; simp))) (fun h1 e1 k1 => ?_)
  have X1 : K.In h1 := X0.keeps k1
  have he1 := k1 _ _ he0
  have hB : Looks (model prog w) h1 (isInstance (.ref e) (.type B)) true := (InstAt.type (C := C) (od := none) ⟨he1, rfl, rfl, trivial⟩).andThen (looks_mroIn X1 (mro_in T (by rw [List.contains_cons, T.fb.hasB, Bool.or_true])))
  refine kxs_getMethod T.kf e1 (looks_opaque X1 T.opq) (l₀ := cd.mro) (fun A Q E s k q => wpAny_bind ((looks_clsIn X1 hcd) A _ E s k (wpAny_pure q))) rfl X1 (by rw [hmro]; simpa [List.dropWhile_cons] using T.al) hB (fun z => ?hxC) (by decide) ?_
  case hxC =>
    have := X1 _ _ hC
    rw [← z, he1] at this
    cases this
  have hns1 : h1.Ns h.objs.size (fun y => [(me, Value.ref e), (x, v)].reverse.lookup y) := hns.keeps k1
  have k2 : ∀ b o, h1.get? b = some o → (h1.push (kxs_mw initId e)).get? b = some o := fun b o z => Heap.get?_push_of_some _ z
  have hu2 : (h1.push (kxs_mw initId e)).get? h1.objs.size = some (kxs_mw initId e) := Heap.get?_push_size _ rfl
  have hd : (x == ("__debug__" : Str)) = false := s11
  refine kxs_callWith (i := initId) (x := e) rfl (evalArgs_plain ?_)
  refine PyProof.Rows.args_cons (wpAny_Name (wpAny_loadName_local (env := callEnv fd h.objs.size fI) (name := x) hk s5 (hns1.keeps k2) hx (PyProof.Rows.args_nil ⟨hu2, ?_⟩)) hd) rfl
  refine ex_init T (X1.keeps k2) hu2 (k2 _ _ he1) (by show 1 ≤ sizeLine; rw [sizeLine_eq]; omega) (fun h3 t1 k3 e3 => ?_)
  have k13 : ∀ b o, b ≠ e → h0.get? b = some o → h3.get? b = some o := fun b o hb z => k3 b o hb (k2 _ _ (k1 _ _ z))
  have X3 : K.In h3 := fun a o z => by
    have hb := Md.kin a o z
    refine k13 a o (fun ze => ?_) (kb0 _ _ hb)
    rw [ze, hbe] at hb
    cases hb
  have hns3 : h3.Ns h.objs.size (fun y => [(me, Value.ref e), (x, v)].reverse.lookup y) := hns1.at fun o z => k3 _ _ eL.symm (k2 _ _ z)
  have hd2 : (me == ("__debug__" : Str)) = false := s10
  refine ks_wpAt_execs_cons (ks_wpAt_Assign_Attr (wpAt_of_wpAny (wpAny_Name (wpAny_loadName_local (env := callEnv fd h.objs.size fI) (name := x) hk s5 hns3 hx (wpAny_Name (wpAny_loadName_local (env := callEnv fd h.objs.size fI) (name := me) hk s4 hns3 hme ?_) hd2)) hd)) rfl)
  refine set_plain X3 (ox := exR C t1 none) (od := none) ⟨e3, rfl, rfl, trivial⟩ T.sa ?_
  refine ex_store T X3 e3 ha (fun h4 tk4 dx k4 l4 n4 e4 ns4 => ?_)
  refine wpAt_of_wpAny (wpAny_execs_nil ?_)
  refine hq h4 tk4 t1 dx (fun b o hb z => k4 b o hb (k13 b o hb (k0 b o z))) ?_ n4 e4 ns4
  obtain ⟨oL3, _, _, z, _⟩ := hns3
  exact Nat.le_trans (Nat.le_of_lt (Heap.lt_size z)) l4
end
end Mi
namespace Mi
open PySem PySem.Spec PyProof.Rows L2
/-- at a: an exception of the class at C, its dict (none | at d) -/
def ExV (C : Addr) (d : Option Addr) (a : Addr) : HO := .ext fun h => ∃ (oe : Obj) (vs : Array Value), h.get? a = some oe ∧ oe.cls = .ref C ∧ oe.dict = d ∧ oe.data = .fields vs
theorem exV_ok {P : Program} {w : World} {H : Hp} {h : Heap} {a C : Addr} {d : Option Addr} {oe : Obj} {vs : Array Value} (e : h.get? a = some oe) (h1 : oe.cls = .ref C) (h2 : oe.dict = d) (h3 : oe.data = .fields vs) : ObjOk P w H h a (ExV C d a) :=
  ⟨⟨oe, vs, e, h1, h2, h3⟩, ⟨oe, e⟩, fun _ _ ⟨o, v, q, r⟩ k => ⟨o, v, k o q, r⟩⟩
theorem exV_at {P : Program} {w : World} {H : Hp} {h : Heap} {a b C : Addr} {d : Option Addr} (hok : HOk P w H h) (e : H a = some (ExV C d b)) : ∃ (oe : Obj) (vs : Array Value), h.get? b = some oe ∧ oe.cls = .ref C ∧ oe.dict = d ∧ oe.data = .fields vs := by
  have x : ObjOk P w H h a (.ext fun h => ∃ (oe : Obj) (vs : Array Value), h.get? b = some oe ∧ oe.cls = .ref C ∧ oe.dict = d ∧ oe.data = .fields vs) := hok a _ e
  exact x.1
/-- two new objects -/
theorem un_two {fs ex : List Addr} {H : Hp} {h h' : Heap} {a b : Addr} {o u : HO} (k : ∀ c z, h.get? c = some z → h'.get? c = some z) (ha : h.objs.size ≤ a) (hb : h.objs.size ≤ b) (na : H a = none) (nb : H b = none) : Un fs ex H (upd (upd H b u) a o) h h' where
  keep := fun c z q _ _ _ => k c z q
  slot := fun c z q _ _ _ => ⟨z.slots, k c z q⟩
  free := fun c z q n _ => by
    have hc := Heap.lt_size q
    rw [upd_ne (Nat.ne_of_lt (Nat.lt_of_lt_of_le hc ha)), upd_ne (Nat.ne_of_lt (Nat.lt_of_lt_of_le hc hb))]
    exact n
  there := fun c z q _ => ⟨z, k c z q⟩
  tups := fun c xs q => by rw [upd_ne (ne_of_none q na), upd_ne (ne_of_none q nb)]; exact q
  frzs := fun c z xs q => by rw [upd_ne (ne_of_none q na), upd_ne (ne_of_none q nb)]; exact q
  tbls := fun c ps q => ⟨#[], by rw [upd_ne (ne_of_none q na), upd_ne (ne_of_none q nb), q]; simp⟩
theorem hok_two {P : Program} {w : World} {H : Hp} {h h' : Heap} {a b : Addr} {o u : HO} (x : HOk P w H h) (k : ∀ c z, h.get? c = some z → h'.get? c = some z) (na : H a = none) (nb : H b = none) (hab : a ≠ b)
    (n1 : ObjOk P w (upd (upd H b u) a o) h' a o) (n2 : ObjOk P w (upd (upd H b u) a o) h' b u) : HOk P w (upd (upd H b u) a o) h' := fun c z e => by
  by_cases hc : c = a
  · subst hc; rw [upd_same] at e; cases e; exact n1
  · rw [upd_ne hc] at e
    by_cases hc2 : c = b
    · subst hc2; rw [upd_same] at e; cases e; exact n2
    · rw [upd_ne hc2] at e
      exact (x c z e).stay (fun y v _ q => k y v q) (fun y q => by rw [upd_ne (ne_of_none q na), upd_ne (ne_of_none q nb)]; exact q) fun y xs q => by rw [upd_ne (ne_of_none q na), upd_ne (ne_of_none q nb)]; exact q
section
variable {X : Cx} {C fI : Addr} {B newId initId : String} {bmB : List Value} {me x f : Str} {fd : FuncData} {ta : TA}
/-- what is known of a class with such an __init__ -/
structure MkK (X : Cx) (C fI : Addr) (B newId initId : String) (bmB : List Value) (me x f : Str) (fd : FuncData) : Prop where
  ex : ExK X.K C B newId initId bmB
  ini : IniK X.prog X.K C fI me x f fd
  iC : PySem.W.findIn X.K (.ref C) "__init__" = some (some (.ref fI))
  tI : PySem.W.typeIn X.K (.ref fI) = some (.type "function")
  na : PySem.W.findIn X.K (.ref C) f = some none
  kC : PySem.W.keepIn X.K (.ref C) = true
  sup : X.mg "super" = none
/-- C(v) at the level of the heap -/
theorem run_mk {pins : List (Addr × Obj)} {σ : L2.St} {H : Hp} {s : Shared} {v : V} {u : Value} {E : Value → Shared → Prop} {Q : Value → Shared → Prop} (T : MkK X C fI B newId initId bmB me x f fd) (hdp : X.A.depth + 5 < recursionLimit) (I : Inv X pins σ H s) (r : RelV v u)
    (h : ∀ a dx h' tk' t1, H a = none → H dx = none → a ≠ dx → (∀ b o, s.heap.get? b = some o → h'.get? b = some o) → s.heap.objs.size ≤ a → s.heap.objs.size ≤ dx → h'.get? a = some (exR C t1 (some dx)) →
      Inv X pins σ (upd (upd H dx (.xd [(f, v)])) a (ExV C (some dx) a)) { s with heap := h', toks := tk' } → Q (.ref a) { s with heap := h', toks := tk' }) :
    wpAny (model X.prog X.w) X.A (call (.ref C) [u]) Q E s := by
  obtain ⟨nm, q, N, bs, sn, sub, ab, col, dd, k0, k1, k2, k3, k5, hC⟩ := T.ex.cls
  obtain ⟨hp, g, dr, tk, os⟩ := s
  have hsz : hp.objs.size ≤ hp.objs.size + 1 := Nat.le_succ _
  have kk : ∀ b o, hp.get? b = some o → ((hp.push (PySem.W.kdv_tup [u])).push (exR C hp.objs.size none)).get? b = some o := fun b o e => Heap.get?_push_of_some _ (Heap.get?_push_of_some _ e)
  have hget : ((hp.push (PySem.W.kdv_tup [u])).push (exR C hp.objs.size none)).get? (hp.objs.size + 1) = some (exR C hp.objs.size none) := by heap_get
  have hn : H (hp.objs.size + 1) = none := I.hok.fresh hsz
  have hbk : ∀ b o, X.base.get? b = some o → hp.get? b = some o := fun b o z => I.bk b o z
  refine wpAny_call (PySem.HandSPX.call_own T.ex.fb (fun _ => rfl) (I.kIn _ _ hC) (PySem.W.looks_findIn I.kIn T.iC) (fun z => PySem.W.bind_fn I.kIn z T.tI) (by show 1 ≤ sizeLine; rw [sizeLine_eq]; omega) ?_)
  refine ini_run T.ex T.ini I.mod (fun b o z => kk b o (hbk b o z)) T.sup T.na (by rw [make_depth]; omega) hget ?_ ?_
  · cases e : X.base.get? (hp.objs.size + 1) with
    | none => rfl
    | some o => exact absurd (Heap.lt_size (hbk _ _ e)) (Nat.not_lt.mpr hsz)
  · intro h' tk' t1 dx k l ne e ns
    have kA : ∀ b o, hp.get? b = some o → h'.get? b = some o := fun b o z => k b o (Nat.ne_of_lt (Nat.lt_succ_of_lt (Heap.lt_size z))) (kk b o z)
    have l2 : hp.objs.size ≤ dx := by
      exact Nat.le_trans (Nat.le_of_lt (Nat.lt_trans (Nat.lt_succ_self _) (Heap.lt_size hget))) l
    have hd : H dx = none := I.hok.fresh l2
    have J : Inv X pins σ (upd (upd H dx (.xd [(f, v)])) (hp.objs.size + 1) (ExV C (some dx) (hp.objs.size + 1))) ⟨h', g, dr, tk', os⟩ := by
      refine I.un (t' := tk') (un_two kA hsz l2 hn hd) (hok_two I.hok kA hn hd (Ne.symm ne) (exV_ok e rfl rfl rfl) ?_)
      exact ⟨_, ns, fun y => by
        by_cases hy : y = f
        · subst hy
          simp only [List.lookup, beq_self_eq_true, if_true]
          exact r
        · have : (y == f) = false := beq_eq_false_iff_ne.mpr hy
          simp only [List.lookup, this, if_neg hy]
          trivial⟩
    exact ⟨rfl, h (hp.objs.size + 1) dx h' tk' t1 hn hd (Ne.symm ne) kA hsz l2 e J⟩
/-- C(e) as a value -/
def tMkV (C : Addr) (f : Str) (ta : TA) : TE := fun σ H Q => ta σ H fun vs H1 => ∃ v, vs = [v] ∧ ∀ a dx, H1 a = none → H1 dx = none → a ≠ dx → Q (.ref a) (upd (upd H1 dx (.xd [(f, v)])) a (ExV C (some dx) a))
theorem pe_mk {y : Str} {e : Expr} {p pos : Pos} (T : MkK X C fI B newId initId bmB me x f fd) (hdp : X.A.depth + 5 < recursionLimit) (hg : Gl X y) (hm : X.mg y = some (.ref C)) (hA : PA X [e] ta) (hdb : (y == ("__debug__" : Str)) = false) (hst : starEach [e] X.env = [(false, eval e X.env)]) :
    PE X (.Call (.Name y p) [e] [] pos) (tMkV C f ta) := by
  refine ⟨fun pins s σ H Q I h => ?_⟩
  refine wpAny_Call_Name_kw (ld_glob I hg hm ?_ hdb)
  refine PySem.W.callWith_K (h₀ := X.base) I.ok.mod.kin T.kC (thn (hA.run pos pins s σ H _ I h) fun us s1 ⟨vs, H1, I1, r1, v, ev, q1⟩ => ⟨I1.kIn, ?_⟩) hst rfl
  subst ev
  cases r1 with
  | @cons _ u0 _ ur ra rw' =>
    cases rw'
    exact run_mk T hdp I1 ra fun a dx _ _ t1 n1 n2 ne _ _ _ _ J => ⟨.ref a, _, J, rfl, q1 a dx n1 n2 ne⟩
/-- one new object -/
theorem un_one {fs ex : List Addr} {H : Hp} {h h' : Heap} {b : Addr} {u : HO} (k : ∀ c z, h.get? c = some z → h'.get? c = some z) (hb : h.objs.size ≤ b) (nb : H b = none) : Un fs ex H (upd H b u) h h' where
  keep := fun c z q _ _ _ => k c z q
  slot := fun c z q _ _ _ => ⟨z.slots, k c z q⟩
  free := fun c z q n _ => by
    have hc := Heap.lt_size q
    rw [upd_ne (Nat.ne_of_lt (Nat.lt_of_lt_of_le hc hb))]
    exact n
  there := fun c z q _ => ⟨z, k c z q⟩
  tups := fun c xs q => by rw [upd_ne (ne_of_none q nb)]; exact q
  frzs := fun c z xs q => by rw [upd_ne (ne_of_none q nb)]; exact q
  tbls := fun c ps q => ⟨#[], by rw [upd_ne (ne_of_none q nb), q]; simp⟩
/-- raise C(e) -/
def tMkX (C : Addr) (f : Str) (ta : TA) : L2.St → Hp → XK → Prop := fun σ H Q => ta σ H fun vs H1 => ∃ v, vs = [v] ∧ ∀ dx, H1 dx = none → Q (.ref C) (some dx) (upd H1 dx (.xd [(f, v)]))
theorem pmk_mk {y : Str} {e : Expr} {p pos : Pos} (T : MkK X C fI B newId initId bmB me x f fd) (hr : Raises X (.ref C)) (hdp : X.A.depth + 5 < recursionLimit) (hg : Gl X y) (hm : X.mg y = some (.ref C)) (hA : PA X [e] ta) (hdb : (y == ("__debug__" : Str)) = false) (hst : starEach [e] X.env = [(false, eval e X.env)]) :
    PMk X (.Call (.Name y p) [e] [] pos) (tMkX C f ta) := by
  intro pins s σ H Q I h
  refine wpAny_Call_Name_kw (ld_glob I hg hm ?_ hdb)
  refine PySem.W.callWith_K (h₀ := X.base) I.ok.mod.kin T.kC (thn (hA.run pos pins s σ H _ I h) fun us s1 ⟨vs, H1, I1, r1, v, ev, q1⟩ => ⟨I1.kIn, ?_⟩) hst rfl
  subst ev
  cases r1 with
  | @cons _ u0 _ ur ra rw' =>
    cases rw'
    refine run_mk T hdp I1 ra fun a dx h' tk' t1 n1 n2 ne kA la ld ea J => ?_
    obtain ⟨G, g1, g2⟩ := restrict h' fun b => decide (b ≠ a)
    have gk : ∀ b, b ≠ a → G.get? b = h'.get? b := fun b hb => g1 b (decide_eq_true hb)
    have ge : G.get? a = none := g2 a (by simp)
    have kG : ∀ b o, s1.heap.get? b = some o → G.get? b = some o := fun b o z => by
      rw [gk b (Nat.ne_of_lt (Nat.lt_of_lt_of_le (Heap.lt_size z) la))]
      exact kA b o z
    have hx : ObjOk X.prog X.w (upd (upd H1 dx (.xd [(f, v)])) a (ExV C (some dx) a)) h' dx (.xd [(f, v)]) := J.hok dx _ (by rw [upd_ne (Ne.symm ne), upd_same])
    have hok : HOk X.prog X.w (upd H1 dx (.xd [(f, v)])) G := fun b o z => by
      by_cases hb : b = dx
      · subst hb
        rw [upd_same] at z
        cases z
        obtain ⟨mA, hns, rel⟩ := hx
        exact ⟨mA, hns.at fun o y => (gk b (Ne.symm ne)).trans y, rel⟩
      · rw [upd_ne hb] at z
        exact (I1.hok b o z).stay (fun y w _ q => kG y w q) (fun y q => by rw [upd_ne (ne_of_none q n2)]; exact q) fun y xs q => by rw [upd_ne (ne_of_none q n2)]; exact q
    have K : Inv X pins σ (upd H1 dx (.xd [(f, v)])) { s1 with heap := G, toks := tk' } := I1.un (t' := tk') (un_one kG ld n2) hok
    exact ⟨a, _, _, { s1 with heap := G, toks := tk' }, upd H1 dx (.xd [(f, v)]), .ref C, some dx, rfl, K, fun b o z => by
        by_cases hb : b = a
        · rw [hb, ge] at z; cases z
        · exact (gk b hb).symm.trans z, ge, ea, ⟨rfl, rfl⟩, rfl, rfl, by rw [upd_ne ne]; exact n1, rfl, J.bare, hr, q1 dx n2⟩
/-- raise C() of a class without __init__ -/
theorem pmk_mk0 {y : Str} {p pos : Pos} (F : ExcBaseFacts B newId initId bmB) (q : PySem.W.excIn X.K C bmB newId = true) (gC : X.mg y = some (.ref C)) (kC : PySem.W.keepIn X.K (.ref C) = true) (hr : Raises X (.ref C)) (hg : Gl X y) (hdb : (y == ("__debug__" : Str)) = false) :
    PMk X (.Call (.Name y p) [] [] pos) (fun _ H Q => Q (.ref C) none H) := by
  intro pins s σ H Q I h
  refine wpAny_Call_Name_kw (ld_glob I hg gC ?_ hdb)
  refine PySem.W.callWith_K0 I.kIn kC ?_
  obtain ⟨bm, N, nm, qn, bs, hdct, sn, sub, ab, col, dd, k0, k1, k2, k3, k5, mN, hC, hN, hni, T⟩ := exc_obj I.kIn q
  exact wpAny_call_exc_subT F T hC hN hni (fun h' e hm => mk_of I hm hr h (I.hok.gone hm.new)) (Nat.zero_le _)
end
end Mi
namespace Mi
open PySem PySem.Spec PyProof.Rows L2
/-- what isinstance asks of a value -/
def KitV (K : PySem.W.Frag) (H : Hp) (v : V) (t : Value) : Prop := ∀ (X : Cx) (pins : List (Addr × Obj)) (σ : L2.St) (s : Shared) (u : Value), X.K = K → Inv X pins σ H s → L2.RelV v u → ∃ P : Heap → Prop, PySem.W.KitX K u t P ∧ P s.heap ∧ u ≠ .builtin "__main__.__loader__#opaque"
theorem TyX.kit {K : PySem.W.Frag} {H : Hp} {v : V} {t : Value} (h : TyX K H v t) : KitV K H v t := fun X pins σ s u e I r => by
  subst e
  exact kit_of I r h
/-- what is known of an exception class's instances -/
structure ClsX (K : PySem.W.Frag) (C : Addr) : Prop where
  cl : (PySem.W.clsIn K C).isSome = true
  ga : PySem.W.findIn K (.ref C) "__getattribute__" = some (some (.builtin "BaseException.__getattribute__"))
  gt : PySem.W.findIn K (.ref C) "__getattr__" = some none
  su : PySem.W.subIn K (.ref C) (.type "BaseException") = some true
  ca : PySem.W.findIn K (.ref C) "__class__" = some (some (.builtin "object.__class__"))
  sp : PySem.W.specialIn K (.builtin "object.__class__") "__get__" = some (some (.builtin "getset_descriptor.__get__"))
  tk : PySem.W.takesIn K (.builtin "object.__class__") = some true
  mo : PySem.W.mroIn K C (.type "object") = some true
  hd : PySem.W.hasDictIn K C = true
theorem inst_of {X : Cx} {pins : List (Addr × Obj)} {σ : L2.St} {s : Shared} {H : Hp} {a C : Addr} {dd : Option Addr} (I : Inv X pins σ H s) (he : H a = some (ExV C dd a)) (hd : ∀ e, dd = some e → ∃ u, H e = some u) :
    ∃ oe od, PySem.W.InstAt s.heap a oe C od ∧ (∀ e, dd = some e → ∃ o, s.heap.get? e = some o ∧ od = some o) := by
  obtain ⟨oe, vs, h1, h2, h3, h4⟩ := exV_at I.hok he
  have nc : PySem.W.notCls oe = true := by unfold PySem.W.notCls; rw [h4] <;> rfl
  cases dd with
  | none => exact ⟨oe, none, ⟨h1, h2, nc, by rw [h3]; trivial⟩, fun e z => nomatch z⟩
  | some e =>
    obtain ⟨u, hu⟩ := hd e rfl
    obtain ⟨o, ho⟩ := objOk_get (I.hok e u hu)
    exact ⟨oe, some o, ⟨h1, h2, nc, by rw [h3]; exact ho⟩, fun e' z => by cases z; exact ⟨o, ho, rfl⟩⟩
theorem kitV_exc {K : PySem.W.Frag} {H : Hp} {a C : Addr} {dd : Option Addr} (T : ClsX K C) (he : H a = some (ExV C dd a)) (hd : ∀ e, dd = some e → ∃ u, H e = some u) : KitV K H (.ref a) (.ref C) := fun X pins σ s u e I r => by
  obtain rfl : u = Value.ref a := r
  obtain ⟨oe, od, J, _⟩ := inst_of I he hd
  exact ⟨_, PySem.W.kitx_exc T.cl T.ga T.gt T.su T.ca T.sp T.tk T.mo, J, fun z => nomatch z⟩
/-- isinstance(x, c) -/
def rIsiV (K : PySem.W.Frag) : List V → Hp → VK → Prop := fun xs H Q => ∃ (x c : V) (t u : Value) (b : Bool), xs = [x, c] ∧ ClsV c u ∧ KitV K H x t ∧ PySem.W.kitOne K t u = some b ∧ Q (.bl b) H
/-- isinstance(x, (c1, ..)) -/
def rIsiTV (K : PySem.W.Frag) : List V → Hp → VK → Prop := fun xs H Q => ∃ (x : V) (tp : Addr) (cs : List V) (t : Value) (us : List Value) (b : Bool), xs = [x, .ref tp] ∧ H tp = some (.tup cs) ∧ Paired ClsV cs us ∧ KitV K H x t ∧ PySem.W.kitAny K t us = some b ∧ Q (.bl b) H
section
variable {X : Cx}
theorem call_isiV : CallR X (.builtin "isinstance") (rIsiV X.K) := by
  intro pins s σ H xs us Q I r h
  obtain ⟨x, c, t, u, b, rfl, k, ty, e, q⟩ := h
  obtain ⟨u1, u2, rfl, r1, r2⟩ := vals2 r
  have e2 := k.eq r2
  subst e2
  obtain ⟨P, Z, p, hx⟩ := ty X pins σ s u1 rfl I r1
  exact PySem.W.kia_one Z I.kIn p e hx fun tk => ⟨.bl b, H, I.tok tk, rfl, q⟩
theorem call_isiTV : CallR X (.builtin "isinstance") (rIsiTV X.K) := by
  intro pins s σ H xs us Q I r h
  obtain ⟨x, tp, cs, t, ws, b, rfl, hT, k, ty, e, q⟩ := h
  obtain ⟨u1, u2, rfl, r1, r2⟩ := vals2 r
  cases (show u2 = Value.ref tp from r2)
  obtain ⟨P, Z, p, hx⟩ := ty X pins σ s u1 rfl I r1
  obtain ⟨_, its, rv, o, h1, h2, n, h3⟩ := (show ObjOk X.prog X.w H s.heap tp (.tup cs) from I.hok tp _ hT)
  have e3 := ClsV.all k rv
  subst e3
  obtain ⟨oc, od, dt, sl⟩ := o
  simp only at h2 h3
  subst h2 h3
  exact PySem.W.kia_tup Z I.kIn p h1 e hx fun tk => ⟨.bl b, H, I.tok tk, rfl, q⟩
/-- e.f, e an exception -/
def tAttr (K : PySem.W.Frag) (f : Str) (te : TE) : TE := fun σ H Q => te σ H fun x H1 => ∃ (a C dx : Addr) (v : V), x = .ref a ∧ H1 a = some (ExV C (some dx) a) ∧ ClsX K C ∧ PySem.W.findIn K (.ref C) f = some none ∧ H1 dx = some (.xd [(f, v)]) ∧ Q v H1
theorem pe_attr {e : Expr} {te : TE} {f : Str} {pos : Pos} (he : PE X e te) (hb : attributeBase e f X.env (PySem.eval e X.env) = PySem.eval e X.env) : PE X (.Attribute e f pos) (tAttr X.K f te) := by
  refine ⟨fun pins s σ H Q I h => ?_⟩
  refine attr_of hb (thn (he.run pins s σ H _ I h) fun u s1 ⟨x, H1, I1, rx, a, C, dx, v, ex, ea, T, hno, ed, q⟩ => ?_)
  subst ex
  obtain rfl : u = Value.ref a := rx
  obtain ⟨oe, od, J, hod⟩ := inst_of I1 ea (fun e z => ⟨_, by cases z; exact ed⟩)
  have hx : ObjOk X.prog X.w H1 s1.heap dx (.xd [(f, v)]) := I1.hok dx _ ed
  obtain ⟨mA, hns, hr⟩ := hx
  obtain ⟨o, ho, hl⟩ := lookIn_ns hns
  obtain ⟨o2, h2, rfl⟩ := hod dx rfl
  rw [ho] at h2
  cases h2
  have hlk : ([(f, v)] : List (Str × V)).lookup f = some v := by simp [List.lookup]
  obtain ⟨u, hu, ru⟩ := RelO.some_of (v := v) (o := mA f) (by rw [← hlk]; exact hr f)
  exact HandSPX.exc_get I1.kIn J T.ga T.gt T.su (PySem.W.findObj_own T.hd hno rfl (by rw [hl, hu])) (handed_of ru) ⟨v, H1, I1.tok _, ru, q⟩
end
end Mi
namespace Mi
open PySem L2
/-- what a def promises: it answers as cl f does -/
def Cc.at (c : Cc) (β : Option Addr) : Cc := { c with β := β }
/-- what results of def f: new, if f makes its result anew -/
def RepQ (c : Cc) (f : Nat) (H H' : Hp) (N : Addr → Prop) (d : D) (v : V) : Prop := Rep c H' N d v ∧ (c.frs f = true → RepF c H H' N d v)
def spF (c : Cc) (cl : Nat → List D → M D) (f n : Nat) : Sp := fun vs H Q E => vs.length = n ∧ ∃ (β : Option Addr) (N0 : Addr → Prop) (ds : List D) (b : Bx), RepL (c.at β) H N0 ds vs ∧ (∀ a, N0 a → H a ≠ none) ∧ (∀ a, β = some a → N0 a) ∧ BoxAt (c.at β) H b ∧
  Out (c.at β) (fun H' d v => RepQ (c.at β) f H H' N0 d v) [] H (fun cls dd _ H' => E cls dd H') Q (cl f ds b)
/-- a class that isinstance is asked about -/
def TyIs (mg : Str → Option Value) (cls : List Str) (t : Ty) (cv : V) (u : Value) : Prop := (∃ y, tyStr t = some y ∧ cv = .ty y ∧ u = .type y) ∨ (∃ j C, t = .exc j ∧ excName j ∈ cls ∧ mg (excName j) = some (.ref C) ∧ cv = .ref C ∧ u = .ref C)
/-- a value not built of others -/
def flatR : D → V → Prop
  | .non, v => v = .non
  | .bl b, v => v = .bl b
  | .int i, v => v = .int i
  | .str x, v => v = .str x ∧ strFits x = true
  | _, _ => False
theorem flatR.rep {c : Cc} {H : Hp} {N : Addr → Prop} {d : D} {v : V} (h : flatR d v) : Rep c H N d v := by
  cases d <;> first | exact h | exact h.elim
theorem flatR.of {c : Cc} {H : Hp} {N : Addr → Prop} {d : D} {v : V} (h : Rep c H N d v) (f : d.flat = true) : flatR d v := by
  cases d <;> first | exact h | cases f
/-- an exception's field as it flies -/
def ExFl (j : Nat) (ds : List D) (dd : Option Addr) (H : Hp) : Prop := match excFld j with
  | none => ds = [] ∧ dd = none
  | some f => ∃ e v d, ds = [d] ∧ dd = some e ∧ H e = some (.xd [(f, v)]) ∧ flatR d v
/-- what is known of an exception that flies -/
structure ExF (K : PySem.W.Frag) (mg : Str → Option Value) (cls : List Str) (j : Nat) (ds : List D) (cv : Value) (dd : Option Addr) (H : Hp) (C : Addr) : Prop where
  eq : cv = .ref C
  cx : ClsX K C
  fl : ExFl j ds dd H
  fi : ∀ f, excFld j = some f → PySem.W.findIn K (.ref C) f = some none
  ki : ∀ t cv u b, TyIs mg cls t cv u → D.isTy (.exc j []) t = some b → PySem.W.kitOne K (.ref C) u = some b
  em : ∀ i Ci, excName i ∈ cls → mg (excName i) = some (.ref Ci) → PySem.W.exmOne K (.ref C) (.ref Ci) = some (decide (i = j))
/-- what is known of a class that is raised -/
structure MkR (K : PySem.W.Frag) (mg : Str → Option Value) (c : Cc) (j : Nat) (C : Addr) : Prop where
  nm : mg (excName j) = some (.ref C)
  kp : PySem.W.keepIn K (.ref C) = true
  rs : ∀ Y : Cx, Y.K = K → Raises Y (.ref C)
  b0 : excFld j = none → ∃ B newId initId bmB, ExcBaseFacts B newId initId bmB ∧ PySem.W.excIn K C bmB newId = true
  at_ : ∀ ds dd H, ExFl j ds dd H → c.exAt j ds (.ref C) dd H
/-- where a text runs: X fits k -/
structure GX (X : Cx) (c : Cc) (cf : Cfg) (k : Ck) (W : WX) : Prop where
  N : X.N = k.N
  K : c.K = X.K
  nd : X.N.Nodup
  sc : X.env.scope = k.sc
  fn : ∀ x, k.fnB x = true → X.fn x = true
  calm : X.calm = true
  un : X.A.units + 64 < cLine
  tk : Takes X W
  ns : cf.ns = c.ns
  free : ∀ x, x ∈ k.free → X.mg x = none
  gs : ∀ g x, (k.P.gs[g]?).map (·.1) = some x → ∃ d v u, cf.G g = some d ∧ X.mg x = some u ∧ RelV v u ∧ ∀ H N, Rep c H N d v
  evs : ∀ j a dd o H, c.ev j a dd o → H a = some o → (∀ e, dd = some e → ∃ u, H e = some u) → ∃ tv, KitV c.K H (.ref a) tv ∧ ∀ t cv u b, TyIs X.mg k.cls t cv u → D.isTy (.exc j []) t = some b → PySem.W.kitOne c.K tv u = some b
  att : ∀ j a dd o, c.ev j a dd o → ∃ C, o = ExV C dd a ∧ ClsX c.K C ∧ ∀ f, excFld j = some f → PySem.W.findIn c.K (.ref C) f = some none
  mks : ∀ j f, excName j ∈ k.cls → excFld j = some f → ∃ C fI B newId initId bmB y x fd, MkK X C fI B newId initId bmB y x f fd ∧ X.mg (excName j) = some (.ref C) ∧ ∀ a d, c.ev j a (some d) (ExV C (some d) a)
  own : ∀ j, excName j ∈ k.cls → ∃ C, X.mg (excName j) = some (.ref C)
  exf : ∀ j ds cv dd H, c.exAt j ds cv dd H → ∃ C, ExF c.K X.mg k.cls j ds cv dd H C
  mkr : ∀ j, excName j ∈ k.cls → ∃ C, MkR X.K X.mg c j C
  dp : X.A.depth + 5 < recursionLimit
  frs : ∀ f fd, k.P.fs[f]? = some fd → c.frs f = fd.fresh
  fns : ∀ f x, (k.P.fs[f]?).map (·.name) = some x → ∃ (lv : Nat) (a : Addr) (fd : FuncData) (ps : List Str), X.mg x = some (.ref a) ∧ PySem.W.keepIn X.K (.ref a) = true ∧ Binds X.K fd ps [] ∧ (KwOk fd ps ∧ (k.P.fs[f]?).map (·.ps) = some ps) ∧ Room lv X.A ∧
    FnOk X.prog X.w X.K X.mg X.base (L2.CX X.prog X.w) lv a fd ps (spF c cf.cl f ps.length) ∧ ∀ ds b, ds.length ≠ ps.length → cf.cl f ds b = .no
section
variable {X : Cx} {c : Cc} {cf : Cfg} {k : Ck} {W : WX} {σ : L2.St} {H H1 H2 H' : Hp} {N N0 : Addr → Prop} {s : Env} {b : Bx}
theorem plain_db {x : Str} (h : plainName x = true) : (x == ("__debug__" : Str)) = false := by
  unfold plainName at h
  simp only [Bool.and_eq_true, Bool.not_eq_true'] at h
  exact h.1.1
theorem plain_cd {x : Str} (h : plainName x = true) : (x == ("__classdict__" : Str)) = false := by
  unfold plainName at h
  simp only [Bool.and_eq_true, Bool.not_eq_true'] at h
  exact h.1.2
theorem plain_nm {x : Str} (h : plainName x = true) : x ≠ ("__name__" : Str) := by
  unfold plainName at h
  simp only [Bool.and_eq_true, Bool.not_eq_true'] at h
  have h2 := h.2
  intro e
  subst e
  revert h2
  decide +kernel
theorem vis_of (G : GX X c cf k W) {x : Str} (h : k.vis x = true) : Vis X.env.scope x ∧ plainName x = true := by
  unfold Ck.vis at h
  rw [Bool.and_eq_true] at h
  refine ⟨?_, h.1⟩
  have h2 := h.2
  unfold Vis
  rw [G.sc]
  split at h2
  · exact .inl (by assumption)
  · exact .inr (.inl (by assumption))
  · exact .inr (.inr (by assumption))
  · cases h2
theorem gl_of (G : GX X c cf k W) {x : Str} (h : k.gl x = true) : Gl X x ∧ plainName x = true := by
  unfold Ck.gl at h
  rw [Bool.and_eq_true] at h
  refine ⟨?_, h.1⟩
  have h2 := of_decide_eq_true h.2
  show X.env.scope.names.lookup x = _
  rw [G.sc]
  exact h2
theorem blt_of (G : GX X c cf k W) {x : Str} (h : k.blt x = true) : Gl X x ∧ plainName x = true ∧ X.mg x = none := by
  unfold Ck.blt at h
  rw [Bool.and_eq_true] at h
  obtain ⟨h1, h2⟩ := gl_of G h.1
  exact ⟨h1, h2, G.free x (of_decide_eq_true h.2)⟩
theorem RepW.e {d : D} {v : V} (r : RepW c H N N d v) : Rep c H N d v := by
  cases d <;> exact r
theorem Rep.sel {w : Bool} {d : D} {v : V} (hs : ∀ a, N0 a → N a) (r : Rep c H N d v) : RepW c H (selN w N0 N) N d v := r.w (sel_sub hs)
theorem rd_VE {w : Bool} {m : Env → M D} {Q : VK} (h : rd c (pV c w) W m σ H Q) : rd c (pE c) W m σ H Q := by
  obtain ⟨N0, s, b, R, B, h⟩ := h
  exact ⟨N0, s, b, R, B, h.rp fun H' x v k r => Rep.sel (fun _ => .inl) r⟩
theorem rd_VF {w : Bool} {m : Env → M D} {Q : VK} (h : rd c (pV c w) W m σ H Q) : rd c (pF c) W m σ H Q := rd_EF (rd_VE h)
theorem rd_EV {m : Env → M D} {Q : VK} (h : rd c (pE c) W m σ H Q) : rd c (pV c false) W m σ H Q := by
  obtain ⟨N0, s, b, R, B, h⟩ := h
  exact ⟨N0, s, b, R, B, h.rp fun H' x v k r => RepW.e r⟩
theorem rd_WV {m : Env → M D} {Q : VK} (h : rd c (pW c) W m σ H Q) : rd c (pV c true) W m σ H Q := by
  obtain ⟨N0, s, b, R, B, h⟩ := h
  exact ⟨N0, s, b, R, B, h.rp fun H' x v k r => r⟩
theorem PE.v0 {x : Expr} {m : Env → M D} (h : PE X x (rd c (pV c false) W m)) : PE X x (rd c (pE c) W m) := PE.imp h fun _ _ _ => rd_EV
theorem PE.v1 {x : Expr} {m : Env → M D} (h : PE X x (rd c (pV c true) W m)) : PE X x (rd c (pW c) W m) := PE.imp h fun _ _ _ => rd_WV
theorem tru_of {d : D} {v : V} {t : Bool} (r : RepW c H N0 N d v) (h : truth d = some t) : TruV c.K v H t := by
  cases d <;> simp only [truth] at h <;> first | (cases h; done) | skip
  · cases h; rw [show v = _ from r]; rfl
  · cases h; rw [show v = _ from r]; rfl
  · cases h; rw [show v = _ from r]; rfl
  · cases h
    rw [r.1]
    refine ⟨str_line r.2, ?_⟩
    rename_i x
    show (x.cps.size != 0) = ((x.cps.size : Int) != 0)
    generalize x.cps.size = n
    cases n <;> rfl
  · cases h
    obtain ⟨a, vs, rfl, n, h1, q⟩ := r
    refine .inr (.inl ⟨vs, .inl h1.rd, ?_⟩)
    have := q.length
    rename_i ds
    cases vs <;> cases ds <;> first | rfl | cases this
  · cases h
    obtain ⟨a, vs, rfl, n, h1, q⟩ := r
    refine .inl ⟨vs, .inl (.of h1), ?_⟩
    have := q.length
    rename_i ds
    cases vs <;> cases ds <;> first | rfl | cases this
/-- a test by a value's truth -/
theorem rd_tru {w : Bool} {m : Env → M D} {Q : Bool → Hp → Prop} (h : rd c (pX (α := Bool)) W (fun s => (m s).bd fun x => M.ofO (truth x)) σ H Q) :
    rd c (pV c w) W m σ H fun x H' => ∃ t, TruV c.K x H' t ∧ Q t H' := by
  obtain ⟨N0, s, b, R, B, h⟩ := h
  refine ⟨N0, s, b, R, B, Out.mono (Out.bd (Rp := fun H' => pV c w H H' N0 (Nof N0 σ s)) h) fun vx H1 ⟨x, b1, k1, B1, r1, h1⟩ => ?_⟩
  obtain ⟨t, e, h2⟩ := h1.ofO
  exact ⟨t, tru_of r1 e, h2 _ _ .refl B1 rfl⟩
/-- .. that is a bool -/
theorem rd_truB {m : Env → M D} {Q : Bool → Hp → Prop} (hb : ∀ s b d b', m s b = .ok d b' → ∃ t, d = .bl t) (h : rd c (pX (α := Bool)) W (fun s => (m s).bd fun x => M.ofO (truth x)) σ H Q) :
    rd c (pE c) W m σ H fun x H' => ∃ t, x = .bl t ∧ Q t H' := by
  obtain ⟨N0, s, b, R, B, h⟩ := h
  refine ⟨N0, s, b, R, B, ?_⟩
  have h : Out c (fun H' => pX (α := Bool) H H' N0 (Nof N0 σ s)) σ H W Q ((M.bd (m s) fun x => M.ofO (truth x)) b) := h
  unfold M.bd at h
  cases e : m s b with
  | no => rw [e] at h; exact h
  | ex kk as b1 => rw [e] at h; exact h
  | ok d b1 =>
    rw [e] at h
    obtain ⟨t, rfl⟩ := hb s b d b1 e
    intro v H' K1 B1 r
    exact ⟨t, r, h t H' K1 B1 rfl⟩
theorem op_bl {o : Op} {p : CmpOp} {x y z : D} (hp : cmpOf o = some p) (e : evOp o x y = some z) : ∃ t, z = .bl t := by
  cases o <;> simp only [cmpOf] at hp <;> first | (cases hp; done) | skip
  · simp only [evOp] at e; split at e <;> cases e; exact ⟨_, rfl⟩
  · simp only [evOp] at e; split at e <;> cases e; exact ⟨_, rfl⟩
  · cases x <;> cases y <;> simp only [evOp, cmpI] at e <;> cases e <;> exact ⟨_, rfl⟩
  · cases x <;> cases y <;> simp only [evOp, cmpI] at e <;> cases e <;> exact ⟨_, rfl⟩
  · cases x <;> cases y <;> simp only [evOp, cmpI] at e <;> cases e <;> exact ⟨_, rfl⟩
  · cases x <;> cases y <;> simp only [evOp, cmpI] at e <;> cases e <;> exact ⟨_, rfl⟩
  · simp only [evOp, inSeq] at e
    repeat' (split at e)
    all_goals (cases e <;> exact ⟨_, rfl⟩)
  · simp only [evOp, inSeq] at e
    repeat' (split at e)
    all_goals (cases e <;> exact ⟨_, rfl⟩)
theorem evB_op {o : Op} {p : CmpOp} {a e : ME} (hp : cmpOf o = some p) : ∀ s b d b', evE cf (.op o a e) s b = .ok d b' → ∃ t, d = .bl t := by
  intro s b d b' h
  have h' : ((evE cf a s).bd fun x => (evE cf e s).bd fun y => M.ofO (evOp o x y)) b = .ok d b' := h
  unfold M.bd at h'
  cases e1 : evE cf a s b with
  | ok x b1 =>
    rw [e1] at h'
    simp only at h'
    cases e2 : evE cf e s b1 with
    | ok y b2 =>
      rw [e2] at h'
      simp only at h'
      cases e3 : evOp o x y with
      | none => rw [e3] at h'; cases h'
      | some z => rw [e3] at h'; cases h'; exact op_bl hp e3
    | _ => rw [e2] at h'; cases h'
  | _ => rw [e1] at h'; cases h'
theorem rd_nil {Q : List V → Hp → Prop} (h : rd c (pL c) W (evEs cf .nil) σ H Q) : tNil σ H Q := by
  obtain ⟨N0, s, b, R, B, h⟩ := h
  exact h [] H .refl B rfl
theorem rd_cons {e : ME} {r : MEs} {Q : List V → Hp → Prop} (h : rd c (pL c) W (evEs cf (.cons false e r)) σ H Q) : tCons (rd c (pE c) W (evE cf e)) (rd c (pL c) W (evEs cf r)) σ H Q := by
  obtain ⟨N0, s, b, R, B, h⟩ := h
  refine ⟨N0, s, b, R, B, Out.mono (Out.bd (Rp := fun H' => pE c H H' N0 (Nof N0 σ s)) h) fun vx H1 ⟨x, b1, k1, B1, r1, h1⟩ => ?_⟩
  refine ⟨N0, s, b1, R.keep k1, B1, Out.mono (Out.bd (Rp := fun H' => pL c H1 H' N0 (Nof N0 σ s)) h1) fun vy H2 ⟨y, b2, k2, B2, r2, h2⟩ => ?_⟩
  exact h2 _ _ .refl B2 ⟨_, _, rfl, r1.keep k2 R.betN, r2⟩
theorem rd_star {e : ME} {r : MEs} {Q : List V → Hp → Prop} (h : rd c (pL c) W (evEs cf (.cons true e r)) σ H Q) : StX.tStar c.K (rd c (pW c) W (evE cf e)) (rd c (pL c) W (evEs cf r)) σ H Q := by
  obtain ⟨N0, s, b, R, B, h⟩ := h
  refine ⟨N0, s, b, R, B, Out.mono (Out.bd (Rp := fun H' => pW c H H' N0 (Nof N0 σ s)) h) fun vx H1 ⟨x, b1, k1, B1, r1, h1⟩ => ?_⟩
  obtain ⟨ys, e, h1⟩ := h1.ofObd
  have fin : ∀ vs : List V, RepL c H1 (Nof N0 σ s) ys vs → (rd c (pL c) W (evEs cf r)) σ H1 fun ws H2 => Q (vs ++ ws) H2 := fun vs q =>
    ⟨N0, s, b1, R.keep k1, B1, Out.mono (Out.bd (Rp := fun H' => pL c H1 H' N0 (Nof N0 σ s)) h1) fun vy H2 ⟨y, b2, k2, B2, r2, h2⟩ => h2 _ _ .refl B2 ((q.keep k2 R.betN).append r2)⟩
  cases x <;> simp only [itemsOf] at e <;> first | (cases e; done) | skip
  · cases e
    obtain ⟨a, vs, rfl, n, h3, q⟩ := r1
    exact ⟨a, vs, rfl, .inl (.inl h3.rd), fin vs q⟩
  · cases e
    obtain ⟨a, vs, rfl, n, h3, q⟩ := r1
    exact ⟨a, vs, rfl, .inr (.inl (.of h3)), fin vs q⟩
/-- lent: lists of one's own among them -/
abbrev pL0 (c : Cc) : Hp → Hp → (Addr → Prop) → (Addr → Prop) → List D → List V → Prop := fun _ H' N0 N d v => RepL c H' N0 d v
theorem RepW.rep0 {d : D} {v : V} (r : RepW c H N0 N d v) (hs : ∀ a, N0 a → N a) : Rep c H N0 d v := by
  cases d with
  | lst ds =>
    obtain ⟨a, xs, e, n, h, q⟩ := r
    exact ⟨a, xs, e, n, h, q.sub hs⟩
  | _ => exact Rep.sub (N := N) r hs
theorem rd_nil0 {Q : List V → Hp → Prop} (h : rd c (pL0 c) W (evEs cf .nil) σ H Q) : tNil σ H Q := by
  obtain ⟨N0, s, b, R, B, h⟩ := h
  exact h [] H .refl B rfl
theorem rd_cons0 {e : ME} {r : MEs} {Q : List V → Hp → Prop} (h : rd c (pL0 c) W (evEs cf (.cons false e r)) σ H Q) : tCons (rd c (pW c) W (evE cf e)) (rd c (pL0 c) W (evEs cf r)) σ H Q := by
  obtain ⟨N0, s, b, R, B, h⟩ := h
  refine ⟨N0, s, b, R, B, Out.mono (Out.bd (Rp := fun H' => pW c H H' N0 (Nof N0 σ s)) h) fun vx H1 ⟨x, b1, k1, B1, r1, h1⟩ => ?_⟩
  refine ⟨N0, s, b1, R.keep k1, B1, Out.mono (Out.bd (Rp := fun H' => pL0 c H1 H' N0 (Nof N0 σ s)) h1) fun vy H2 ⟨y, b2, k2, B2, r2, h2⟩ => ?_⟩
  exact h2 _ _ .refl B2 ⟨_, _, rfl, (r1.rep0 fun _ => .inl).keep k2 R.bet, r2⟩
theorem rd_not {w : Bool} {a : ME} {Q : VK} (h : rd c (pV c w) W (evE cf (.notE a)) σ H Q) : tNotT c.K (rd c (pW c) W (evE cf a)) σ H Q := by
  obtain ⟨N0, s, b, R, B, h⟩ := h
  refine ⟨N0, s, b, R, B, Out.mono (Out.bd (Rp := fun H' => pW c H H' N0 (Nof N0 σ s)) h) fun vx H1 ⟨x, b1, k1, B1, r1, h1⟩ => ?_⟩
  obtain ⟨t, e, h2⟩ := h1.ofObd
  exact ⟨t, tru_of r1 e, h2 _ _ .refl B1 rfl⟩
theorem rdT_not {a : ME} {Q : Bool → Hp → Prop} (h : rd c (pX (α := Bool)) W (evT cf (.notE a)) σ H Q) : tNot (rd c (pX (α := Bool)) W (evT cf a)) σ H Q := by
  obtain ⟨N0, s, b, R, B, h⟩ := h
  refine ⟨N0, s, b, R, B, Out.mono (Out.bd (Rp := fun H' => pX (α := Bool) H H' N0 (Nof N0 σ s)) h) fun vx H1 ⟨x, b1, k1, B1, r1, h1⟩ => ?_⟩
  obtain rfl : x = vx := r1
  exact h1 _ _ .refl B1 rfl
theorem rd_and {w : Bool} {e e2 : ME} {st : Bool} {r : MEs} {Q : VK} (h : rd c (pV c w) W (evAnd cf (.cons false e (.cons st e2 r))) σ H Q) :
    tAndT c.K (rd c (pV c w) W (evE cf e)) (rd c (pV c w) W (evAnd cf (.cons st e2 r))) σ H Q := by
  obtain ⟨N0, s, b, R, B, h⟩ := h
  refine ⟨N0, s, b, R, B, Out.mono (Out.bd (Rp := fun H' => pV c w H H' N0 (Nof N0 σ s)) h) fun vx H1 ⟨x, b1, k1, B1, r1, h1⟩ => ?_⟩
  obtain ⟨t, e, h2⟩ := h1.ofObd
  refine ⟨t, tru_of r1 e, ?_⟩
  cases t with
  | true => exact ⟨N0, s, b1, R.keep k1, B1, h2⟩
  | false => exact h2 _ _ .refl B1 r1
theorem rd_or {w : Bool} {e e2 : ME} {st : Bool} {r : MEs} {Q : VK} (h : rd c (pV c w) W (evOr cf (.cons false e (.cons st e2 r))) σ H Q) :
    tOrT c.K (rd c (pV c w) W (evE cf e)) (rd c (pV c w) W (evOr cf (.cons st e2 r))) σ H Q := by
  obtain ⟨N0, s, b, R, B, h⟩ := h
  refine ⟨N0, s, b, R, B, Out.mono (Out.bd (Rp := fun H' => pV c w H H' N0 (Nof N0 σ s)) h) fun vx H1 ⟨x, b1, k1, B1, r1, h1⟩ => ?_⟩
  obtain ⟨t, e, h2⟩ := h1.ofObd
  refine ⟨t, tru_of r1 e, ?_⟩
  cases t with
  | true => exact h2 _ _ .refl B1 r1
  | false => exact ⟨N0, s, b1, R.keep k1, B1, h2⟩
theorem rdT_and {e : ME} {r : MEs} {Q : Bool → Hp → Prop} (h : rd c (pX (α := Bool)) W (evTAnd cf (.cons false e r)) σ H Q) : tAnd (rd c (pX (α := Bool)) W (evT cf e)) (rd c (pX (α := Bool)) W (evTAnd cf r)) σ H Q := by
  obtain ⟨N0, s, b, R, B, h⟩ := h
  refine ⟨N0, s, b, R, B, Out.mono (Out.bd (Rp := fun H' => pX (α := Bool) H H' N0 (Nof N0 σ s)) h) fun vx H1 ⟨x, b1, k1, B1, r1, h1⟩ => ?_⟩
  obtain rfl : x = vx := r1
  cases x with
  | true => exact ⟨N0, s, b1, R.keep k1, B1, h1⟩
  | false => exact h1 _ _ .refl B1 rfl
theorem rdT_or {e : ME} {r : MEs} {Q : Bool → Hp → Prop} (h : rd c (pX (α := Bool)) W (evTOr cf (.cons false e r)) σ H Q) : tOr (rd c (pX (α := Bool)) W (evT cf e)) (rd c (pX (α := Bool)) W (evTOr cf r)) σ H Q := by
  obtain ⟨N0, s, b, R, B, h⟩ := h
  refine ⟨N0, s, b, R, B, Out.mono (Out.bd (Rp := fun H' => pX (α := Bool) H H' N0 (Nof N0 σ s)) h) fun vx H1 ⟨x, b1, k1, B1, r1, h1⟩ => ?_⟩
  obtain rfl : x = vx := r1
  cases x with
  | true => exact h1 _ _ .refl B1 rfl
  | false => exact ⟨N0, s, b1, R.keep k1, B1, h1⟩
/-- the last one -/
theorem rdT_and1 {e : ME} {Q : Bool → Hp → Prop} (h : rd c (pX (α := Bool)) W (evTAnd cf (.cons false e .nil)) σ H Q) : rd c (pX (α := Bool)) W (evT cf e) σ H Q := by
  obtain ⟨N0, s, b, R, B, h⟩ := h
  refine ⟨N0, s, b, R, B, Out.mono (Out.bd (Rp := fun H' => pX (α := Bool) H H' N0 (Nof N0 σ s)) h) fun vx H1 ⟨x, b1, k1, B1, r1, h1⟩ => ?_⟩
  obtain rfl : x = vx := r1
  cases x <;> exact h1 _ _ .refl B1 rfl
theorem rdT_or1 {e : ME} {Q : Bool → Hp → Prop} (h : rd c (pX (α := Bool)) W (evTOr cf (.cons false e .nil)) σ H Q) : rd c (pX (α := Bool)) W (evT cf e) σ H Q := by
  obtain ⟨N0, s, b, R, B, h⟩ := h
  refine ⟨N0, s, b, R, B, Out.mono (Out.bd (Rp := fun H' => pX (α := Bool) H H' N0 (Nof N0 σ s)) h) fun vx H1 ⟨x, b1, k1, B1, r1, h1⟩ => ?_⟩
  obtain rfl : x = vx := r1
  cases x <;> exact h1 _ _ .refl B1 rfl
theorem rdT_all1 {e : ME} {Q : Bool → Hp → Prop} (h : rd c (pX (α := Bool)) W (evTs cf (.cons false e .nil)) σ H Q) : rd c (pX (α := Bool)) W (evT cf e) σ H Q := by
  obtain ⟨N0, s, b, R, B, h⟩ := h
  refine ⟨N0, s, b, R, B, Out.mono (Out.bd (Rp := fun H' => pX (α := Bool) H H' N0 (Nof N0 σ s)) h) fun vx H1 ⟨x, b1, k1, B1, r1, h1⟩ => ?_⟩
  obtain rfl : x = vx := r1
  cases x <;> exact h1 _ _ .refl B1 rfl
theorem rdT_all0 {Q : Bool → Hp → Prop} (h : rd c (pX (α := Bool)) W (evTs cf .nil) σ H Q) : tYes σ H Q := by
  obtain ⟨N0, s, b, R, B, h⟩ := h
  exact h _ _ .refl B rfl
theorem rd_iteV {w : Bool} {t a e : ME} {Q : VK} (h : rd c (pV c w) W (evE cf (.ite t a e)) σ H Q) : tIf (rd c (pX (α := Bool)) W (evT cf t)) (rd c (pV c w) W (evE cf a)) (rd c (pV c w) W (evE cf e)) σ H Q := by
  obtain ⟨N0, s, b, R, B, h⟩ := h
  refine ⟨N0, s, b, R, B, Out.mono (Out.bd (Rp := fun H' => pX (α := Bool) H H' N0 (Nof N0 σ s)) h) fun vx H1 ⟨x, b1, k1, B1, r1, h1⟩ => ?_⟩
  obtain rfl : x = vx := r1
  cases x with
  | true => exact ⟨N0, s, b1, R.keep k1, B1, h1⟩
  | false => exact ⟨N0, s, b1, R.keep k1, B1, h1⟩
theorem rd_bi {q : Bi} {a : ME} {Q : VK} (h : rd c (pF c) W (evE cf (.bi q a)) σ H Q) : tCB (rBi c q) (tCons (rd c (pW c) W (evE cf a)) tNil) σ H Q := by
  obtain ⟨N0, s, b, R, B, h⟩ := h
  refine ⟨N0, s, b, R, B, Out.mono (Out.bd (Rp := fun H' => pW c H H' N0 (Nof N0 σ s)) h) fun vx H1 ⟨x, b1, k1, B1, r1, h1⟩ => ?_⟩
  obtain ⟨z, e, h2⟩ := h1.ofO
  exact ⟨N0, _, x, z, vx, rfl, r1, e, OpG.of (R.keep k1) k1 B1 h2⟩
end
end Mi
namespace Mi
open PySem L2
section
variable {X : Cx} {c : Cc} {cf : Cfg} {k : Ck} {W : WX} {σ σ' : L2.St} {H H1 H2 H' : Hp} {N N0 : Addr → Prop} {s s' : Env} {b : Bx}
theorem sel_bet {w : Bool} (h : ∀ b, c.β = some b → N0 b) (hs : ∀ a, N0 a → N a) : ∀ b, c.β = some b → selN w N0 N b := by
  intro a z
  unfold selN
  split
  · exact h a z
  · exact hs a (h a z)
theorem rdS_it {w fl : Bool} {e : ME} {R : It → Hp → Prop} (h : rd c (pS c w fl) W (evSrc cf (.it e)) σ H R) : iAny c.K (rd c (pV c w) W (evE cf e)) σ H R := by
  obtain ⟨N0, s, b, R, B, h⟩ := h
  refine ⟨N0, s, b, R, B, Out.mono (Out.bd (Rp := fun H' => pV c w H H' N0 (Nof N0 σ s)) h) fun vx H1 ⟨x, b1, k1, B1, r1, h1⟩ => ?_⟩
  obtain ⟨ds, e, h2⟩ := h1.ofO
  have hs := sel_sub (w := w) (N0 := N0) (N := Nof N0 σ s) fun _ => .inl
  cases x <;> simp only [walkOf] at e <;> first | (cases e; done) | skip
  · cases e
    exact .inr (.inr ⟨_, r1.1, h2 _ _ .refl B1 (src_str r1.2)⟩)
  · cases e
    obtain ⟨a, vs, rfl, n, h3, q⟩ := r1
    exact .inr (.inl ⟨a, vs, rfl, h3.sq, h2 _ _ .refl B1 (src_tup hs (fun z => n (hs a z)) h3 q)⟩)
  · cases e
    obtain ⟨a, vs, rfl, n, h3, q⟩ := r1
    exact .inl ⟨a, vs, rfl, .inl (.of h3), h2 _ _ .refl B1 (src_lst hs n h3 q)⟩
theorem rdS_range {w fl : Bool} {e : ME} {R : It → Hp → Prop} (h : rd c (pS c w fl) W (evSrc cf (.range e)) σ H R) : iRng1 (tCons (rd c (pW c) W (evE cf e)) tNil) σ H R := by
  obtain ⟨N0, s, b, R, B, h⟩ := h
  refine ⟨N0, s, b, R, B, Out.mono (Out.bd (Rp := fun H' => pW c H H' N0 (Nof N0 σ s)) h) fun vx H1 ⟨x, b1, k1, B1, r1, h1⟩ => ?_⟩
  obtain ⟨i, e, h2⟩ := h1.ofObd
  obtain ⟨ds, e2, h3⟩ := h2.ofO
  cases x <;> first | (cases e; done) | skip
  cases e
  rw [show vx = V.int i from r1]
  unfold evRange at e2
  split at e2
  · rename_i hb
    cases e2
    refine ⟨i, rfl, hb.2.2.1, hb.2.2.2, h3 _ _ .refl B1 ?_⟩
    rw [Int.sub_zero]
    exact src_range
  · cases e2
theorem rdS_range2 {w fl : Bool} {e e2 : ME} {R : It → Hp → Prop} (h : rd c (pS c w fl) W (evSrc cf (.range2 e e2)) σ H R) : iRng2 (tCons (rd c (pW c) W (evE cf e)) (tCons (rd c (pW c) W (evE cf e2)) tNil)) σ H R := by
  obtain ⟨N0, s, b, R, B, h⟩ := h
  refine ⟨N0, s, b, R, B, Out.mono (Out.bd (Rp := fun H' => pW c H H' N0 (Nof N0 σ s)) h) fun vx H1 ⟨x, b1, k1, B1, r1, h1⟩ => ?_⟩
  refine ⟨N0, s, b1, R.keep k1, B1, Out.mono (Out.bd (Rp := fun H' => pW c H1 H' N0 (Nof N0 σ s)) h1) fun vy H2 ⟨y, b2, k2, B2, r2, h2⟩ => ?_⟩
  obtain ⟨i, e, h3⟩ := h2.ofObd
  obtain ⟨j, e2, h4⟩ := h3.ofObd
  obtain ⟨ds, e3, h5⟩ := h4.ofO
  cases x <;> first | (cases e; done) | skip
  cases e
  cases y <;> first | (cases e2; done) | skip
  cases e2
  rw [show vx = V.int i from r1, show vy = V.int j from r2]
  unfold evRange at e3
  split at e3
  · rename_i hb
    cases e3
    exact ⟨i, j, rfl, hb, h5 _ _ .refl B2 src_range⟩
  · cases e3
theorem rdS_enum {w : Bool} {e : ME} {R : It → Hp → Prop} (h : rd c (pS c w true) W (evSrc cf (.enum e)) σ H R) : iEnumA c.K (tCons (rd c (pV c w) W (evE cf e)) tNil) σ H R := by
  obtain ⟨N0, s, b, R, B, h⟩ := h
  refine ⟨N0, s, b, R, B, Out.mono (Out.bd (Rp := fun H' => pV c w H H' N0 (Nof N0 σ s)) h) fun vx H1 ⟨x, b1, k1, B1, r1, h1⟩ => ?_⟩
  obtain ⟨ds, e, h2⟩ := h1.ofObd
  have hs := sel_sub (w := w) (N0 := N0) (N := Nof N0 σ s) fun _ => .inl
  cases x <;> simp only [itemsOf] at e <;> first | (cases e; done) | skip
  · cases e
    obtain ⟨a, vs, rfl, n, h3, q⟩ := r1
    exact ⟨a, vs, rfl, .inr ⟨h3.sq, h2 _ _ .refl B1 (src_enumT hs (fun z => n (hs a z)) h3 q)⟩⟩
  · cases e
    obtain ⟨a, vs, rfl, n, h3, q⟩ := r1
    exact ⟨a, vs, rfl, .inl ⟨.inl (.of h3), h2 _ _ .refl B1 (src_enumL hs n h3 q)⟩⟩
theorem seqIn_of {w : Bool} {N0 N : Addr → Prop} {d : D} {v : V} {ds : List D} (r : RepW c H (selN w N0 N) N d v) (e : itemsOf d = some ds) (hs : ∀ a, selN w N0 N a → N a) : ∃ (a : Addr) (b : Bool) (vs : List V), v = .ref a ∧ ¬ selN w N0 N a ∧ SeqIn H b a vs ∧ RepL c H N ds vs := by
  cases d <;> first | (cases e; done) | skip
  · cases e
    obtain ⟨a, vs, rfl, n, h4, q⟩ := r
    exact ⟨a, true, vs, rfl, fun z => n (hs a z), h4, q⟩
  · cases e
    obtain ⟨a, vs, rfl, n, h4, q⟩ := r
    exact ⟨a, false, vs, rfl, n, h4, q⟩
theorem rdS_zip {w : Bool} {e e2 : ME} {R : It → Hp → Prop} (h : rd c (pS c w true) W (evSrc cf (.zip e e2)) σ H R) : iZip2 c.K (tCons (rd c (pV c w) W (evE cf e)) (tCons (rd c (pV c w) W (evE cf e2)) tNil)) σ H R := by
  obtain ⟨N0, s, b, R, B, h⟩ := h
  refine ⟨N0, s, b, R, B, Out.mono (Out.bd (Rp := fun H' => pV c w H H' N0 (Nof N0 σ s)) h) fun vx H1 ⟨x, b1, k1, B1, r1, h1⟩ => ?_⟩
  refine ⟨N0, s, b1, R.keep k1, B1, Out.mono (Out.bd (Rp := fun H' => pV c w H1 H' N0 (Nof N0 σ s)) h1) fun vy H2 ⟨y, b2, k2, B2, r2, h2⟩ => ?_⟩
  obtain ⟨ds, e, h3⟩ := h2.ofO
  have hs := sel_sub (w := w) (N0 := N0) (N := Nof N0 σ s) fun _ => .inl
  have r1 := r1.keep k2 (sel_bet (N := Nof N0 σ s) R.bet fun _ => .inl) hs
  unfold zipOf at e
  cases ex : itemsOf x with
  | none => rw [ex] at e; cases e
  | some xs =>
    cases ey : itemsOf y with
    | none => rw [ex, ey] at e; cases e
    | some ys =>
      rw [ex, ey] at e
      cases e
      obtain ⟨a, f, vs, rfl, n, h4, q⟩ := seqIn_of r1 ex hs
      obtain ⟨a2, f2, vs2, rfl, n2, h5, q2⟩ := seqIn_of r2 ey hs
      exact ⟨a, a2, f, f2, vs, vs2, rfl, h4.at fun _ z => z, h5.at fun _ z => z, h3 _ _ .refl B2 (src_zip2 hs n h4 q n2 h5 q2)⟩
theorem rdS_zip3 {w : Bool} {e e2 e3 : ME} {R : It → Hp → Prop} (h : rd c (pS c w true) W (evSrc cf (.zip3 e e2 e3)) σ H R) : iZip3 c.K (tCons (rd c (pV c w) W (evE cf e)) (tCons (rd c (pV c w) W (evE cf e2)) (tCons (rd c (pV c w) W (evE cf e3)) tNil))) σ H R := by
  obtain ⟨N0, s, b, R, B, h⟩ := h
  refine ⟨N0, s, b, R, B, Out.mono (Out.bd (Rp := fun H' => pV c w H H' N0 (Nof N0 σ s)) h) fun vx H1 ⟨x, b1, k1, B1, r1, h1⟩ => ?_⟩
  refine ⟨N0, s, b1, R.keep k1, B1, Out.mono (Out.bd (Rp := fun H' => pV c w H1 H' N0 (Nof N0 σ s)) h1) fun vy H2 ⟨y, b2, k2, B2, r2, h2⟩ => ?_⟩
  have R2 := (R.keep k1).keep k2
  refine ⟨N0, s, b2, R2, B2, Out.mono (Out.bd (Rp := fun H' => pV c w H2 H' N0 (Nof N0 σ s)) h2) fun vz H3 ⟨z, b3, k3, B3, r3, h3⟩ => ?_⟩
  obtain ⟨ds, e, h4⟩ := h3.ofO
  have hs := sel_sub (w := w) (N0 := N0) (N := Nof N0 σ s) fun _ => .inl
  have hb := sel_bet (w := w) (N := Nof N0 σ s) R.bet fun _ => .inl
  have r1 := (r1.keep k2 hb hs).keep k3 hb hs
  have r2 := r2.keep k3 hb hs
  unfold zipOf3 at e
  cases ex : itemsOf x with
  | none => rw [ex] at e; cases e
  | some xs =>
    cases ey : itemsOf y with
    | none => rw [ex, ey] at e; cases e
    | some ys =>
      cases ez : itemsOf z with
      | none => rw [ex, ey, ez] at e; cases e
      | some zs =>
        rw [ex, ey, ez] at e
        cases e
        obtain ⟨a, f, vs, rfl, n, g1, q⟩ := seqIn_of r1 ex hs
        obtain ⟨a2, f2, vs2, rfl, n2, g2, q2⟩ := seqIn_of r2 ey hs
        obtain ⟨a3, f3, vs3, rfl, n3, g3, q3⟩ := seqIn_of r3 ez hs
        exact ⟨a, a2, a3, f, f2, f3, vs, vs2, vs3, rfl, g1.at fun _ z => z, g2.at fun _ z => z, g3.at fun _ z => z, h4 _ _ .refl B3 (src_zip3 hs n g1 q n2 g2 q2 n3 g3 q3)⟩
theorem Rel.keepN (R : Rel c H N0 σ s) (k : ∀ a o, ¬ N0 a → H a = some o → H' a = some o) (fr : ∀ a, N0 a → H' a ≠ none) : Rel c H' N0 σ s where
  len := R.len
  vl := fun i d e => let ⟨v, h, q⟩ := R.vl i d e; ⟨v, h, Rep.keepN (fun a o n h => k a o (fun z => n (.inl z)) h) d v q⟩
  ow := fun i d e => by
    obtain ⟨a, h, q, n⟩ := R.ow i d e
    refine ⟨a, h, ?_, n⟩
    cases d with
    | lst ds =>
      obtain ⟨xs, h1, h2⟩ := q
      exact ⟨xs, k a _ n h1, RepL.keepN (fun a o n h => k a o (fun z => n (.inl z)) h) ds xs h2⟩
    | _ => exact q.elim
  dis := R.dis
  dom := fr
  bet := R.bet
/-- a new list besides -/
theorem Rel.more {D : Addr} {xs : List V} (R : Rel c H N0 σ s) (hD : H D = none) : Rel c (upd H D (.lst xs)) (fun a => N0 a ∨ a = D) σ s where
  len := R.len
  vl := fun i d e => by
    obtain ⟨v, h, q⟩ := R.vl i d e
    refine ⟨v, h, ?_⟩
    have q1 : Rep c H (Nof (fun a => N0 a ∨ a = D) σ s) d v := Rep.anti (fun a z => by
      rcases z with (z | z) | z
      · exact .inl (.inl z)
      · exact .inr (by rw [z]; exact hD)
      · exact .inl (.inr z)) d v q
    exact q1.keep (.laid hD) fun b z => .inl (.inl (R.bet b z))
  ow := fun i d e => by
    obtain ⟨a, h, q, n⟩ := R.ow i d e
    have hne : H a ≠ none := by
      cases d with
      | lst ds =>
        obtain ⟨xs, h1, _⟩ := q
        rw [h1]
        exact fun z => nomatch z
      | _ => exact q.elim
    refine ⟨a, h, ?_, fun z => z.elim n fun z => hne (by rw [z]; exact hD)⟩
    cases d with
    | lst ds =>
      obtain ⟨ys, h1, h2⟩ := q
      refine ⟨ys, by rw [upd_ne (fun z => hne (by rw [z]; exact hD))]; exact h1, ?_⟩
      have q1 : RepL c H (Nof (fun a => N0 a ∨ a = D) σ s) ds ys := RepL.anti (fun a z => by
        rcases z with (z | z) | z
        · exact .inl (.inl z)
        · exact .inr (by rw [z]; exact hD)
        · exact .inl (.inr z)) ds ys h2
      exact q1.keep (.laid hD) fun b z => .inl (.inl (R.bet b z))
    | _ => exact q.elim
  dis := R.dis
  dom := fun a z => by
    rcases z with z | z
    · intro e
      by_cases ea : a = D
      · rw [ea, upd_same] at e; cases e
      · rw [upd_ne ea] at e; exact R.dom a z e
    · rw [z, upd_same]; exact fun z => nomatch z
  bet := fun b z => .inl (R.bet b z)
theorem kill_own {is : List Nat} {i : Nat} {d : D} (h : (s.kill is)[i]? = some (.ow d)) : i ∉ is ∧ s[i]? = some (.ow d) := by
  by_cases hi : i ∈ is
  · exfalso
    induction is with
    | nil => cases hi
    | cons j js ih =>
      unfold Env.kill at h
      rcases get_set h with ⟨_, e⟩ | ⟨ne, h⟩
      · cases e
      · exact ih h ((List.mem_cons.mp hi).resolve_left ne)
  · exact ⟨hi, by rw [kill_get hi] at h; exact h⟩
theorem noOw_get {is : List Nat} {i : Nat} {d : D} (h : s.noOw is = true) (e : s[i]? = some (.ow d)) : i ∉ is := by
  intro hi
  unfold Env.noOw at h
  have := List.all_eq_true.mp h i hi
  rw [e] at this
  cases this
theorem compGo_cons {f : D → M (Option D)} {d : D} {ds rs : List D} {b b2 : Bx} (h : compGo f (d :: ds) b = .ok rs b2) :
    ∃ o b1 r, f d b = .ok o b1 ∧ compGo f ds b1 = .ok r b2 ∧ rs = (match o with | some x => x :: r | none => r) := by
  have h' : ((f d).bd fun o => (compGo f ds).bd fun r => M.ret (match o with | some x => x :: r | none => r)) b = .ok rs b2 := h
  unfold M.bd at h'
  cases e : f d b with
  | ok o b1 =>
    rw [e] at h'
    simp only at h'
    cases e2 : compGo f ds b1 with
    | ok r b3 =>
      rw [e2] at h'
      cases h'
      exact ⟨o, b1, r, rfl, e2, rfl⟩
    | _ => rw [e2] at h'; cases h'
  | _ => rw [e] at h'; cases h'
abbrev W0 : WX := fun _ _ _ _ => False
theorem bd_ok {α β : Type} {m : M α} {f : α → M β} {b b2 : Bx} {y : β} (h : (m.bd f) b = .ok y b2) : ∃ x b1, m b = .ok x b1 ∧ f x b1 = .ok y b2 := by
  unfold M.bd at h
  cases e : m b with
  | ok x b1 => rw [e] at h; exact ⟨x, b1, rfl, h⟩
  | _ => rw [e] at h; cases h
theorem rd_comp {fl : Bool} {e : ME} {t : MT} {r : MSrc} {ifs : MEs} {own : List Nat} {Q : VK} (hK : fl = true → isTupM t = true) (ht : ∀ i ∈ tSlots t, i ∈ own) (h : rd c (pF c) W (evE cf (.comp e t r ifs own)) σ H Q) :
    tLc (rd c (pS c true fl) W (evSrc cf r)) (rdG c t) (rd c (pX (α := Bool)) W0 (evTs cf ifs)) (rd c (pE c) W0 (evE cf e)) own σ H Q := by
  obtain ⟨N0, s, b, R, B, h⟩ := h
  refine ⟨N0, s, b, R, B, Out.mono (Out.bd (Rp := fun H' => pS c true fl H H' N0 (Nof N0 σ s)) h) fun J H1 ⟨ds, b1, k1, B1, S, h1⟩ => ?_⟩
  have hno : s.noOw own = true := Classical.byContradiction fun z => by rw [if_neg z] at h1; exact h1.elim
  rw [if_pos hno] at h1
  generalize hf : (fun d => match bindT t d (s.kill own) with
        | some s1 => (evTs cf ifs s1).bd fun k => if k = true then (evP cf e s1).1.bd fun x => M.ret (some x) else M.ret none
        | none => M.no : D → M (Option D)) = f at h1
  intro D hD
  obtain ⟨n, G, Y, hn, walk, hG, hY⟩ := S
  unfold M.bd M.nex at h1
  cases ec : compGo f ds b1 with
  | no => rw [ec] at h1; exact h1.elim
  | ex kk as b2 => rw [ec] at h1; exact h1.elim
  | ok rs b2 =>
    rw [ec] at h1
    simp only at h1
    have hl : rs.length ≤ lineMax := Classical.byContradiction fun z => by rw [if_neg z] at h1; exact h1.elim
    rw [if_pos hl] at h1
    have R1 := R.keep k1
    have neD : ∀ a o, H1 a = some o → a ≠ D := fun a o h z => by rw [z, hD] at h; cases h
    have bD : ∀ a, c.β = some a → a ≠ D := fun a z e => R1.dom a (R1.bet a z) (by rw [e]; exact hD)
    -- the invariant
    refine lc_it walk (fun i H' => ∃ acc vs bi rest, H' D = some (.lst vs) ∧ RepL c H' (fun a => Nof N0 σ s a ∨ a = D) acc vs ∧ BoxAt c H' bi ∧ (∀ a o, c.β ≠ some a → H1 a = some o → H' a = some o) ∧ (∀ a, H' a = none → H1 a = none) ∧
      compGo f (ds.drop i) bi = .ok rest b2 ∧ rs = acc ++ rest) ?_ ?_ ?_ ?_
    · refine ⟨[], [], b1, rs, upd_same, rfl, B1.same (same_laid hD), fun a o _ h => same_laid hD a o h, fun a h => ?_, ec, rfl⟩
      by_cases ea : a = D
      · rw [ea]; exact hD
      · rwa [upd_ne ea] at h
    · rintro i H' hi ⟨acc, vs, bi, rest, e1, e2, e3, e4, e5, e6, e7⟩
      exact hG H' fun a o hn h => e4 a o (fun z => hn (R.bet a z)) h
    · rintro i x H' H'' hi ⟨acc, vs, bi, rest, e1, e2, e3, e4, e5, e6, e7⟩ y
      have hid : i < ds.length := by rw [← hn]; exact hi
      have ed : ds.drop i = ds[i] :: ds.drop (i + 1) := List.drop_eq_getElem_cons hid
      rw [ed] at e6
      obtain ⟨o, bj, rr, f1, f2, f3⟩ := compGo_cons e6
      have K1 : Keep c H1 H' := ⟨e4, e5⟩
      -- the slots in the block
      have RD : Rel c H' (fun a => N0 a ∨ a = D) (wipe σ own) (s.kill own) := by
        refine ((R1.kill own).more (xs := []) hD).keepN (fun a o hn h => ?_) fun a z => ?_
        · have ea : a ≠ D := fun z => hn (.inr z)
          rw [upd_ne ea] at h
          exact e4 a o (fun z => hn (.inl (R.bet a z))) h
        · rcases z with z | z
          · exact fun q => R1.dom a z (e5 a q)
          · rw [z, e1]; exact fun z => nomatch z
      have sub1 : ∀ a, Nof (fun a => N0 a ∨ a = D) (wipe σ own) (s.kill own) a → Nof N0 σ s a ∨ H1 a = none := by
        rintro a ((z | z) | ⟨j, d, z1, z2⟩)
        · exact .inl (.inl z)
        · exact .inr (by rw [z]; exact hD)
        · obtain ⟨hj, z1⟩ := kill_own z1
          rw [wipe_get hj] at z2
          exact .inl (.inr ⟨j, d, z1, z2⟩)
      obtain ⟨ext, rx⟩ := hY i H' x H'' ds[i] (Nof (fun a => N0 a ∨ a = D) (wipe σ own) (s.kill own)) (fun a o hn h => e4 a o (fun z => hn (R.bet a z)) h) sub1 (fun a => RD.domN) RD.betN (by simp [hid]) y
      have KE := Keep.ofSame (c := c) ext
      rw [← hf] at f1
      simp only at f1
      cases eb : bindT t ds[i] (s.kill own) with
      | none => rw [eb] at f1; cases f1
      | some s1 =>
        rw [eb] at f1
        refine ⟨_, _, _, s1, RD.keep KE, rx.toT hK, eb, fun σ2 R2 hl2 hs2 hn2 => ?_⟩
        refine ⟨wipe_eq (by rw [hl2, wipe_length]) fun j hj => ?_, ?_⟩
        · rw [(hs2 j fun z => hj (ht j z)).1, wipe_get hj]
        have own2 : ∀ a, IsOwn σ s a → IsOwn σ2 s1 a := by
          rintro a ⟨j, d, z1, z2⟩
          have hj := noOw_get hno z1
          have hj2 : j ∉ tSlots t := fun z => hj (ht j z)
          refine ⟨j, d, ?_, ?_⟩
          · rw [(hs2 j hj2).2, kill_get hj]; exact z1
          · rw [(hs2 j hj2).1, wipe_get hj]; exact z2
        obtain ⟨kt, bk, f4, f5⟩ := bd_ok f1
        refine ⟨_, s1, bi, R2, e3.same ext, ?_⟩
        rw [f4]
        intro v H3 K3 B3 ev
        have ev : kt = v := ev
        subst ev
        cases kt with
        | true =>
          rw [if_pos rfl]
          rw [if_pos rfl] at f5
          obtain ⟨xx, bx, f6, f7⟩ := bd_ok f5
          cases f7
          refine ⟨_, s1, bk, R2.keep K3, B3, ?_⟩
          have f6' : evE cf e s1 bk = .ok xx bj := f6
          rw [f6']
          intro yv H4 K4 B4 ry
          have f3 : rest = xx :: rr := f3
          have K14 : Keep c H' H4 := (KE.trans K3).trans K4
          have hD4 : H4 D = some (.lst vs) := K14.kp D _ (fun z => bD D z rfl) e1
          have K5 : ∀ a o, a ≠ D → H4 a = some o → upd H4 D (.lst (vs ++ [yv])) a = some o := fun a o n h => by rw [upd_ne n]; exact h
          refine ⟨vs, hD4, ?_, acc ++ [xx], vs ++ [yv], bj, rr, upd_same, ?_, ?_, fun a o hb h => ?_, fun a h => ?_, f2, ?_⟩
          · have h1 := e2.length
            have h2 : rs.length = acc.length + (rr.length + 1) := by rw [e7, f3, List.length_append, List.length_cons]
            have := line_ok hl
            omega
          · refine RepL.keepN (N := fun a => Nof N0 σ s a ∨ a = D) (H := H4) (fun a o n h => K5 a o (fun z => n (.inr z)) h) _ _ (RepL.append (e2.keep K14 fun b z => .inl (.inl (R.bet b z))) (.one (ry.sub ?_)))
            rintro a ((z | z) | z)
            · exact .inl (.inl z)
            · exact .inr (own2 a z)
            · exact .inl (.inr z)
          · cases bj with
            | none => trivial
            | some p =>
              obtain ⟨i1, i2, i3⟩ := p
              obtain ⟨a, z1, z2⟩ := B4
              exact ⟨a, z1, K5 a _ (bD a z1) z2⟩
          · exact K5 a o (neD a o h) (K14.kp a o hb (e4 a o hb h))
          · by_cases ea : a = D
            · rw [ea]; exact hD
            · rw [upd_ne ea] at h
              exact e5 a (K14.fr a h)
          · rw [e7, f3]; simp
        | false =>
          rw [if_neg (by decide)]
          rw [if_neg (by decide)] at f5
          cases f5
          have f3 : rest = rr := f3
          have K13 : Keep c H' H3 := KE.trans K3
          refine ⟨acc, vs, bj, rr, K13.kp D _ (fun z => bD D z rfl) e1, e2.keep K13 fun b z => .inl (.inl (R.bet b z)), B3, fun a o hb h => K13.kp a o hb (e4 a o hb h), fun a h => e5 a (K13.fr a h), f2, ?_⟩
          rw [e7, f3]
    · rintro H' ⟨acc, vs, bi, rest, e1, e2, e3, e4, e5, e6, e7⟩
      have ed : ds.drop n = [] := List.drop_eq_nil_of_le (by omega)
      rw [ed] at e6
      cases e6
      rw [List.append_nil] at e7
      subst e7
      refine h1 _ H' ⟨e4, e5⟩ e3 ⟨D, vs, rfl, k1.fr D hD, e1, e2⟩
end
end Mi
namespace Mi
open PySem L2
/-- a walk of the inner source, by its invariant -/
theorem lc_in {J : It} {n : Nat} {G : Hp → Prop} {Y : Nat → Hp → V → Hp → Prop} (w : Walk J n G Y) {H0 : Hp} {Nx : Hp → Prop} {Tn : V → Hp → (Hp → Prop) → Prop} (Pv : Nat → Hp → Prop) (h0 : Pv 0 H0) (hG : ∀ i H, i ≤ n → Pv i H → G H)
    (hs : ∀ i x H H', i < n → Pv i H → Y i H x H' → Tn x H' (Pv (i + 1))) (hd : ∀ H, Pv n H → Nx H) :
    ∃ W : Nat → Nat → Hp → Prop, (∃ m, W 0 m H0) ∧ ∀ i m H, W i m H → (J.stop i H ∧ Nx H) ∨ (J.go i H ∧ ∃ N1 : Hp → Prop, (∀ H', N1 H' → ∃ m', m' < m ∧ W (i + 1) m' H') ∧ ∀ x H', J.yld i H x H' → Tn x H' N1) := by
  refine ⟨fun i m H => m + i = n ∧ Pv i H, ⟨n, rfl, h0⟩, fun i m H ⟨e, p⟩ => ?_⟩
  have q := hG i H (by omega) p
  cases m with
  | zero =>
    obtain rfl : i = n := by omega
    exact .inl ⟨w.stops H q, hd H p⟩
  | succ m =>
    have hlt : i < n := by omega
    exact .inr ⟨w.goes i H hlt q, Pv (i + 1), fun H' p' => ⟨m, by omega, by omega, p'⟩, fun x H' y => hs i x H H' hlt p (w.yields i H x H' hlt q y)⟩
theorem compGo2_cons {f : D → M (List D)} {d : D} {ds rs : List D} {b b2 : Bx} (h : compGo2 f (d :: ds) b = .ok rs b2) : ∃ x b1 r, f d b = .ok x b1 ∧ compGo2 f ds b1 = .ok r b2 ∧ rs = x ++ r := by
  obtain ⟨x, b1, h1, h⟩ := bd_ok (show ((f d).bd fun x => (compGo2 f ds).bd fun r => M.ret (x ++ r)) b = .ok rs b2 from h)
  obtain ⟨r, b3, h2, h⟩ := bd_ok h
  cases h
  exact ⟨x, b1, r, h1, h2, rfl⟩
section
variable {c : Cc} {cf : Cfg} {W : WX} {σ : L2.St} {H H1 H' : Hp} {N0 : Addr → Prop} {s : Env}
/-- the list that is made, while a comprehension runs -/
structure Made (c : Cc) (H1 : Hp) (N : Addr → Prop) (D : Addr) (H' : Hp) (acc : List Mi.D) (b : Bx) (vs : List V) : Prop where
  at_ : H' D = some (.lst vs)
  rep : RepL c H' (fun a => N a ∨ a = D) acc vs
  box : BoxAt c H' b
  kp : ∀ a o, c.β ≠ some a → H1 a = some o → H' a = some o
  fr : ∀ a, H' a = none → H1 a = none
theorem Made.keep {N : Addr → Prop} {D : Addr} {acc : List Mi.D} {b b2 : Bx} {vs : List V} {H2 : Hp} (m : Made c H1 N D H' acc b vs) (k : Keep c H' H2) (B : BoxAt c H2 b2) (hb : ∀ x, c.β = some x → N x) (nD : ∀ a, c.β = some a → a ≠ D) : Made c H1 N D H2 acc b2 vs where
  at_ := k.kp D _ (fun z => nD D z rfl) m.at_
  rep := m.rep.keep k fun x z => .inl (hb x z)
  box := B
  kp := fun a o h e => k.kp a o h (m.kp a o h e)
  fr := fun a h => m.fr a (k.fr a h)
/-- an item more -/
theorem Made.app {N : Addr → Prop} {D : Addr} {acc : List Mi.D} {b : Bx} {vs : List V} {x : Mi.D} {v : V} (m : Made c H1 N D H' acc b vs) (r : Rep c H' (fun a => N a ∨ a = D) x v) (hD : H1 D = none) (nD : ∀ a, c.β = some a → a ≠ D) : Made c H1 N D (upd H' D (.lst (vs ++ [v]))) (acc ++ [x]) b (vs ++ [v]) := by
  have K5 : ∀ a o, a ≠ D → H' a = some o → upd H' D (.lst (vs ++ [v])) a = some o := fun a o n h => by rw [upd_ne n]; exact h
  refine ⟨upd_same, ?_, ?_, fun a o hb h => K5 a o (fun z => ?_) (m.kp a o hb h), fun a h => ?_⟩
  · exact RepL.keepN (N := fun a => N a ∨ a = D) (fun a o n h => K5 a o (fun z => n (.inr z)) h) _ _ (m.rep.append (.one r))
  · have B := m.box
    cases b with
    | none => trivial
    | some p =>
      obtain ⟨i1, i2, i3⟩ := p
      obtain ⟨a, z1, z2⟩ := B
      exact ⟨a, z1, K5 a _ (nD a z1) z2⟩
  · rw [z, hD] at h; cases h
  · by_cases ea : a = D
    · rw [ea, upd_same] at h; cases h
    · rw [upd_ne ea] at h; exact m.fr a h
theorem rd_comp2 {fl fl2 : Bool} {e : ME} {t t2 : MT} {r r2 : MSrc} {ifs : MEs} {own : List Nat} {Q : VK} (hK : fl = true → isTupM t = true) (hK2 : fl2 = true → isTupM t2 = true) (ht : ∀ i ∈ tSlots t, i ∈ own) (ht2 : ∀ i ∈ tSlots t2, i ∈ own)
    (h : rd c (pF c) W (evE cf (.comp2 e t r t2 r2 ifs own)) σ H Q) :
    tLc2 (rd c (pS c true fl) W (evSrc cf r)) (rdG c t) tYes (rd c (pS c true fl2) W0 (evSrc cf r2)) (rdG c t2) (rd c (pX (α := Bool)) W0 (evTs cf ifs)) (rd c (pE c) W0 (evE cf e)) own (tSlots t2) σ H Q := by
  obtain ⟨N0, s, b, R, B, h⟩ := h
  refine ⟨N0, s, b, R, B, Out.mono (Out.bd (Rp := fun H' => pS c true fl H H' N0 (Nof N0 σ s)) h) fun J H1 ⟨ds, b1, k1, B1, S, h1⟩ => ?_⟩
  have hno : s.noOw own = true := Classical.byContradiction fun z => by rw [if_neg z] at h1; exact h1.elim
  rw [if_pos hno] at h1
  generalize hf2 : (fun (s1 : Env) => (fun d2 => match bindT t2 d2 (s1.kill (tSlots t2)) with
          | some s2 => (evTs cf ifs s2).bd fun k => if k = true then (evP cf e s2).1.bd fun x => M.ret (some x) else M.ret none
          | none => M.no : D → M (Option D))) = f2
  generalize hf : (fun d => match bindT t d (s.kill own) with
        | some s1 => (evSrc cf r2 s1).bd fun es => compGo (f2 s1) es
        | none => M.no : D → M (List D)) = f
  have h1 : Out c (fun H' => pF c H H' N0 (Nof N0 σ s)) σ H1 W Q (((M.nex (compGo2 f ds)).bd fun r => if r.length ≤ lineMax then M.ret (.lst r) else M.no) b1) := by
    rw [← hf, ← hf2]
    exact h1
  intro D hD
  obtain ⟨n, G, Y, hn, walk, hG, hY⟩ := S
  unfold M.bd M.nex at h1
  cases ec : compGo2 f ds b1 with
  | no => rw [ec] at h1; exact h1.elim
  | ex kk as b2 => rw [ec] at h1; exact h1.elim
  | ok rs b2 =>
    rw [ec] at h1
    simp only at h1
    have hl : rs.length ≤ lineMax := Classical.byContradiction fun z => by rw [if_neg z] at h1; exact h1.elim
    rw [if_pos hl] at h1
    have R1 := R.keep k1
    have bD : ∀ a, c.β = some a → a ≠ D := fun a z e => R1.dom a (R1.bet a z) (by rw [e]; exact hD)
    have rb : ∀ x, c.β = some x → Nof N0 σ s x := fun x z => .inl (R.bet x z)
    refine lc_in walk (Tn := fun x H' Nx => _) (fun i H' => ∃ acc vs bi rest, Made c H1 (Nof N0 σ s) D H' acc bi vs ∧ compGo2 f (ds.drop i) bi = .ok rest b2 ∧ rs = acc ++ rest) ?_ ?_ ?_ ?_
    · exact ⟨[], [], b1, rs, ⟨upd_same, rfl, B1.same (same_laid hD), fun a o _ h => same_laid hD a o h, fun a h => by
        by_cases ea : a = D
        · rw [ea]; exact hD
        · rwa [upd_ne ea] at h⟩, ec, rfl⟩
    · rintro i H' hi ⟨acc, vs, bi, rest, m, e6, e7⟩
      exact hG H' fun a o hn h => m.kp a o (fun z => hn (R.bet a z)) h
    · rintro i x H' H'' hi ⟨acc, vs, bi, rest, m, e6, e7⟩ y
      have hid : i < ds.length := by rw [← hn]; exact hi
      have ed : ds.drop i = ds[i] :: ds.drop (i + 1) := List.drop_eq_getElem_cons hid
      rw [ed] at e6
      obtain ⟨xs, bj, rr, f1, f2', f3⟩ := compGo2_cons e6
      -- the slots in the block
      have RD : Rel c H' (fun a => N0 a ∨ a = D) (wipe σ own) (s.kill own) := by
        refine ((R1.kill own).more (xs := []) hD).keepN (fun a o hn h => ?_) fun a z => ?_
        · have ea : a ≠ D := fun z => hn (.inr z)
          rw [upd_ne ea] at h
          exact m.kp a o (fun z => hn (.inl (R.bet a z))) h
        · rcases z with z | z
          · exact fun q => R1.dom a z (m.fr a q)
          · rw [z, m.at_]; exact fun z => nomatch z
      have sub1 : ∀ a, Nof (fun a => N0 a ∨ a = D) (wipe σ own) (s.kill own) a → Nof N0 σ s a ∨ H1 a = none := by
        rintro a ((z | z) | ⟨j, d, z1, z2⟩)
        · exact .inl (.inl z)
        · exact .inr (by rw [z]; exact hD)
        · obtain ⟨hj, z1⟩ := kill_own z1
          rw [wipe_get hj] at z2
          exact .inl (.inr ⟨j, d, z1, z2⟩)
      obtain ⟨ext, rx⟩ := hY i H' x H'' ds[i] (Nof (fun a => N0 a ∨ a = D) (wipe σ own) (s.kill own)) (fun a o hn h => m.kp a o (fun z => hn (R.bet a z)) h) sub1 (fun a => RD.domN) RD.betN (by simp [hid]) y
      have KE := Keep.ofSame (c := c) ext
      rw [← hf] at f1
      simp only at f1
      cases eb : bindT t ds[i] (s.kill own) with
      | none => rw [eb] at f1; cases f1
      | some s1 =>
        rw [eb] at f1
        refine ⟨_, _, _, s1, RD.keep KE, rx.toT hK, eb, fun σ2 R2 hl2 hs2 hn2 => ?_⟩
        refine ⟨wipe_eq (by rw [hl2, wipe_length]) fun j hj => ?_, ?_⟩
        · rw [(hs2 j fun z => hj (ht j z)).1, wipe_get hj]
        have own2 : ∀ a, IsOwn σ s a → ∃ j d, j ∉ own ∧ s1[j]? = some (.ow d) ∧ σ2[j]? = some (some (.ref a)) := by
          rintro a ⟨j, d, z1, z2⟩
          have hj := noOw_get hno z1
          have hj2 : j ∉ tSlots t := fun z => hj (ht j z)
          refine ⟨j, d, hj, ?_, ?_⟩
          · rw [(hs2 j hj2).2, kill_get hj]; exact z1
          · rw [(hs2 j hj2).1, wipe_get hj]; exact z2
        obtain ⟨es, bk, f4, f5⟩ := bd_ok f1
        unfold tYes
        dsimp only
        rw [if_pos rfl]
        refine ⟨_, s1, bi, R2, m.box.same ext, ?_⟩
        rw [f4]
        intro J1 H4 K4 B4 S1
        have m4 := (m.keep KE (m.box.same ext) rb bD).keep K4 B4 rb bD
        obtain ⟨n1, G1, Y1, hn1, walk1, hG1, hY1⟩ := S1
        have R4 := R2.keep K4
        refine lc_in walk1 (Tn := fun x H' Nx => _) (fun j H5 => ∃ acc1 vs1 bl rest1, Made c H1 (Nof N0 σ s) D H5 acc1 bl vs1 ∧ (∀ a o, c.β ≠ some a → a ≠ D → H4 a = some o → H5 a = some o) ∧ (∀ a, H5 a = none → H4 a = none) ∧ compGo (f2 s1) (es.drop j) bl = .ok rest1 bj ∧ acc ++ xs = acc1 ++ rest1) ?_ ?_ ?_ ?_
        · exact ⟨acc, vs, bk, xs, m4, fun _ _ _ _ h => h, fun _ h => h, f5, rfl⟩
        · rintro j H5 hj ⟨acc1, vs1, bl, rest1, m5, k5, fr5, e8, e9⟩
          exact hG1 H5 fun a o hn h => k5 a o (fun z => hn (.inl (R.bet a z))) (fun z => hn (.inr z)) h
        · rintro j x5 H5 H6 hj ⟨acc1, vs1, bl, rest1, m5, k5, fr5, e8, e9⟩ y5
          have hjd : j < es.length := by rw [← hn1]; exact hj
          have ed1 : es.drop j = es[j] :: es.drop (j + 1) := List.drop_eq_getElem_cons hjd
          rw [ed1] at e8
          obtain ⟨o, bm, rr1, f6, f7, f8⟩ := compGo_cons e8
          have R5 : Rel c H5 (fun a => N0 a ∨ a = D) (wipe σ2 (tSlots t2)) (s1.kill (tSlots t2)) := by
            refine (R4.keepN (fun a o hn h => k5 a o (fun z => hn (.inl (R.bet a z))) (fun z => hn (.inr z)) h) fun a z q => R4.dom a z (fr5 a q)).kill _
          have sub5 : ∀ a, Nof (fun a => N0 a ∨ a = D) (wipe σ2 (tSlots t2)) (s1.kill (tSlots t2)) a → Nof (fun a => N0 a ∨ a = D) σ2 s1 a ∨ H4 a = none := by
            rintro a (z | ⟨j, d, z1, z2⟩)
            · exact .inl (.inl z)
            · obtain ⟨hj, z1⟩ := kill_own z1
              rw [wipe_get hj] at z2
              exact .inl (.inr ⟨j, d, z1, z2⟩)
          obtain ⟨ext5, rx5⟩ := hY1 j H5 x5 H6 es[j] (Nof (fun a => N0 a ∨ a = D) (wipe σ2 (tSlots t2)) (s1.kill (tSlots t2))) (fun a o hn h => k5 a o (fun z => hn (.inl (R.bet a z))) (fun z => hn (.inr z)) h) sub5 (fun a => R5.domN) R5.betN (by simp [hjd]) y5
          have KE5 := Keep.ofSame (c := c) ext5
          rw [← hf2] at f6
          simp only at f6
          cases eb2 : bindT t2 es[j] (s1.kill (tSlots t2)) with
          | none => rw [eb2] at f6; cases f6
          | some s2 =>
            rw [eb2] at f6
            refine ⟨_, _, _, s2, R5.keep KE5, rx5.toT hK2, eb2, fun σ3 R6 hl6 hs6 hn6 => ?_⟩
            refine ⟨wipe_eq (by rw [hl6, wipe_length]) fun j hj => ?_, ?_⟩
            · rw [(hs6 j hj).1, wipe_get hj]
            have own3 : ∀ a, IsOwn σ s a → IsOwn σ3 s2 a := by
              intro a z
              obtain ⟨j, d, hj, z1, z2⟩ := own2 a z
              have hj2 : j ∉ tSlots t2 := fun z => hj (ht2 j z)
              refine ⟨j, d, ?_, ?_⟩
              · rw [(hs6 j hj2).2, kill_get hj2]; exact z1
              · rw [(hs6 j hj2).1, wipe_get hj2]; exact z2
            obtain ⟨kt, bq, f9, f10⟩ := bd_ok f6
            have B6 := m5.box.same ext5
            have m6 := m5.keep KE5 B6 rb bD
            refine ⟨_, s2, bl, R6, B6, ?_⟩
            rw [f9]
            intro v H7 K7 B7 ev
            have ev : kt = v := ev
            subst ev
            have m7 := m6.keep K7 B7 rb bD
            have k7 : ∀ a o, c.β ≠ some a → a ≠ D → H4 a = some o → H7 a = some o := fun a o hb hd h => K7.kp a o hb (ext5 a o (k5 a o hb hd h))
            have fr7 : ∀ a, H7 a = none → H4 a = none := fun a h => fr5 a (KE5.fr a (K7.fr a h))
            cases kt with
            | true =>
              rw [if_pos rfl]
              rw [if_pos rfl] at f10
              obtain ⟨xx, bx, f11, f12⟩ := bd_ok f10
              cases f12
              refine ⟨_, s2, bq, R6.keep K7, B7, ?_⟩
              have f11' : evE cf e s2 bq = .ok xx bm := f11
              rw [f11']
              intro yv H8 K8 B8 ry
              have f8 : rest1 = xx :: rr1 := f8
              have m8 := m7.keep K8 B8 rb bD
              have ry2 : Rep c H8 (fun a => Nof N0 σ s a ∨ a = D) xx yv := ry.sub (by
                rintro a ((z | z) | z)
                · exact .inl (.inl z)
                · exact .inr (own3 a z)
                · exact .inl (.inr z))
              have m9 := m8.app ry2 hD bD
              refine ⟨vs1, m8.at_, ?_, acc1 ++ [xx], vs1 ++ [yv], bm, rr1, m9, fun a o hb hd h => ?_, fun a h => ?_, f7, ?_⟩
              · have h1 := m8.rep.length
                have h2 : rs.length = acc1.length + (rr1.length + 1) + rr.length := by rw [e7, f3, ← List.append_assoc, e9, f8, List.length_append, List.length_append, List.length_cons]
                have := line_ok hl
                omega
              · rw [upd_ne hd]; exact K8.kp a o hb (k7 a o hb hd h)
              · by_cases ea : a = D
                · rw [ea, upd_same] at h; cases h
                · rw [upd_ne ea] at h; exact fr7 a (K8.fr a h)
              · rw [e9, f8, List.append_assoc]; rfl
            | false =>
              rw [if_neg (by decide)]
              rw [if_neg (by decide)] at f10
              cases f10
              have f8 : rest1 = rr1 := f8
              exact ⟨acc1, vs1, bm, rr1, m7, k7, fr7, f7, by rw [e9, f8]⟩
        · rintro H5 ⟨acc1, vs1, bl, rest1, m5, k5, fr5, e8, e9⟩
          have ed1 : es.drop n1 = [] := List.drop_eq_nil_of_le (by omega)
          rw [ed1] at e8
          cases e8
          refine ⟨acc1, vs1, bj, rr, m5, f2', ?_⟩
          rw [e7, f3, ← List.append_assoc, e9, List.append_nil]
    · rintro H' ⟨acc, vs, bi, rest, m, e6, e7⟩
      have ed : ds.drop n = [] := List.drop_eq_nil_of_le (by omega)
      rw [ed] at e6
      cases e6
      rw [e7, List.append_nil] at h1
      refine h1 _ _ ⟨m.kp, m.fr⟩ m.box ⟨D, vs, rfl, k1.fr D hD, m.at_, m.rep⟩
end
end Mi
namespace HT
open PySem PySem.Spec PyProof.Rows
section
variable {prog : Program} {w : World} {A : Around} {E : Value → Shared → Prop} {s : Shared}
theorem sliceApplied_rev {sl : Addr} {vl vu vs : Value} {n : Nat} {Q : Int × Int × Nat → Shared → Prop} (hs : s.heap.IsSliceOf sl vl vu vs) (pl : IsPart vl none) (pu : IsPart vu none) (ps : IsPart vs (some (-1)))
    (h : Q (((n : Int) - 1), -1, n) s) : wpAny (model prog w) A (Builtin.Slice.sliceApplied (.ref sl) (pure (n : Int))) Q E s := by
  obtain ⟨os, hos, hcs, hds⟩ := id hs
  unfold Builtin.Slice.sliceApplied Builtin.Slice.sliceFields
  refine wpAny_bind (wpAny_bind (wpAny_field hos hds (x := vl) rfl (wpAny_bind (wpAny_field hos hds (x := vu) rfl (wpAny_bind (wpAny_field hos hds (x := vs) rfl (wpAny_pure ?_)))))))
  refine wpAny_bind (slicePart_ ps ?_)
  show wpAny _ _ (if ((-1 : Int) == 0) = true then _ else _) _ _ s
  rw [if_neg (by decide)]
  refine wpAny_bind (slicePart_ pl (wpAny_bind (slicePart_ pu (wpAny_bind (wpAny_pure ?_)))))
  have e1 : Builtin.Slice.sliceAdjust none none (-1) (n : Int) = ((n : Int) - 1, -1) := by
    unfold Builtin.Slice.sliceAdjust
    simp
  have e2 : Builtin.Slice.slicePlaces ((n : Int) - 1) (-1) (-1) = n := by
    unfold Builtin.Slice.slicePlaces
    rw [if_neg (by decide)]
    by_cases hn : (n : Int) - 1 > -1
    · rw [if_pos hn, show (-(-1) : Int) = 1 by decide, Int.ediv_one]
      omega
    · rw [if_neg hn]
      omega
  show wpAny _ _ (match Builtin.Slice.sliceAdjust none none (-1) (n : Int) with | (lo, hi) => pure (lo, (-1 : Int), Builtin.Slice.slicePlaces lo hi (-1))) _ _ s
  rw [e1]
  show wpAny _ _ (pure ((n : Int) - 1, (-1 : Int), Builtin.Slice.slicePlaces ((n : Int) - 1) (-1) (-1))) _ _ s
  rw [e2]
  exact wpAny_pure h
theorem filterMap_cong {α β : Type} {f g : α → Option β} : ∀ {l : List α}, (∀ x ∈ l, f x = g x) → l.filterMap f = l.filterMap g
  | [], _ => rfl
  | x :: l, h => by
    have h1 := h x (List.mem_cons_self ..)
    have h2 := filterMap_cong (l := l) fun y hy => h y (List.mem_cons_of_mem _ hy)
    rw [List.filterMap_cons, List.filterMap_cons, h1, h2]
theorem pick_rev (xs : Array Value) : ((List.range xs.size).filterMap fun (m : Nat) => xs[(((xs.size : Int) - 1) + (m : Int) * (-1)).toNat]?).toArray = xs.toList.reverse.toArray := by
  have e : ((List.range xs.size).filterMap fun (m : Nat) => xs[(((xs.size : Int) - 1) + (m : Int) * (-1)).toNat]?) = ((List.range xs.size).map fun k => xs.size - 1 - k).filterMap (xs[·]?) := by
    rw [List.filterMap_map]
    refine filterMap_cong fun m hm => ?_
    have := List.mem_range.mp hm
    have e : (((xs.size : Int) - 1) + (m : Int) * (-1)).toNat = xs.size - 1 - m := by omega
    show xs[(((xs.size : Int) - 1) + (m : Int) * (-1)).toNat]? = xs[xs.size - 1 - m]?
    rw [e]
  rw [e, PySem.W.krv_range, List.filterMap_reverse, PySem.W.krv_all]
theorem getItem_tuple_rev {t sl : Addr} {items : Array Value} {vl vu vs : Value} {Q : Value → Shared → Prop} (ht : IsTup s.heap t items) (hs : s.heap.IsSliceOf sl vl vu vs) (pl : IsPart vl none) (pu : IsPart vu none) (ps : IsPart vs (some (-1)))
    (h : Q (.ref s.heap.objs.size) { s with heap := s.heap.push { cls := .type "tuple", data := .seq items.toList.reverse.toArray } })
    (hsz : items.size ≤ sizeLine) : wpAny (model prog w) A (getItem (.ref t) (.ref sl)) Q E s := by
  have htake : sizeOk (.seq items.toList.reverse.toArray) := by
    show items.toList.reverse.toArray.size ≤ sizeLine
    rw [List.size_toArray, List.length_reverse, Array.length_toList]
    exact hsz
  obtain ⟨os, hos, hcs, hds⟩ := id hs
  have hTs : s.TypeIs (.ref sl) "slice" := ⟨os, hos, hcs⟩
  unfold getItem
  try with_reducible refine wpAny_holding ?_
  first | refine wpAny_bind (wpAny_pure ?_) | skip
  refine wpAny_bind (wpAny_sequenceKey ht.typeIs (by decide) ?_)
  refine wpAny_bind (wpAny_callSpecial?_slot (name := Str.ofString "__getitem__") ht.typeIs PyProof.Rows.slot_tuple_getitem
    (wpAny_call_entry PyProof.Rows.slot_tuple_getitem ht.typeIs entry_tuple_getitem ?_ (args_tuple_getitem _ _)))
  show wpAny _ _ (Builtin.Tuple.tupleItemsOf (.ref t) >>= _) _ _ s
  refine wpAny_bind (tupleItemsOf_ ht ?_)
  refine wpAny_bind (wpAny_typeOf hTs ?_)
  rw [if_pos (by decide)]
  refine wpAny_bind (sliceApplied_rev hs pl pu ps ?_)
  have hno : ¬ ((((items.size : Int) - 1) == 0 && (-1 : Int) == 1 && items.size == items.size) = true) := by
    intro q
    rw [Bool.and_eq_true, Bool.and_eq_true] at q
    exact absurd (eq_of_beq q.1.2) (by decide)
  show wpAny _ _ (if (((items.size : Int) - 1) == 0 && (-1 : Int) == 1 && items.size == items.size) = true then _ else _) _ _ s
  rw [if_neg hno, pick_rev]
  first
    | exact wpAny_bind (m := Builtin.Tuple.tupleExact _) (wpAny_newObj_type (wpAny_pure ⟨_, rfl, wpAny_pure h⟩) htake)
    | exact wpAny_bind (m := Builtin.Tuple.tupleExact _) (wpAny_newObj_type (wpAny_bind (wpAny_pure (wpAny_pure ⟨_, rfl, wpAny_pure h⟩))) htake)
    | exact wpAny_bind (wpAny_bind (m := Builtin.Tuple.tupleExact _) (wpAny_newObj_type (wpAny_pure (wpAny_pure ⟨_, rfl, wpAny_pure h⟩)) htake))
    | exact wpAny_bind (wpAny_bind (m := Builtin.Tuple.tupleExact _) (wpAny_newObj_type (wpAny_pure ⟨_, rfl, wpAny_pure h⟩) htake))
end
end HT
namespace Mi
open PySem L2
section
variable {X : Cx}
def tRevA (K : PySem.W.Frag) (te : TE) : TE := fun σ H Q => te σ H fun x H1 => ∃ a xs, x = .ref a ∧ ((SqL K H1 a xs ∧ ∀ p, H1 p = none → Q (.ref p) (upd H1 p (.lst xs.reverse))) ∨ (SqT K H1 a xs ∧ ∀ p (o : Obj), H1 p = none → o.dict = none → Q (.ref p) (upd H1 p (.frz o (.tup xs.reverse)))))
open PySem.Spec PyProof.Rows in
theorem pe_revA {e : Expr} {te : TE} {k : Nat} {p1 p2 p3 pos : Pos} (he : PE X e te) : PE X (.Subscript e (.Slice none none (some (.UnaryOp .USub (.Constant (.int 1) k p1) p2)) p3) pos) (tRevA X.K te) := by
  refine ⟨fun pins s σ H Q I h => ?_⟩
  refine Subscript_ (thn (he.run pins s σ H _ I h) fun v s1 ⟨x, H1, I1, r1, q1⟩ => ?_)
  obtain ⟨a, xs, ex, hx⟩ := q1
  subst ex
  cases r1
  have hst : PO X (some (.UnaryOp .USub (.Constant (.int 1) k p1) p2)) (tPart (tUn (rU fun i => .int (-i)) (tC (.int 1)))) := po_some (pe_un un_neg pe_int)
  refine wpAny_Slice (thn (po_none.run pins s1 σ H1 (fun o H2 => o = none ∧ H2 = H1) I1 ⟨rfl, rfl⟩) fun vl s2 ⟨l, H2, I2, pl, el, e2⟩ => ?_)
  subst el e2
  refine thn (po_none.run pins s2 σ H2 (fun o H3 => o = none ∧ H3 = H2) I2 ⟨rfl, rfl⟩) fun vu s3 ⟨u, H3, I3, pu, eu, e3⟩ => ?_
  subst eu e3
  refine thn (hst.run pins s3 σ H3 (fun o H4 => o = some (-1) ∧ H4 = H3) I3 ⟨1, rfl, -1, rfl, rfl, rfl⟩) fun vs s4 ⟨o, H4, I4, ps, eo, e4⟩ => ?_
  subst eo e4
  have I5 : Inv X pins σ H4 { s4 with heap := s4.heap.push { cls := .type "slice", data := .fields #[vl, vu, vs] } } := I4.kept (t' := s4.toks) fun b ob q => Heap.get?_push_of_some _ q
  show wpAny (model X.prog X.w) X.A (subscriptTail e (.Slice none none (some (.UnaryOp .USub (.Constant (.int 1) k p1) p2)) p3) (.ref a) (.ref s4.heap.objs.size)) (EP X pins σ Q) X.xe { s4 with heap := s4.heap.push { cls := .type "slice", data := .fields #[vl, vu, vs] } }
  rcases hx with ⟨hx, q⟩ | ⟨hx, q⟩
  · obtain ⟨its, r, ht, hz⟩ := I5.list hx
    have hlen := r.length
    refine tail_any (ops := [.ref a, .ref s4.heap.objs.size]) ht.isList.typeIs (PySem.slot_list_getitem.lookup) ?_ (by with_unfolding_all rfl)
    refine wpAny_getItem_list_slice ht.isList (Heap.IsSliceOf.new _ vl vu vs) pl pu ps (by decide) ?_ (by rw [List.size_toArray]; omega)
    rw [PySem.W.krv_pick]
    refine ⟨.ref _, _, I5.laid (t' := s4.toks) (o := .lst xs.reverse) (fun b ob q => Heap.get?_push_of_some _ q) (Nat.le_refl _) ?_, rfl, q _ (I5.hok.fresh (Nat.le_refl _))⟩
    exact ⟨by rw [List.length_reverse]; exact hz, _, 0, r.reverse, Heap.get?_push_size _ rfl⟩
  · obtain ⟨its, r, ht, hz⟩ := I5.tuple hx
    have hlen := r.length
    refine tail_any (ops := [.ref a, .ref s4.heap.objs.size]) ht.typeIs (PyProof.Rows.slot_tuple_getitem.lookup) ?_ (by with_unfolding_all rfl)
    refine HT.getItem_tuple_rev ht (Heap.IsSliceOf.new _ vl vu vs) pl pu ps ?_ (by rw [List.size_toArray]; omega)
    refine ⟨.ref _, _, I5.laid (t' := s4.toks) (o := .frz { cls := .type "tuple", data := .seq its.toArray.toList.reverse.toArray } (.tup xs.reverse)) (fun b ob q => Heap.get?_push_of_some _ q) (Nat.le_refl _) ?_, rfl, q _ _ (I5.hok.fresh (Nat.le_refl _)) rfl⟩
    exact ⟨Heap.get?_push_size _ rfl, by rw [List.length_reverse]; exact hz, its.reverse, r.reverse, ⟨_, Heap.get?_push_size _ rfl, rfl, 0, rfl⟩⟩
theorem rd_rev {c : Cc} {cf : Cfg} {W : WX} {σ : L2.St} {H : Hp} {w : Bool} {a : ME} {Q : VK} (h : rd c (pV c w) W (evE cf (.rev a)) σ H Q) : tRevA c.K (rd c (pW c) W (evE cf a)) σ H Q := by
  obtain ⟨N0, s, b, R, B, h⟩ := rd_VF h
  refine ⟨N0, s, b, R, B, Out.mono (Out.bd (Rp := fun H' => pW c H H' N0 (Nof N0 σ s)) h) fun vx H1 ⟨x, b1, k1, B1, r1, h1⟩ => ?_⟩
  obtain ⟨z, e, h2⟩ := h1.ofO
  have g := OpG.of (R.keep k1) k1 B1 h2
  cases x <;> simp only [evRev] at e <;> first | (cases e; done) | skip
  · cases e
    obtain ⟨p, vs, e0, n, h4, q⟩ := r1
    exact ⟨p, vs, e0, .inr ⟨h4.sq, fun p o hp ho => g.tup hp ho q.reverse⟩⟩
  · cases e
    obtain ⟨p, vs, e0, n, h4, q⟩ := r1
    exact ⟨p, vs, e0, .inl ⟨.inl (.of h4), fun p hp => g.lst hp q.reverse⟩⟩
end
section
variable {X : Cx} {c : Cc} {cf : Cfg} {k : Ck} {W : WX} {σ : L2.St} {H : Hp} {N N0 : Addr → Prop}
/-- the class of a value, by what isinstance says of it -/
theorem ty_of (G : GX X c cf k W) {d : D} {v : V} {t0 : Ty} {b0 : Bool} (r : RepW c H N0 N d v) (h0 : D.isTy d t0 = some b0) :
    ∃ tv, KitV c.K H v tv ∧ ∀ t cv u b, TyIs X.mg k.cls t cv u → D.isTy d t = some b → PySem.W.kitOne c.K tv u = some b := by
  cases ed : tyTag d with
  | some x =>
    refine ⟨_, TyX.kit (tyX_of r ed), fun t cv u b hy hb => ?_⟩
    rcases hy with ⟨y, hy, _, rfl⟩ | ⟨j, C, rfl, _⟩
    · exact kit_ty (kit_of_ty hb ed hy)
    · cases d <;> simp only [tyTag] at ed <;> first | (cases ed; done) | (simp only [D.isTy] at hb; cases hb)
  | none =>
    cases d <;> simp only [tyTag] at ed <;> first | (cases ed; done) | skip
    · exact (show False from r).elim
    · cases t0 <;> cases h0
    · cases t0 <;> cases h0
    · rename_i j as
      obtain ⟨a, o, dd, xs, rfl, n, h1, h2, h5, _⟩ := r
      obtain ⟨tv, h3, h4⟩ := G.evs _ _ _ _ _ h2 h1 (fun e z => by
        unfold DictAt at h5
        split at h5
        · rw [h5] at z; cases z
        · obtain ⟨e', x, q1, _, q2, _⟩ := h5
          rw [q1] at z
          cases z
          exact ⟨_, q2⟩)
      refine ⟨tv, h3, fun t cv u b hy hb => h4 t cv u b hy ?_⟩
      rw [← hb]
      cases t <;> rfl
theorem isi_one {x : D} {t : Ty} {z : Bool} (e : anyTy x [t] = some z) : D.isTy x t = some z := by
  simp only [anyTy] at e
  split at e
  · cases e; assumption
  · cases e; assumption
  · cases e
theorem rd_isi (G : GX X c cf k W) {w o : Bool} {t : Ty} {cv : V} {u : Value} {a : ME} {Q : VK} (hy : TyIs X.mg k.cls t cv u) (h : rd c (pV c w) W (evE cf (.isi a o [t])) σ H Q) : tCB (rIsiV c.K) (tCons (rd c (pW c) W (evE cf a)) (tCons (tC cv) tNil)) σ H Q := by
  obtain ⟨N0, s, b, R, B, h⟩ := rd_VF h
  refine ⟨N0, s, b, R, B, Out.mono (Out.bd (Rp := fun H' => pW c H H' N0 (Nof N0 σ s)) h) fun vx H1 ⟨x, b1, k1, B1, r1, h1⟩ => ?_⟩
  obtain ⟨z, e, h2⟩ := h1.ofObd
  have e2 := isi_one e
  obtain ⟨tv, h3, h4⟩ := ty_of G r1 e2
  have hc : ClsV cv u := by
    rcases hy with ⟨y, _, rfl, rfl⟩ | ⟨j, C, _, _, _, rfl, rfl⟩
    · exact .ty y
    · exact .own C
  exact ⟨vx, cv, tv, u, _, rfl, hc, h3, h4 t cv u _ hy e2, h2 _ _ .refl B1 rfl⟩
/-- several of them -/
def TysIs (mg : Str → Option Value) (cls : List Str) : List Ty → List V → List Value → Prop
  | [], cs, us => cs = [] ∧ us = []
  | t :: ts, cs, us => ∃ cv u cs' us', cs = cv :: cs' ∧ us = u :: us' ∧ TyIs mg cls t cv u ∧ TysIs mg cls ts cs' us'
def tVs : List V → TA
  | [] => tNil
  | y :: ys => tCons (tC y) (tVs ys)
theorem tVs_run : ∀ (ys : List V) {σ : L2.St} {H : Hp} {Q : List V → Hp → Prop}, Q ys H → tVs ys σ H Q
  | [], _, _, _, h => h
  | y :: ys, σ, H, Q, h => tVs_run ys (Q := fun xs H2 => Q (y :: xs) H2) h
theorem cls_all {mg : Str → Option Value} {cls : List Str} : ∀ {ts : List Ty} {cs : List V} {us : List Value}, TysIs mg cls ts cs us → Paired ClsV cs us
  | [], _, _, ⟨h1, h2⟩ => by rw [h1, h2]; exact .nil
  | t :: ts, _, _, ⟨cv, u, cs', us', h1, h2, hy, h⟩ => by
    rw [h1, h2]
    refine .cons ?_ (cls_all h)
    rcases hy with ⟨y, _, rfl, rfl⟩ | ⟨j, C, _, _, _, rfl, rfl⟩
    · exact .ty y
    · exact .own C
theorem kit_all {mg : Str → Option Value} {cls : List Str} {K : PySem.W.Frag} {tv : Value} {d : D} (h : ∀ t cv u b, TyIs mg cls t cv u → D.isTy d t = some b → PySem.W.kitOne K tv u = some b) : ∀ {ts : List Ty} {cs : List V} {us : List Value} {b : Bool}, TysIs mg cls ts cs us → anyTy d ts = some b →
    PySem.W.kitAny K tv us = some b
  | [], _, us, b, ⟨_, e⟩, e2 => by
    subst e; cases e2; rfl
  | t :: ts, _, _, b, ⟨cv, u, cs', us', h1, h2, hy, hs⟩, e2 => by
    subst h2
    simp only [anyTy] at e2
    split at e2
    · cases e2
      rename_i e5
      unfold PySem.W.kitAny
      rw [h t cv u true hy e5]
    · rename_i e5
      unfold PySem.W.kitAny
      rw [h t cv u false hy e5]
      exact kit_all h hs e2
    · cases e2
theorem any_one {d : D} {ts : List Ty} {b : Bool} (hn : ts ≠ []) (h : anyTy d ts = some b) : ∃ t b, D.isTy d t = some b := by
  cases ts with
  | nil => exact absurd rfl hn
  | cons t ts =>
    simp only [anyTy] at h
    split at h
    · exact ⟨t, _, by assumption⟩
    · exact ⟨t, _, by assumption⟩
    · cases h
theorem rd_isiT (G : GX X c cf k W) {w o : Bool} {ts : List Ty} {cs : List V} {us : List Value} {a : ME} {Q : VK} (hn : ts ≠ []) (hy : TysIs X.mg k.cls ts cs us) (hl : cs.length ≤ sizeLine) (h : rd c (pV c w) W (evE cf (.isi a o ts)) σ H Q) :
    tCB (rIsiTV c.K) (tCons (rd c (pW c) W (evE cf a)) (tCons (tTup (tVs cs)) tNil)) σ H Q := by
  obtain ⟨N0, s, b, R, B, h⟩ := rd_VF h
  refine ⟨N0, s, b, R, B, Out.mono (Out.bd (Rp := fun H' => pW c H H' N0 (Nof N0 σ s)) h) fun vx H1 ⟨x, b1, k1, B1, r1, h1⟩ => ?_⟩
  obtain ⟨z, e, h2⟩ := h1.ofObd
  obtain ⟨t0, b0, h0⟩ := any_one hn e
  refine tVs_run cs ⟨hl, fun p hp => ?_⟩
  have K2 : Keep c H1 (upd H1 p (.tup cs)) := .laid hp
  have r2 := r1.keep K2 R.bet fun _ => .inl
  obtain ⟨tv, h3, h4⟩ := ty_of G r2 h0
  exact ⟨vx, p, cs, tv, us, z, rfl, upd_same, cls_all hy, h3, kit_all h4 hy e, h2 _ _ K2 (B1.same (same_laid hp)) rfl⟩
theorem rd_attr (G : GX X c cf k W) {w : Bool} {f : Str} {a : ME} {Q : VK} (h : rd c (pV c w) W (evE cf (.attr f a)) σ H Q) : tAttr c.K f (rd c (pW c) W (evE cf a)) σ H Q := by
  obtain ⟨N0, s, b, R, B, h⟩ := rd_VE h
  refine ⟨N0, s, b, R, B, Out.mono (Out.bd (Rp := fun H' => pW c H H' N0 (Nof N0 σ s)) h) fun vx H1 ⟨x, b1, k1, B1, r1, h1⟩ => ?_⟩
  obtain ⟨z, e, h2⟩ := h1.ofO
  cases x <;> simp only [evAttr] at e <;> first | (cases e; done) | skip
  rename_i j as
  rcases as with _ | ⟨d, _ | ⟨_, _⟩⟩ <;> simp only at e <;> first | (cases e; done) | skip
  split at e
  · rename_i hf
    cases e
    obtain ⟨p, o, dd, xs, rfl, n, q1, q2, q3, q4⟩ := r1
    obtain ⟨C, rfl, T, hno⟩ := G.att _ _ _ _ q2
    unfold DictAt at q3
    rw [hf] at q3
    obtain ⟨e, x, rfl, _, he, rfl⟩ := q3
    obtain ⟨v, vs, ev, rv, _⟩ := q4
    cases ev
    exact ⟨p, C, e, x, rfl, q1, T, hno f hf, he, h2 _ _ .refl B1 rv⟩
  · cases e
theorem rd_mk (G : GX X c cf k W) {w : Bool} {j : Nat} {f : Str} {C : Addr} {a : ME} {m : Env → M D} {Q : VK} (hf : excFld j = some f) (hev : ∀ a d, c.ev j a (some d) (ExV C (some d) a)) (hm : ∀ s, m s = (evE cf a s).bd fun d => M.ofO (mkExc j [d])) (h : rd c (pV c w) W m σ H Q) : tMkV C f (tCons (rd c (pE c) W (evE cf a)) tNil) σ H Q := by
  obtain ⟨N0, s, b, R, B, h⟩ := rd_VE h
  rw [hm s] at h
  refine ⟨N0, s, b, R, B, Out.mono (Out.bd (Rp := fun H' => pE c H H' N0 (Nof N0 σ s)) h) fun vx H1 ⟨x, b1, k1, B1, r1, h1⟩ => ?_⟩
  have em : mkExc j [x] = some (.exc j [x]) := by unfold mkExc; rw [hf]
  rw [em] at h1
  refine ⟨vx, rfl, fun p dx hp hdx hne => ?_⟩
  have R1 := R.keep k1
  have K1 : Keep c H1 (upd H1 dx (.xd [(f, vx)])) := .laid hdx
  have hp2 : upd H1 dx (.xd [(f, vx)]) p = none := by rw [upd_ne hne]; exact hp
  have K2 := K1.trans (Keep.laid (c := c) (o := ExV C (some dx) p) hp2)
  have sm : ∀ a o, H1 a = some o → (upd (upd H1 dx (.xd [(f, vx)])) p (ExV C (some dx) p)) a = some o := fun a o z => same_laid hp2 a o (same_laid hdx a o z)
  refine h1 _ _ K2 (B1.same sm) ?_
  have nN : ∀ q, H1 q = none → ¬ Nof N0 σ s q := fun q hq z => R1.domN z hq
  refine ⟨p, _, some dx, [vx], rfl, nN p hp, upd_same, hev p dx, ?_, ⟨vx, [], rfl, r1.keep K2 R1.betN, rfl⟩⟩
  unfold DictAt
  rw [hf]
  exact ⟨dx, vx, rfl, nN dx hdx, by rw [upd_ne (Ne.symm hne), upd_same], rfl⟩
theorem Out.chg {α γ : Type} {Rp : Hp → α → γ → Prop} {σ σ' : L2.St} {H : Hp} {W W' : WX} {Q : γ → Hp → Prop} {r : Res α} (h : Out c Rp σ H W Q r) (hw : ∀ cls dd H', W cls dd σ H' → W' cls dd σ' H') : Out c Rp σ' H W' Q r := by
  cases r with
  | ok x b => exact h
  | ex k as b => exact fun cls dd H' k B e => hw _ _ _ (h cls dd H' k B e)
  | no => exact h
theorem RepF.base {H H1 H' : Hp} {d : D} {v : V} (r : RepF c H1 H' N d v) (k : Keep c H H1) : RepF c H H' N d v := by
  cases d with
  | lst ds =>
    obtain ⟨p, xs, e, n, h, q⟩ := r
    exact ⟨p, xs, e, k.fr p n, h, q⟩
  | _ => exact r
theorem sp_at {H : Hp} {f n : Nat} {vs : List V} {ds : List D} {b : Bx} {Q : VK} {E : XK} {cl : Nat → List D → M D} (hn : ∀ ds b, ds.length ≠ n → cl f ds b = .no) (r : RepL c H N ds vs) (hd : ∀ a, N a → H a ≠ none) (hb : ∀ a, c.β = some a → N a) (B : BoxAt c H b)
    (h : Out c (fun H' d v => Rep c H' N d v) [] H (fun cls dd _ H' => E cls dd H') Q (cl f ds b)) : spF c cl f n vs H Q E := by
  refine ⟨?_, c.β, N, ds, b, r, hd, hb, B, h.rp fun _ _ _ _ q => q.1⟩
  apply Classical.byContradiction
  intro z
  rw [hn ds b (by rw [r.length]; exact z)] at h
  exact h
theorem rd_call {w : Bool} {f n : Nat} {es : MEs} {Q : VK} (hn : ∀ ds b, ds.length ≠ n → cf.cl f ds b = .no) (h : rd c (pV c w) W (evE cf (.call f es)) σ H Q) : tCallS (spF c cf.cl f n) (WE W) (rd c (pL c) W (evEs cf es)) σ H Q := by
  obtain ⟨N0, s, b, R, B, h⟩ := rd_VE h
  refine ⟨N0, s, b, R, B, Out.mono (Out.bd (Rp := fun H' => pL c H H' N0 (Nof N0 σ s)) h) fun vx H1 ⟨x, b1, k1, B1, r1, h1⟩ => ?_⟩
  have R1 := R.keep k1
  refine sp_at hn r1 (fun a => R1.domN) R1.betN B1 (Out.chg h1 fun _ _ _ z => z)
/-- as sp_at, the result new -/
theorem sp_atQ {H : Hp} {f n : Nat} {vs : List V} {ds : List D} {b : Bx} {Q : VK} {E : XK} {cl : Nat → List D → M D} (hn : ∀ ds b, ds.length ≠ n → cl f ds b = .no) (r : RepL c H N ds vs) (hd : ∀ a, N a → H a ≠ none) (hb : ∀ a, c.β = some a → N a) (B : BoxAt c H b)
    (h : Out c (fun H' d v => RepQ c f H H' N d v) [] H (fun cls dd _ H' => E cls dd H') Q (cl f ds b)) : spF c cl f n vs H Q E := by
  refine ⟨?_, c.β, N, ds, b, r, hd, hb, B, h⟩
  apply Classical.byContradiction
  intro z
  rw [hn ds b (by rw [r.length]; exact z)] at h
  exact h
theorem rd_callF {f n : Nat} {es : MEs} {Q : VK} (hf : c.frs f = true) (hn : ∀ ds b, ds.length ≠ n → cf.cl f ds b = .no) (h : rd c (pF c) W (evE cf (.call f es)) σ H Q) : tCallS (spF c cf.cl f n) (WE W) (rd c (pL c) W (evEs cf es)) σ H Q := by
  obtain ⟨N0, s, b, R, B, h⟩ := h
  refine ⟨N0, s, b, R, B, Out.mono (Out.bd (Rp := fun H' => pL c H H' N0 (Nof N0 σ s)) h) fun vx H1 ⟨x, b1, k1, B1, r1, h1⟩ => ?_⟩
  have R1 := R.keep k1
  refine sp_atQ hn r1 (fun a => R1.domN) R1.betN B1 ((Out.rp h1 fun H' d v k q => (q.2 hf).base k1).chg fun _ _ _ z => z)
theorem Out.bd0 {α β γ δ : Type} {Rp : Hp → α → γ → Prop} {Rp' : Hp → β → δ → Prop} {Q : δ → Hp → Prop} {m : M α} {f : α → M β} {b : Bx} (h : Out c Rp' σ H W Q ((m.bd f) b)) :
    Out c Rp σ H W (fun v H1 => ∃ x b1, Keep c H H1 ∧ BoxAt c H1 b1 ∧ Rp H1 x v ∧ Out c Rp' σ H W Q (f x b1)) (m b) := by
  unfold M.bd at h
  cases e : m b with
  | ok x b1 =>
    rw [e] at h
    exact fun v H1 k B r => ⟨x, b1, k, B, r, h⟩
  | ex k as b1 =>
    rw [e] at h
    exact h
  | no =>
    rw [e] at h
    exact h
/-- the box made in the call -/
theorem rd_boxed {f n : Nat} {e : ME} {Q : VK} (hn : ∀ ds b, ds.length ≠ n → cf.cl f ds b = .no) (h : rd c (pE c) W (evE cf (.boxed f e)) σ H Q) : tCallS (spF c cf.cl f n) (WE W) (tCons (rd c (pF c) W (evE cf e)) tNil) σ H Q := by
  obtain ⟨N0, s, b, R, B, h⟩ := h
  refine ⟨N0, s, b, R, B, Out.mono (Out.bd0 (Rp := fun H' => pF c H H' N0 (Nof N0 σ s)) h) fun vx H1 ⟨x, b1, k1, B1, r1, h1⟩ => ?_⟩
  cases x with
  | lst ds =>
    have hds : ∃ i j k, ds = [.int i, .int j, .int k] := by
      rcases ds with _ | ⟨d1, _ | ⟨d2, _ | ⟨d3, _ | ⟨d4, ds⟩⟩⟩⟩
      · exact h1.elim
      · cases d1 <;> exact h1.elim
      · cases d1 <;> first | exact h1.elim | (cases d2 <;> exact h1.elim)
      · cases d1 <;> first | exact h1.elim | (cases d2 <;> first | exact h1.elim | (cases d3 <;> first | exact h1.elim | exact ⟨_, _, _, rfl⟩))
      · cases d1 <;> first | exact h1.elim | (cases d2 <;> first | exact h1.elim | (cases d3 <;> exact h1.elim))
    obtain ⟨i, j, k, rfl⟩ := hds
    cases b1 with
    | some _ => exact h1.elim
    | none =>
      obtain ⟨a, xs, rfl, ha, h3, q⟩ := r1
      have R1 := R.keep k1
      have exs : xs = [.int i, .int j, .int k] := by
        obtain ⟨v1, w1, rfl, e1, q⟩ := q
        obtain ⟨v2, w2, rfl, e2, q⟩ := q
        obtain ⟨v3, w3, rfl, e3, q⟩ := q
        cases q
        rw [show v1 = _ from e1, show v2 = _ from e2, show v3 = _ from e3]
      subst exs
      have h1 : Out c (fun H' => pE c H H' N0 (Nof N0 σ s)) σ H W Q (match cf.cl f [.box] (some (i, j, k)) with | .ok (.bl t) _ => .ok (.bl t) none | _ => .no) := h1
      cases e0 : cf.cl f [.box] (some (i, j, k)) with
      | no => rw [e0] at h1; exact h1.elim
      | ex _ _ _ => rw [e0] at h1; exact h1.elim
      | ok d b2 =>
        rw [e0] at h1
        cases d <;> first | exact h1.elim | skip
        rename_i t
        have hn1 : n = 1 := by
          apply Classical.byContradiction
          intro z
          have := hn [.box] (some (i, j, k)) (by simpa using fun y => z y.symm)
          rw [e0] at this
          cases this
        refine ⟨by rw [hn1]; rfl, some a, fun x => x = a, [.box], some (i, j, k), ⟨_, _, rfl, ⟨a, rfl, rfl⟩, rfl⟩, fun x hx => ?_, fun x hx => ?_, ⟨a, rfl, h3⟩, ?_⟩
        · rw [hx, h3]; exact fun z => nomatch z
        · cases hx; rfl
        · rw [e0]
          intro v H' kp B' r
          refine h1 v H' ⟨fun x o hb hx => ?_, fun x hx => k1.fr x (kp.fr x hx)⟩ trivial r.1
          refine kp.kp x o (fun z => ?_) (k1.kp x o hb hx)
          have z : some a = some x := z
          cases z
          rw [ha] at hx
          cases hx
  | _ => exact h1.elim
mutual
theorem Rep.pure0 {N' : Addr → Prop} (hN : ∀ a, N' a → N a ∨ ∃ xs, H a = some (.lst xs)) : ∀ (d : D) (v : V), d.pure = true → Rep c H N d v → Rep c H N' d v
  | .non, _, _, r => r
  | .bl _, _, _, r => r
  | .int _, _, _, r => r
  | .str _, _, _, r => r
  | .tup ds, _, p, r => let ⟨a, xs, e, n, h, q⟩ := r; ⟨a, xs, e, fun z => (hN a z).elim n (fun ⟨ys, y⟩ => by obtain ⟨_, h, _⟩ := h; rw [y] at h; cases h), h, RepL.pure0 hN ds xs (by simpa [D.pure] using p) q⟩
  | .lst _, _, p, _ => by simp [D.pure] at p
  | .dic _, _, _, r => r
  | .box, _, p, _ => by simp [D.pure] at p
  | .scr, _, p, _ => by simp [D.pure] at p
  | .exc _ _, _, p, _ => by simp [D.pure] at p
theorem RepL.pure0 {N' : Addr → Prop} (hN : ∀ a, N' a → N a ∨ ∃ xs, H a = some (.lst xs)) : ∀ (ds : List D) (vs : List V), D.pureL ds = true → RepL c H N ds vs → RepL c H N' ds vs
  | [], _, _, r => r
  | d :: ds, _, p, r => by
    obtain ⟨v, vs, e, h, q⟩ := r
    simp only [D.pureL, Bool.and_eq_true] at p
    exact ⟨v, vs, e, Rep.pure0 hN d v p.1 h, RepL.pure0 hN ds vs p.2 q⟩
end
theorem rd_lend {w : Bool} {f n : Nat} {es : MEs} {Q : VK} (hn : ∀ ds b, ds.length ≠ n → cf.cl f ds b = .no) (h : rd c (pV c w) W (evE cf (.lend f es)) σ H Q) : tCallS (spF c cf.cl f n) (WE W) (rd c (pL0 c) W (evEs cf es)) σ H Q := by
  obtain ⟨N0, s, b, R, B, h⟩ := rd_VE h
  refine ⟨N0, s, b, R, B, Out.mono (Out.bd (Rp := fun H' => pL0 c H H' N0 (Nof N0 σ s)) h) fun vx H1 ⟨x, b1, k1, B1, r1, h1⟩ => ?_⟩
  have R1 := R.keep k1
  refine sp_at hn r1 R1.dom R1.bet B1 ((Out.mono (Out.bd (Rp := fun H' d v => Rep c H' N0 d v) h1) fun v H2 ⟨d, b2, k2, B2, r2, h2⟩ => ?_).chg fun _ _ _ z => z)
  by_cases hp : d.pure = true
  · rw [if_pos hp] at h2
    have R2 := R1.keep k2
    refine h2 _ _ .refl B2 (Rep.pure0 (fun a z => ?_) d v hp r2)
    rcases z with z | ⟨i, d', z1, z2⟩
    · exact .inl z
    · obtain ⟨a', z3, z4, _⟩ := R2.ow i d' z1
      rw [z2] at z3
      cases z3
      cases d' with
      | lst ds => obtain ⟨xs, z5, _⟩ := z4; exact .inr ⟨xs, z5⟩
      | _ => exact z4.elim
  · rw [if_neg hp] at h2
    exact h2.elim
end
end Mi
namespace Mi
open PySem L2
theorem and2 {a b : Bool} (h : (a && b) = true) : a = true ∧ b = true := by rwa [Bool.and_eq_true] at h
theorem not1 {a : Bool} (h : (!a) = true) : a = false := by cases a <;> first | rfl | cases h
section
variable {X : Cx} {c : Cc} {cf : Cfg} {k : Ck} {W : WX} {w : Bool} {x : Expr}
structure Okx (X : Cx) (c : Cc) (cf : Cfg) (W : WX) (w : Bool) (e : ME) (x : Expr) : Prop where
  v : PE X x (rd c (pV c w) W (evE cf e))
  t : PT X x (rd c (pX (α := Bool)) W (evT cf e))
/-- .. and what results is new -/
structure Okf (X : Cx) (c : Cc) (cf : Cfg) (W : WX) (w : Bool) (e : ME) (x : Expr) : Prop where
  o : Okx X c cf W w e x
  f : PE X x (rd c (pF c) W (evE cf e))
/-- a node whose test is its value's truth -/
theorem okT {e : ME} (G : GX X c cf k W) (ht : ∀ s, evT cf e s = (evE cf e s).bd fun x => M.ofO (truth x)) (hv : PE X x (rd c (pV c w) W (evE cf e))) (he : ∀ whole, isTrue x X.env whole = (do let v ← whole; standAt x.pos; holding [v] (truthy v))) : Okx X c cf W w e x :=
  ⟨hv, PT.imp (pt_truth hv he) fun σ H Q h => by
    have e1 : evT cf e = fun s => (evE cf e s).bd fun x => M.ofO (truth x) := funext ht
    rw [e1] at h
    have h := rd_tru (w := w) h
    rw [G.K] at h
    exact h⟩
theorem nd_var {i : Nat} (G : GX X c cf k W) (h : ckE k w (.var i) x = true) : Okx X c cf W w (.var i) x := by
  cases x <;> first | (cases h; done) | skip
  rename_i y p
  obtain ⟨h1, h2⟩ := and2 (show (decide (k.N[i]? = some y) && k.vis y) = true from h)
  obtain ⟨h3, h4⟩ := vis_of G h2
  exact okT G (fun _ => rfl) (PE.imp (pe_var (i := i) (by rw [G.N]; exact of_decide_eq_true h1) h3 (plain_db h4) (plain_cd h4)) fun σ H Q h => rd_var (rd_VE h)) (fun _ => rfl)
theorem nd_bor {i : Nat} (G : GX X c cf k W) (h : ckE k w (.bor i) x = true) : Okx X c cf W w (.bor i) x := by
  cases x <;> first | (cases h; done) | skip
  rename_i y p
  obtain ⟨h0, h2⟩ := and2 (show (w && decide (k.N[i]? = some y) && k.vis y) = true from h)
  obtain ⟨h0, h1⟩ := and2 h0
  subst h0
  obtain ⟨h3, h4⟩ := vis_of G h2
  exact okT G (fun _ => rfl) (PE.imp (pe_var (i := i) (by rw [G.N]; exact of_decide_eq_true h1) h3 (plain_db h4) (plain_cd h4)) fun σ H Q h => rd_bor h) (fun _ => rfl)
theorem nd_cst {d : D} (G : GX X c cf k W) (h : ckE k w (.cst d) x = true) : Okx X c cf W w (.cst d) x := by
  cases x <;> first | (cases h; done) | skip
  rename_i a j p
  replace h : ckCst d a = true := h
  cases d <;> cases a <;> first | (cases h; done) | skip
  · exact okT G (fun _ => rfl) (PE.imp pe_non fun σ H Q h => rd_cst (d := .non) (fun _ _ => rfl) (rd_VE h)) (fun _ => rfl)
  · rename_i b1 b2
    have e : b1 = b2 := eq_of_beq h
    subst e
    exact okT G (fun _ => rfl) (PE.imp pe_bl fun σ H Q h => rd_cst (d := .bl b1) (fun _ _ => rfl) (rd_VE h)) (fun _ => rfl)
  · rename_i b1 b2
    have e : b1 = b2 := of_decide_eq_true h
    subst e
    exact okT G (fun _ => rfl) (PE.imp pe_int fun σ H Q h => rd_cst (d := .int b1) (fun _ _ => rfl) (rd_VE h)) (fun _ => rfl)
  · rename_i b1 b2
    obtain ⟨e, h2⟩ := and2 (show (decide (b1 = b2) && strFits b1) = true from h)
    have e : b1 = b2 := of_decide_eq_true e
    subst e
    exact okT G (fun _ => rfl) (PE.imp pe_str fun σ H Q h => rd_cst (d := .str b1) (fun _ _ => ⟨rfl, h2⟩) (rd_VE h)) (fun _ => rfl)
theorem nd_glo {g : Nat} (G : GX X c cf k W) (h : ckE k w (.glo g) x = true) : Okx X c cf W w (.glo g) x := by
  cases x <;> first | (cases h; done) | skip
  rename_i y p
  obtain ⟨h1, h2⟩ := and2 (show (k.gl y && decide ((k.P.gs[g]?).map (·.1) = some y)) = true from h)
  obtain ⟨h3, h4⟩ := gl_of G h1
  obtain ⟨d, v, u, e1, e2, e3, e4⟩ := G.gs g y (of_decide_eq_true h2)
  exact okT G (fun _ => rfl) (PE.imp (pe_glob h3 e2 e3 (plain_db h4)) fun σ H Q h => rd_glo e1 e4 (rd_VE h)) (fun _ => rfl)
theorem nd_tup {es : MEs} (G : GX X c cf k W) (hs : ∀ xs, ckEs k es xs = true → PA X xs (rd c (pL c) W (evEs cf es))) (h : ckE k w (.tup es) x = true) : Okx X c cf W w (.tup es) x := by
  cases x <;> first | (cases h; done) | skip
  exact okT G (fun _ => rfl) (PE.imp (pe_tupC (hs _ h)) fun σ H Q h => rd_tup (rd_VE h)) (fun _ => rfl)
theorem nd_lst {es : MEs} (G : GX X c cf k W) (hs : ∀ xs, ckEs k es xs = true → PA X xs (rd c (pL c) W (evEs cf es))) (h : ckE k w (.lst es) x = true) : Okf X c cf W w (.lst es) x := by
  cases x <;> first | (cases h; done) | skip
  exact ⟨okT G (fun _ => rfl) (PE.imp (pe_lst (hs _ h)) fun σ H Q h => rd_lst (rd_VF h)) (fun _ => rfl), PE.imp (pe_lst (hs _ h)) fun σ H Q h => rd_lst h⟩
abbrev Hyp (X : Cx) (c : Cc) (cf : Cfg) (k : Ck) (W : WX) (a : ME) : Prop := ∀ w x, ckE k w a x = true → Okx X c cf W w a x
theorem nd_op {o : Op} {a b : ME} (G : GX X c cf k W) (ha : Hyp X c cf k W a) (hb : Hyp X c cf k W b) (h : ckE k w (.op o a b) x = true) : Okf X c cf W w (.op o a b) x := by
  cases x <;> first | (cases h; done) | skip
  · rename_i l p r pos
    obtain ⟨h1, h2⟩ := and2 (show (decide (binOf o = some p) && ckE k true a l && ckE k true b r) = true from h)
    obtain ⟨h0, h1⟩ := and2 h1
    have h0 := of_decide_eq_true h0
    have ho := ru_op (c := c) G.K.symm G.un o
    have e : opTree o = binaryOp p := by cases o <;> cases h0 <;> rfl
    rw [e] at ho
    exact ⟨okT G (fun _ => rfl) (PE.imp (pe_op ho (PE.v1 (ha _ _ h1).v) (PE.v1 (hb _ _ h2).v)) fun σ H Q h => rd_op (rd_VF h)) (fun _ => rfl), PE.imp (pe_op ho (PE.v1 (ha _ _ h1).v) (PE.v1 (hb _ _ h2).v)) fun σ H Q h => rd_op h⟩
  · rename_i l ps rs pos
    cases ps with
    | nil => cases h
    | cons p ps =>
      cases ps with
      | cons _ _ => cases h
      | nil =>
        cases rs with
        | nil => cases h
        | cons r rs =>
          cases rs with
          | cons _ _ => cases h
          | nil =>
            obtain ⟨h1, h2⟩ := and2 (show (decide (cmpOf o = some p) && !behindInMarks p r && ckE k true a l && ckE k true b r) = true from h)
            obtain ⟨h0, h1⟩ := and2 h1
            obtain ⟨h0, hm⟩ := and2 h0
            have hm := not1 hm
            have h0 := of_decide_eq_true h0
            have ho := ru_op (c := c) G.K.symm G.un o
            have e : opTree o = compareOp p := by cases o <;> cases h0 <;> rfl
            rw [e] at ho
            exact ⟨⟨PE.imp (pe_cmpR ho (PE.v1 (ha _ _ h1).v) (PE.v1 (hb _ _ h2).v) hm) fun σ H Q h => rd_op (rd_VF h),
              PT.imp (pt_cmpR ho (PE.v1 (ha _ _ h1).v) (PE.v1 (hb _ _ h2).v) hm) fun σ H Q h => rd_op (rd_EF (rd_truB (evB_op h0) h))⟩,
              PE.imp (pe_cmpR ho (PE.v1 (ha _ _ h1).v) (PE.v1 (hb _ _ h2).v) hm) fun σ H Q h => rd_op h⟩
theorem evB_chain {o1 o2 : Op} {p : CmpOp} {a b e : ME} (hp : cmpOf o2 = some p) : ∀ s bx d b', evE cf (.chain o1 o2 a b e) s bx = .ok d b' → ∃ t, d = .bl t := by
  intro s bx d b' h
  obtain ⟨x, b1, _, h⟩ := bd_ok (show ((evE cf a s).bd fun x => (evE cf b s).bd fun y => (M.ofO (evOp o1 x y)).asB.bd fun k => if k = true then (evE cf e s).bd fun z => M.ofO (evOp o2 y z) else M.ret (.bl false)) bx = .ok d b' from h)
  obtain ⟨y, b2, _, h⟩ := bd_ok h
  obtain ⟨kk, b3, _, h⟩ := bd_ok h
  cases kk with
  | true =>
    rw [if_pos rfl] at h
    obtain ⟨z, b4, _, h⟩ := bd_ok h
    cases e3 : evOp o2 y z with
    | none => rw [e3] at h; cases h
    | some z => rw [e3] at h; cases h; exact op_bl hp e3
  | false =>
    rw [if_neg (by decide)] at h
    cases h
    exact ⟨_, rfl⟩
theorem nd_chain {o1 o2 : Op} {a b e : ME} (G : GX X c cf k W) (ha : Hyp X c cf k W a) (hb : Hyp X c cf k W b) (he : Hyp X c cf k W e) (h : ckE k w (.chain o1 o2 a b e) x = true) : Okx X c cf W w (.chain o1 o2 a b e) x := by
  cases x <;> first | (cases h; done) | skip
  rename_i l ps rs pos
  rcases ps with _ | ⟨p1, _ | ⟨p2, _ | ⟨_, _⟩⟩⟩ <;> first | (cases h; done) | skip
  rcases rs with _ | ⟨r1, _ | ⟨r2, _ | ⟨_, _⟩⟩⟩ <;> first | (cases h; done) | skip
  obtain ⟨h, h5⟩ := and2 (show (decide (cmpOf o1 = some p1) && decide (cmpOf o2 = some p2) && !lastMarks [p1, p2] [r1, r2] && ckE k true a l && ckE k true b r1 && ckE k true e r2) = true from h)
  obtain ⟨h, h4⟩ := and2 h
  obtain ⟨h, h3⟩ := and2 h
  obtain ⟨h, hm⟩ := and2 h
  obtain ⟨h1, h2⟩ := and2 h
  have hm := not1 hm
  have h1 := of_decide_eq_true h1
  have h2 := of_decide_eq_true h2
  have ho1 := ru_op (c := c) G.K.symm G.un o1
  have e1 : opTree o1 = compareOp p1 := by cases o1 <;> cases h1 <;> rfl
  rw [e1] at ho1
  have ho2 := ru_op (c := c) G.K.symm G.un o2
  have e2 : opTree o2 = compareOp p2 := by cases o2 <;> cases h2 <;> rfl
  rw [e2] at ho2
  exact ⟨PE.imp (pe_chain ho1 ho2 (PE.v1 (ha _ _ h3).v) (PE.v1 (hb _ _ h4).v) (PE.v1 (he _ _ h5).v) hm) fun σ H Q h => rd_chain (rd_VE h),
    PT.imp (pt_chain ho1 ho2 (PE.v1 (ha _ _ h3).v) (PE.v1 (hb _ _ h4).v) (PE.v1 (he _ _ h5).v) hm) fun σ H Q h => rd_chain (rd_truB (evB_chain h2) h)⟩
theorem nd_neg {a : ME} (G : GX X c cf k W) (ha : Hyp X c cf k W a) (h : ckE k w (.neg a) x = true) : Okx X c cf W w (.neg a) x := by
  cases x <;> first | (cases h; done) | skip
  rename_i o y p
  cases o <;> first | (cases h; done) | skip
  exact okT G (fun _ => rfl) (PE.imp (pe_un un_neg (PE.v1 (ha true y h).v)) fun σ H Q h => rd_neg (rd_VE h)) (fun _ => rfl)
theorem nd_not {a : ME} (G : GX X c cf k W) (ha : Hyp X c cf k W a) (h : ckE k w (.notE a) x = true) : Okx X c cf W w (.notE a) x := by
  cases x <;> first | (cases h; done) | skip
  rename_i o y p
  cases o <;> first | (cases h; done) | skip
  exact ⟨PE.imp (pe_notT (PE.v1 (ha true y h).v)) fun σ H Q h => by
      have h := rd_not h
      rw [G.K] at h
      exact h,
    PT.imp (pt_not (ha true y h).t) fun σ H Q h => rdT_not h⟩
theorem nd_ite {t a b : ME} (G : GX X c cf k W) (ht : Hyp X c cf k W t) (ha : Hyp X c cf k W a) (hb : Hyp X c cf k W b) (h : ckE k w (.ite t a b) x = true) : Okx X c cf W w (.ite t a b) x := by
  cases x <;> first | (cases h; done) | skip
  rename_i y1 y2 y3 p
  obtain ⟨h1, h3⟩ := and2 (show (ckE k true t y1 && ckE k w a y2 && ckE k w b y3) = true from h)
  obtain ⟨h1, h2⟩ := and2 h1
  exact ⟨PE.imp (pe_ifExp (ht _ _ h1).t (ha _ _ h2).v (hb _ _ h3).v) fun σ H Q h => rd_iteV h, ⟨fun pins s σ H Q I ⟨_, _, _, _, _, z⟩ => False.elim z⟩⟩
theorem isN_ok {n : Bool} : OpR X (compareOp (if n = true then CmpOp.IsNot else CmpOp.Is)) (fun x y H Q => y = .non ∧ Q (.bl (xor n (decide (x = .non)))) H) := by
  cases n
  · simpa using (op_isN (X := X))
  · simpa using (op_notN (X := X))
theorem evB_isN {n : Bool} {a : ME} : ∀ s bx d b', evE cf (.isN n a) s bx = .ok d b' → ∃ t, d = .bl t := by
  intro s bx d b' h
  obtain ⟨x, b1, _, h⟩ := bd_ok (show ((evE cf a s).bd fun x => M.ret (.bl (xor n (isNon x)))) bx = .ok d b' from h)
  cases h
  exact ⟨_, rfl⟩
theorem nd_isN {n : Bool} {a : ME} (G : GX X c cf k W) (ha : Hyp X c cf k W a) (h : ckE k w (.isN n a) x = true) : Okx X c cf W w (.isN n a) x := by
  cases x <;> first | (cases h; done) | skip
  rename_i l ps rs pos
  rcases ps with _ | ⟨p, _ | ⟨_, _⟩⟩ <;> first | (cases h; done) | skip
  rcases rs with _ | ⟨r, _ | ⟨_, _⟩⟩ <;> first | (cases h; done) | skip
  · cases r <;> first | (cases h; done) | skip
    rename_i a' j p' 
    cases a' <;> first | (cases h; done) | skip
    obtain ⟨h1, h2⟩ := and2 (show (decide (p = (if n then CmpOp.IsNot else CmpOp.Is)) && ckE k true a l) = true from h)
    have h1 := of_decide_eq_true h1
    subst h1
    exact ⟨PE.imp (pe_cmpR isN_ok (PE.v1 (ha _ _ h2).v) pe_non rfl) fun σ H Q h => rd_isN (rd_VE h),
      PT.imp (pt_cmpR isN_ok (PE.v1 (ha _ _ h2).v) pe_non rfl) fun σ H Q h => rd_isN (rd_truB evB_isN h)⟩
  · cases r <;> first | (cases h; done) | skip
    rename_i a' j p'
    cases a' <;> cases h
theorem plainIx {y : Expr} (h : isSlice y = false) : PlainIx y := by
  intro o i
  cases y <;> first | rfl | cases h
theorem nd_ix {a i : ME} (G : GX X c cf k W) (ha : Hyp X c cf k W a) (hi : Hyp X c cf k W i) (h : ckE k w (.ix a i) x = true) : Okx X c cf W w (.ix a i) x := by
  cases x <;> first | (cases h; done) | skip
  rename_i y z p
  obtain ⟨h1, h2⟩ := and2 (show (!isSlice z && ckE k true a y && ckE k true i z) = true from h)
  obtain ⟨h0, h1⟩ := and2 h1
  exact okT G (fun _ => rfl) (PE.imp (pe_ix ix_seq (PE.v1 (ha _ _ h1).v) (PE.v1 (hi _ _ h2).v) (plainIx (not1 h0))) fun σ H Q h => by
    have h := rd_ix (rd_VE h)
    rw [G.K] at h
    exact h) (fun _ => rfl)
abbrev HypO (X : Cx) (c : Cc) (cf : Cfg) (k : Ck) (W : WX) (a : MO) : Prop := ∀ o, ckO k a o = true → PO X o (rd c (pX (α := Option Int)) W (evO cf a))
theorem nd_sl {a : ME} {lo hi : MO} (G : GX X c cf k W) (ha : Hyp X c cf k W a) (hl : HypO X c cf k W lo) (hh : HypO X c cf k W hi) (h : ckE k w (.sl a lo hi) x = true) : Okf X c cf W w (.sl a lo hi) x := by
  cases x <;> first | (cases h; done) | skip
  rename_i y z p
  cases z <;> first | (cases h; done) | skip
  rename_i l u st p2
  cases st <;> first | (cases h; done) | skip
  obtain ⟨h1, h3⟩ := and2 (show (ckE k true a y && ckO k lo l && ckO k hi u) = true from h)
  obtain ⟨h1, h2⟩ := and2 h1
  exact ⟨okT G (fun _ => rfl) (PE.imp (pe_slice sl_all (PE.v1 (ha _ _ h1).v) (hl _ h2) (hh _ h3)) fun σ H Q h => by
    have h := rd_sl G.ns (rd_VF h)
    rw [G.K] at h
    exact h) (fun _ => rfl), PE.imp (pe_slice sl_all (PE.v1 (ha _ _ h1).v) (hl _ h2) (hh _ h3)) fun σ H Q h => by
    have h := rd_sl G.ns h
    rw [G.K] at h
    exact h⟩
theorem inv_rev {a : ME} (h : ckE k w (.rev a) x = true) : ∃ y n p1 p2 p3 pos, x = .Subscript y (.Slice none none (some (.UnaryOp .USub (.Constant (.int 1) n p1) p2)) p3) pos ∧ ckE k true a y = true := by
  cases x <;> first | (cases h; done) | skip
  rename_i y z p
  cases z <;> first | (cases h; done) | skip
  rename_i l u st p2
  cases l <;> cases u <;> cases st <;> first | (cases h; done) | skip
  rename_i e
  cases e <;> first | (cases h; done) | skip
  rename_i o e p3
  cases o <;> cases e <;> first | (cases h; done) | skip
  rename_i a' n p4
  cases a' <;> first | (cases h; done) | skip
  rename_i i
  by_cases hi : i = 1
  · subst hi
    exact ⟨y, n, p4, p3, p2, p, rfl, h⟩
  · exfalso
    revert h
    unfold ckE
    split <;> simp_all
theorem nd_rev {a : ME} (G : GX X c cf k W) (ha : Hyp X c cf k W a) (h : ckE k w (.rev a) x = true) : Okx X c cf W w (.rev a) x := by
  obtain ⟨y, n, p1, p2, p3, pos, rfl, h1⟩ := inv_rev h
  exact okT G (fun _ => rfl) (PE.imp (pe_revA (PE.v1 (ha _ _ h1).v)) fun σ H Q h => by
    have h := rd_rev h
    rw [G.K] at h
    exact h) (fun _ => rfl)
theorem biN {b : Bi} (hb : b = .len ∨ b = .abs ∨ b = .all ∨ b = .any ∨ b = .sum ∨ b = .sort) (G : GX X c cf k W) {a : ME} {y z : Expr} {p pos : Pos} {r : Expr} (ha : Hyp X c cf k W a)
    (hc : CallR X (biVal b) (rBi c b)) (hg : Gl X (biName b)) (hm : X.mg (biName b) = none) (hz : ckE k true a z = true) (hst : isStar z = false) : PE X (.Call (.Name (biName b) p) [z] [] pos) (tCB (rBi c b) (tCons (rd c (pW c) W (evE cf a)) tNil)) := by
  have hA : PA X [z] (tCons (rd c (pW c) W (evE cf a)) tNil) := pa_cons (PE.v1 (ha _ _ hz).v) pa_nil (star_ns hst)
  rcases hb with rfl | rfl | rfl | rfl | rfl | rfl
  · exact pe_callB hc hg hm boot_len hA (by decide +kernel) (by decide +kernel) (star_ns hst) rfl
  · exact pe_callB hc hg hm PyProof.Rows.boot_abs hA (by decide +kernel) (by decide +kernel) (star_ns hst) rfl
  · exact pe_callB hc hg hm PyProof.Rows.boot_all hA (by decide +kernel) (by decide +kernel) (star_ns hst) rfl
  · exact pe_callB hc hg hm PyProof.Rows.boot_any hA (by decide +kernel) (by decide +kernel) (star_ns hst) rfl
  · exact pe_callB hc hg hm PyProof.Rows.boot_sum hA (by decide +kernel) (by decide +kernel) (star_ns hst) rfl
  · exact pe_callB hc hg hm PyProof.Rows.boot_sorted hA (by decide +kernel) (by decide +kernel) (star_ns hst) rfl
theorem biT {b : Bi} (hb : b = .int ∨ b = .list ∨ b = .tuple) (G : GX X c cf k W) {a : ME} {y z : Expr} {p pos : Pos} {r : Expr} (ha : Hyp X c cf k W a)
    (hc : CallR X (biVal b) (rBi c b)) (hg : Gl X (biName b)) (hm : X.mg (biName b) = none) (hz : ckE k true a z = true) (hst : isStar z = false) : PE X (.Call (.Name (biName b) p) [z] [] pos) (tCB (rBi c b) (tCons (rd c (pW c) W (evE cf a)) tNil)) := by
  have hA : PA X [z] (tCons (rd c (pW c) W (evE cf a)) tNil) := pa_cons (PE.v1 (ha _ _ hz).v) pa_nil (star_ns hst)
  rcases hb with rfl | rfl | rfl
  · exact pe_callTy hc hg hm PyProof.Rows.boot_int hA (by decide +kernel) (by decide +kernel) (star_ns hst) rfl
  · exact pe_callTy hc hg hm PyProof.Rows.boot_list hA (by decide +kernel) (by decide +kernel) (star_ns hst) rfl
  · exact pe_callTy hc hg hm PyProof.Rows.boot_tuple hA (by decide +kernel) (by decide +kernel) (star_ns hst) rfl
end
end Mi
namespace Mi
open PySem L2
section
variable {X : Cx}
/-- a method of a tuple that has no dict -/
def tTM (r : V → List V → Hp → VK → Prop) (te : TE) (ta : TA) : TE := fun σ H Q => te σ H fun x H1 => (∃ a xs, x = .ref a ∧ TupAt H1 a xs) ∧ ta σ H1 fun xs H2 => r x xs H2 Q
open PySem.Spec PyProof.Rows in
theorem pe_tm {id : String} {name : Str} {r : V → List V → Hp → VK → Prop} {o e : Expr} {te : TE} {ta : TA} {apos cpos : Pos} (slot : Slot "tuple" name id) (hty : typeOf (.builtin id) = pure (.type "method_descriptor")) (hm : MtR X id r) (ho : PE X o te) (ha : PA X [e] ta)
    (hb : attributeBase o name X.env (PySem.eval o X.env) = PySem.eval o X.env) (hl : (apos.endLine == cpos.line) = true) (hs : starEach [e] X.env = [(false, PySem.eval e X.env)]) :
    PE X (.Call (.Attribute o name apos) [e] [] cpos) (tTM r te ta) := by
  refine ⟨fun pins s σ H Q I h => ?_⟩
  refine wpAny_Call_method_late hb (by rw [hs]; rfl) hl rfl (thn (ho.run pins s σ H _ I h) fun v s1 ⟨x, H1, I1, r1, ⟨a, xs, ex, ob, hx, hd⟩, q1⟩ => ?_)
  subst ex
  obtain rfl : v = Value.ref a := r1
  obtain ⟨hg, _, its, _, p⟩ : ObjOk X.prog X.w H1 s1.heap a (.frz ob (.tup xs)) := I1.hok a _ hx
  obtain ⟨o2, h2, hc, _⟩ := p
  rw [hg] at h2
  cases h2
  refine ⟨"tuple", id, PySem.F.plainAttrs_tuple, slot, hty, ⟨ob, hg, hc⟩, fun b e => by cases e; exact ⟨ob, hg, hd⟩, ?_⟩
  have hA := ha.run cpos pins s1 σ H1 _ I1 q1
  rw [hs] at hA ⊢
  exact Calls.callWith_builtin rfl (Calls.evalArgs_plain (thn hA fun us s2 ⟨vs, H2, I2, r2, q2⟩ => hm pins s2 σ H2 (.ref a) vs (.ref a) us Q I2 rfl r2 q2))
end
theorem idxF_spec {x : Str} : ∀ {xs : List Str} {j : Nat}, idxF x xs = some j → xs[j]? = some x ∧ ∀ m, m < j → xs[m]? ≠ some x
  | [], _, h => by cases h
  | y :: r, j, h => by
    unfold idxF at h
    split at h
    · rename_i e
      cases h
      exact ⟨by rw [e]; rfl, fun m hm => absurd hm (Nat.not_lt_zero _)⟩
    · rename_i e
      obtain ⟨i, h1, rfl⟩ := Option.map_eq_some_iff.mp h
      obtain ⟨h2, h3⟩ := idxF_spec h1
      refine ⟨by simpa using h2, fun m hm => ?_⟩
      cases m with
      | zero => simpa using e
      | succ m => simpa using h3 m (by omega)
section
variable {X : Cx} {c : Cc} {cf : Cfg} {k : Ck} {W : WX} {σ : L2.St} {H : Hp} {w : Bool} {x : Expr} {Q : VK}
abbrev rTupIx (K : PySem.W.Frag) : V → List V → Hp → VK → Prop := fun x xs H Q => ∃ p, ∃ ys : List Str, ∃ z j, x = .ref p ∧ xs = [.str z] ∧ SqT K H p (ys.map V.str) ∧ ys[j]? = some z ∧ (∀ m, m < j → ys[m]? ≠ some z) ∧ Q (.int (j : Nat)) H
theorem rd_idxL {a e : ME} (h : rd c (pE c) W (evE cf (.idx false a e)) σ H Q) : tBM c.K "list" (rIndex c.K) (rd c (pW c) W (evE cf a)) (tCons (rd c (pE c) W (evE cf e)) tNil) σ H Q := by
  obtain ⟨N0, s, b, R, B, h⟩ := h
  refine ⟨N0, s, b, R, B, Out.mono (Out.bd (Rp := fun H' => pW c H H' N0 (Nof N0 σ s)) h) fun vx H1 ⟨x, b1, k1, B1, r1, h1⟩ => ?_⟩
  obtain ⟨ys, e1, h2⟩ := h1.ofObd
  cases x <;> simp only [idxRecv] at e1 <;> first | (cases e1; done) | skip
  obtain ⟨a, xs, rfl, n, h3, q⟩ := id r1
  refine ⟨.inl ⟨rfl, xs, .inl (.of h3)⟩, N0, s, b1, R.keep k1, B1, Out.mono (Out.bd (Rp := fun H' => pE c H1 H' N0 (Nof N0 σ s)) h2) fun vy H2 ⟨y, b2, k2, B2, r2, h4⟩ => ?_⟩
  obtain ⟨z, e2, h5⟩ := h4.ofO
  cases y <;> simp only [idxAt] at e2 <;> first | (cases e2; done) | skip
  rename_i x0
  obtain ⟨j, e3, rfl⟩ := Option.map_eq_some_iff.mp e2
  obtain ⟨h6, h7⟩ := idxF_spec e3
  obtain ⟨h8, _⟩ := strs_rep q e1
  subst h8
  have h9 : H2 a = some (.lst (ys.map V.str)) := k2.kp a _ (fun z => n (R.bet a z)) h3
  refine ⟨a, ys.map V.str, .str x0, j, .str x0, rfl, by rw [r2.1], .inl (.of h9), rfl, flat_strs ys, by rw [List.getElem?_map, h6]; rfl, beq_self_eq_true x0, fun m z' hm hz => ?_, h5 _ _ .refl B2 rfl⟩
  rw [List.getElem?_map] at hz
  obtain ⟨w, h10, rfl⟩ := Option.map_eq_some_iff.mp hz
  refine beq_eq_false_iff_ne.mpr fun z => h7 m hm ?_
  rw [h10, z]
theorem rd_idxT {a e : ME} (h : rd c (pE c) W (evE cf (.idx true a e)) σ H Q) : tTM (rTupIx c.K) (rd c (pW c) W (evE cf a)) (tCons (rd c (pE c) W (evE cf e)) tNil) σ H Q := by
  obtain ⟨N0, s, b, R, B, h⟩ := h
  refine ⟨N0, s, b, R, B, Out.mono (Out.bd (Rp := fun H' => pW c H H' N0 (Nof N0 σ s)) h) fun vx H1 ⟨x, b1, k1, B1, r1, h1⟩ => ?_⟩
  obtain ⟨ys, e1, h2⟩ := h1.ofObd
  cases x <;> simp only [idxRecv] at e1 <;> first | (cases e1; done) | skip
  obtain ⟨a, xs, rfl, n, h3, q⟩ := id r1
  refine ⟨⟨a, xs, rfl, h3⟩, N0, s, b1, R.keep k1, B1, Out.mono (Out.bd (Rp := fun H' => pE c H1 H' N0 (Nof N0 σ s)) h2) fun vy H2 ⟨y, b2, k2, B2, r2, h4⟩ => ?_⟩
  obtain ⟨z, e2, h5⟩ := h4.ofO
  cases y <;> simp only [idxAt] at e2 <;> first | (cases e2; done) | skip
  rename_i x0
  obtain ⟨j, e3, rfl⟩ := Option.map_eq_some_iff.mp e2
  obtain ⟨h6, h7⟩ := idxF_spec e3
  obtain ⟨h8, _⟩ := strs_rep q e1
  subst h8
  have h9 : TupAt H2 a (ys.map V.str) := h3.mp fun o => k2.kp a o fun z => n (.inl (R.bet a z))
  exact ⟨a, ys, x0, j, rfl, by rw [r2.1], h9.sq, h6, h7, h5 _ _ .refl B2 rfl⟩
theorem cb_of {y : Expr} {m : Str} {env : PySem.Env} (h : callBase y = true) : attributeBase y m env (PySem.eval y env) = PySem.eval y env := by
  cases y <;> first | rfl | (cases h; done) | skip
  rename_i f es ks p
  cases es with
  | nil => cases h
  | cons a es => cases f <;> rfl
theorem nd_idx {tp : Bool} {a e : ME} (G : GX X c cf k W) (ha : Hyp X c cf k W a) (he : Hyp X c cf k W e) (h : ckE k w (.idx tp a e) x = true) : Okx X c cf W w (.idx tp a e) x := by
  cases x <;> first | (cases h; done) | skip
  rename_i f es ks cp
  cases f <;> first | (cases h; done) | skip
  rename_i y m ap
  rcases es with _ | ⟨z, _ | ⟨_, _⟩⟩ <;> first | (cases h; done) | skip
  cases ks <;> first | (cases h; done) | skip
  obtain ⟨h, h6⟩ := and2 (show (decide (m = ("index" : Str)) && ckE k true a y && ckE k false e z && !isStar z && (ap.endLine == cp.line) && callBase y) = true from h)
  obtain ⟨h, h5⟩ := and2 h
  obtain ⟨h, h4⟩ := and2 h
  obtain ⟨h, h3⟩ := and2 h
  obtain ⟨h1, h2⟩ := and2 h
  have h1 := of_decide_eq_true h1
  subst h1
  have hs := star_ns (env := X.env) (r := []) (not1 h4)
  have hb := cb_of (m := "index") (env := X.env) h6
  have hA : PA X [z] (tCons (rd c (pE c) W (evE cf e)) tNil) := pa_cons (PE.v0 (he false z h3).v) pa_nil hs
  cases tp with
  | false =>
    have p := pe_bm (X := X) (cpos := cp) (apos := ap) PySem.F.plainAttrs_list PySem.F.slot_list_index PySem.F.type_list_index mt_index (PE.v1 (ha true y h2).v) hA hb (by rw [hs]; rfl) h5 hs rfl
    exact okT G (fun _ => rfl) (PE.imp p fun σ H Q h => by
      have h := rd_idxL (rd_VE h)
      rw [G.K] at h
      exact h) (fun _ => rfl)
  | true =>
    have p := pe_tm (X := X) (cpos := cp) (apos := ap) PySem.F.slot_tuple_index PySem.F.type_tuple_index mt_tup_index (PE.v1 (ha true y h2).v) hA hb h5 hs
    exact okT G (fun _ => rfl) (PE.imp p fun σ H Q h => by
      have h := rd_idxT (rd_VE h)
      rw [G.K] at h
      exact h) (fun _ => rfl)
end
end Mi
namespace Mi
open PySem PySem.Spec PyProof.Rows
open L2 (Ris store_at layNew_ris layNew_led relayAll_ris relayAll_led code_set_led1 collect_set)
section
variable {κ : Type} [DecidableEq κ] {P : Program} {w : World}
/-- a kind of keys with the key of a value -/
structure KF (knd : KeyKind P w κ) (kf : Value → κ) : Prop where
  of : ∀ k v, knd.is k v = true → kf v = k
abbrev kOf (kf : Value → κ) (e : Int × Value) : κ := kf e.2
/-- a row of the table -/
def RowOk (knd : KeyKind P w κ) (kf : Value → κ) (e : Int × Value) : Prop := knd.is (kf e.2) e.2 = true ∧ e.1 = knd.hash (kf e.2) ∧ e.2.scannable = true
/-- the set at a: its members, their number; its table rises and can be walked -/
def SetG (knd : KeyKind P w κ) (kf : Value → κ) (h : Heap) (a : Addr) (S : κ → Bool) (n : Nat) : Prop :=
  ∃ o es ep t, h.get? a = some o ∧ o.ExactSet ∧ o.data = .set es ep t ∧ (∀ e ∈ es.toList, RowOk knd kf e) ∧ (es.toList.map (kOf kf)).Nodup ∧ (∀ k, S k = true ↔ k ∈ es.toList.map (kOf kf)) ∧
    es.size < scanBound ∧ t.fits es.size = true ∧ es.size = n ∧ Ris t.place.toList ∧ (w.params.followText "set-order" = true ∨ t.led = true)
variable {knd : KeyKind P w κ} {kf : Value → κ} {h h' : Heap} {a : Addr} {S : κ → Bool} {n : Nat} {A : Around} {E : Value → Shared → Prop} {s : Shared}
theorem SetG.at (R : SetG knd kf h a S n) (k : ∀ o, h.get? a = some o → h'.get? a = some o) : SetG knd kf h' a S n := by
  obtain ⟨o, es, ep, t, ho, r⟩ := R
  exact ⟨o, es, ep, t, k o ho, r⟩
theorem SetG.congr {S' : κ → Bool} (R : SetG knd kf h a S n) (e : ∀ k, S' k = S k) : SetG knd kf h a S' n := by
  obtain ⟨o, es, ep, t, h1, h2, h3, h4, h5, h6, r⟩ := R
  exact ⟨o, es, ep, t, h1, h2, h3, h4, h5, fun k => by rw [e k]; exact h6 k, r⟩
theorem rows_elems {l : List (Int × Value)} (g : ∀ e ∈ l, RowOk knd kf e) : ElemsOf knd l := fun e he => ⟨⟨_, (g e he).1, (g e he).2.1⟩, (g e he).2.2⟩
theorem rows_mem (kF : KF knd kf) {l : List (Int × Value)} (g : ∀ e ∈ l, RowOk knd kf e) (k : κ) : k ∈ l.map (kOf kf) ↔ ∃ e ∈ l, knd.is k e.2 = true := by
  constructor
  · intro hk
    obtain ⟨e, he, rfl⟩ := List.mem_map.mp hk
    exact ⟨e, he, (g e he).1⟩
  · rintro ⟨e, he, q⟩
    exact List.mem_map.mpr ⟨e, he, kF.of k _ q⟩
theorem add_tailG {g : Bool → Sem Unit} (hg : ∀ (b : Bool) (s₁ : Shared) (Q' : Unit → Shared → Prop), Q' () s₁ → wpAny (model P w) A (g b) Q' E s₁)
    {o : Obj} {es : Array (Int × Value)} {ep : Nat} {t : SetTable} (ho : s.heap.get? a = some o) (hex : o.ExactSet) (hd : o.data = .set es ep t)
    {e1 : Array (Int × Value)} {t2 : SetTable} {S' : κ → Bool} (g1 : ∀ e ∈ e1.toList, RowOk knd kf e) (nd1 : (e1.toList.map (kOf kf)).Nodup) (m1 : ∀ k, S' k = true ↔ k ∈ e1.toList.map (kOf kf))
    (hb1 : e1.size < scanBound) (hf2 : t2.fits e1.size = true) (hr : Ris t2.place.toList) (hl : w.params.followText "set-order" = true ∨ t2.led = true) {wd : Bool} {R : Option Bool → Shared → Prop}
    (hR : ∀ h', Heap.SameBut a s.heap h' → SetG knd kf h' a S' e1.size → R (some true) { s with heap := h' }) :
    wpAny (model P w) A (do
        storeSet a e1 t2
        if (!wd && t2.tooFull) = true then do
            g (relayAll t2 e1 (SetTable.grown e1.size)).2.2
            storeSet a (relayAll t2 e1 (SetTable.grown e1.size)).1 (relayAll t2 e1 (SetTable.grown e1.size)).2.1
            pure (some true)
          else pure (some true)) R E s := by
  refine wpAny_bind (wpAny_storeSet_of ho hd ?_ (fits_of_scanBound hb1))
  have ho1 := store_at (es' := e1) (t' := t2) ho hd
  have sb1 := Heap.SameBut.update s.heap a (Obj.putSet e1 t2)
  split
  · have pm := relayAll_perm t2 e1 (SetTable.grown e1.size)
    have hf3 := relayAll_fits t2 e1 (SetTable.grown e1.size)
    have hr3 := relayAll_ris t2 e1 (SetTable.grown e1.size)
    have hl3 := relayAll_led t2 e1 (SetTable.grown e1.size)
    generalize relayAll t2 e1 (SetTable.grown e1.size) = Z at pm hf3 hr3 hl3 ⊢
    obtain ⟨e2, t3, gave⟩ := Z
    dsimp only at pm hf3 hr3 hl3 ⊢
    have hsz : e2.size = e1.size := by rw [← Array.length_toList, pm.length_eq, Array.length_toList]
    have hb2 : e2.size < scanBound := by rw [hsz]; exact hb1
    refine wpAny_bind (hg _ _ _ ?_)
    refine wpAny_bind (wpAny_storeSet_of ho1 rfl ?_ (fits_of_scanBound hb2))
    have ho2 := store_at (es' := e2) (t' := t3) ho1 rfl
    refine wpAny_pure (hR _ (sb1.trans (Heap.SameBut.update _ a _)) ?_)
    exact ⟨_, e2, _, t3, ho2, hex, rfl, fun e he => g1 e (pm.mem_iff.mp he), (pm.map (kOf kf)).nodup_iff.mpr nd1, fun k => (m1 k).trans (pm.map (kOf kf)).mem_iff.symm, hb2, hf3, hsz, hr3,
      hl.imp id fun z => by rw [hl3]; exact z⟩
  · exact wpAny_pure (hR _ sb1 ⟨_, e1, _, t2, ho1, hex, rfl, g1, nd1, m1, hb1, hf2, rfl, hr, hl⟩)
/-- one more key -/
theorem add_G (kF : KF knd kf) {k : κ} {v : Value} {Q : Bool → Shared → Prop} (hkey : knd.is k v = true) (hsc : v.scannable = true) (R : SetG knd kf s.heap a S n) (room : n + 1 < scanBound)
    (hQ : ∀ h', Heap.SameBut a s.heap h' → SetG knd kf h' a (fun j => S j || decide (j = k)) (if S k = true then n else n + 1) → Q (!S k) { s with heap := h' }) :
    wpAny (model P w) A (setAddHashed a v (knd.hash k)) Q E s := by
  obtain ⟨o, es, ep, t, ho, hex, hd, g, nd, hm, hb, hf, hn, hr, hl⟩ := R
  have hel : ElemsOf knd es.toList := rows_elems g
  unfold setAddHashed setAddHashedIn
  refine wpAny_holding (wpAny_bind (wpAny_setState_of ho hd hf ?_))
  dsimp only
  rw [byScan_of hsc hb hel]
  simp only [↓reduceIte]
  unfold setAddByScan
  refine wpAny_bind ?_
  refine wpAny_bind (wpAny_rule ?_)
  refine wpAny_bind (wpAny_setScan_of hkey ho hd hf hel ?_)
  cases hfi : List.findIdx? (fun e => knd.is k e.2) es.toList with
  | some j =>
    dsimp only
    obtain ⟨hj, pj, _⟩ := List.findIdx?_eq_some_iff_getElem.mp hfi
    have hSk : S k = true := (hm k).2 ((rows_mem kF g k).2 ⟨es.toList[j], List.getElem_mem hj, pj⟩)
    refine wpAny_pure (wpAny_pure ?_)
    have q := hQ s.heap (Heap.SameBut.refl a s.heap) ⟨o, es, ep, t, ho, hex, hd, g, nd, fun i => by
      rw [Bool.or_eq_true, decide_eq_true_eq, ← hm i]
      exact ⟨fun z => z.elim id (fun e => e ▸ hSk), .inl⟩, hb, hf, by rw [if_pos hSk]; exact hn, hr, hl⟩
    rw [hSk] at q
    exact q
  | none =>
    dsimp only
    have hnk : k ∉ es.toList.map (kOf kf) := fun z => by
      obtain ⟨e, he, q⟩ := (rows_mem kF g k).1 z
      have c := List.findIdx?_eq_none_iff.mp hfi e he
      rw [q] at c
      cases c
    have hSk : S k = false := by
      cases q : S k with
      | false => rfl
      | true => exact absurd ((hm k).1 q) hnk
    have hgw : ∀ (b : Bool) {s₁ : Shared} {Q' : Unit → Shared → Prop}, Q' () s₁ → wpAny (model P w) A (match b with | true => rule "set.scan.the-table-gave-way" | false => pure ()) Q' E s₁ :=
      fun b s₁ Q' q => by cases b <;> first | exact wpAny_pure q | exact wpAny_rule q
    have pm := layNew_perm t es (knd.hash k) v
    have hf1 := layNew_fits t es (knd.hash k) v
    have hr1 := layNew_ris t es (knd.hash k) v hr
    have hl1 := layNew_led t es (knd.hash k) v
    generalize layNew t es (knd.hash k) v = Z at pm hf1 hr1 hl1 ⊢
    obtain ⟨e1, t1, wd, gave⟩ := Z
    dsimp only at pm hf1 hr1 hl1 ⊢
    rw [Array.toList_push] at pm
    have pc : e1.toList.Perm ((knd.hash k, v) :: es.toList) := pm.trans (List.perm_append_singleton _ _)
    have ek : kOf kf (knd.hash k, v) = k := kF.of k v hkey
    have pk : (e1.toList.map (kOf kf)).Perm (k :: es.toList.map (kOf kf)) := by
      have z := pc.map (kOf kf)
      rw [List.map_cons, ek] at z
      exact z
    have g1 : ∀ e ∈ e1.toList, RowOk knd kf e := fun e he => by
      rcases List.mem_cons.mp (pc.mem_iff.mp he) with z | z
      · rw [z]
        have ek' : kf v = k := ek
        exact ⟨by rw [show kf (knd.hash k, v).2 = k from ek']; exact hkey, by rw [show kf (knd.hash k, v).2 = k from ek'], hsc⟩
      · exact g e z
    have nd1 : (e1.toList.map (kOf kf)).Nodup := pk.nodup_iff.mpr (List.nodup_cons.mpr ⟨hnk, nd⟩)
    have m1 : ∀ i, (S i || decide (i = k)) = true ↔ i ∈ e1.toList.map (kOf kf) := fun i => by
      rw [Bool.or_eq_true, decide_eq_true_eq, hm i, pk.mem_iff, List.mem_cons]
      exact Or.comm
    have hsz : e1.size = n + 1 := by rw [← Array.length_toList, pc.length_eq, List.length_cons, Array.length_toList, hn]
    have hb1 : e1.size < scanBound := by rw [hsz]; exact room
    have hled : w.params.followText "set-order" = true ∨ t1.led = true := hl.imp id fun z => by rw [hl1]; exact z
    have fin : ∀ h', Heap.SameBut a s.heap h' → SetG knd kf h' a (fun j => S j || decide (j = k)) e1.size → Q true { s with heap := h' } := fun h' sb r => by
      have q := hQ h' sb
      rw [hSk] at q
      rw [hsz] at r
      exact q r
    refine wpAny_bind (hgw _ ?_)
    split
    · refine wpAny_bind ?_
      rw [hashByValue_scannable 8 hsc]
      refine wpAny_pure ?_
      refine add_tailG ?_ ho hex hd g1 nd1 m1 hb1 ?_ ?_ ?_ ?_
      · intro b s₁ Q' q; cases b <;> first | exact wpAny_pure q | exact wpAny_rule q
      · first | (split <;> first | exact hf1 | exact SetTable.fits_plain_off hf1) | exact hf1
      · first | (split <;> exact hr1) | exact hr1
      · first | (split <;> exact hled) | exact hled
      · intro h' sb r; dsimp only; exact wpAny_pure (fin h' sb r)
    · refine wpAny_bind (wpAny_pure ?_)
      simp only [↓reduceIte]
      refine add_tailG ?_ ho hex hd g1 nd1 m1 hb1 hf1 hr1 hled ?_
      · intro b s₁ Q' q; cases b <;> first | exact wpAny_pure q | exact wpAny_rule q
      · intro h' sb r; dsimp only; exact wpAny_pure (fin h' sb r)
/-- all items of what is walked -/
theorem loop_G (kF : KF knd kf) {I : Addr} {fp wr : List Addr} {G : Array GenState → Array GenState → Prop} {n : Nat} {Pv : Nat → Value → Prop} {St : Nat → Shared → Prop} {R : Result → Shared → Prop}
    (W : WalksS P w A.in1 I fp wr G n Pv St) (D : Addr) (hDf : D ∉ fp) (ks : List κ) (hn : n = ks.length) (hb : ks.length + 1 < scanBound) (hval : ∀ i v, Pv i v → ∃ k, ks[i]? = some k ∧ knd.is k v = true ∧ v.scannable = true) :
    ∀ (m i : Nat) (s : Shared), n - i = m → i ≤ n → St i s → (∃ c, c ≤ i ∧ SetG knd kf s.heap D (fun j => decide (j ∈ ks.take i)) c) →
      (∀ s' c, Moved (D :: wr) G s s' → SetG knd kf s'.heap D (fun j => decide (j ∈ ks)) c → R (.ok (.ret .none)) s') →
      codeAny (model P w) A (.builtin "set.update.loop" ⟨[.ref D, .ref I], []⟩) R s := by
  have hDw : D ∉ wr := fun z => hDf (W.sub _ z)
  have hsub : ∀ b ∈ wr, b ∈ D :: wr := fun b hb => List.mem_cons_of_mem _ hb
  intro m
  induction m with
  | zero =>
    intro i s hk' hi hst ⟨c, hc, hS⟩ hR
    obtain rfl : i = n := by omega
    refine codeAny_builtin F.entry_set_update_loop ?_
    rw [Around.under_plainId F.plain_set_update_loop _]
    show wpAny _ A.in1 (pyNext (.ref I) >>= _) _ _ s
    refine wpAny_bind (W.done s _ _ hst fun s' hm => ?_)
    show wpAny _ A.in1 (ret Value.none) _ _ s'
    have e : ks.take i = ks := List.take_of_length_le (by omega)
    rw [e] at hS
    exact wpAny_pure (hR s' c (hm.mono hsub) (hS.at fun o e => hm.heap D o hDw e))
  | succ m ih =>
    intro i s hk' hi hst ⟨c, hc, hS⟩ hR
    have hlt : i < n := by omega
    refine codeAny_builtin F.entry_set_update_loop ?_
    rw [Around.under_plainId F.plain_set_update_loop _]
    show wpAny _ A.in1 (pyNext (.ref I) >>= _) _ _ s
    refine wpAny_bind (W.item i s _ _ hlt hst fun v s' hP hst' hm => ?_)
    obtain ⟨z, hz, hkey, hsc⟩ := hval i v hP
    have hS' : SetG knd kf s'.heap D (fun j => decide (j ∈ ks.take i)) c := hS.at fun o e => hm.heap D o hDw e
    show wpAny _ A.in1 (holding [v] (setAdd D v) >>= _) _ _ s'
    refine wpAny_bind (wpAny_holding ?_)
    unfold setAdd
    refine wpAny_holding ?_
    refine wpAny_bind (knd.pyHash (k := z) hkey ?_)
    refine add_G kF (s := { s' with toks := s'.toks + 1 }) hkey hsc hS' (by omega) fun h' hsb hS2 => ?_
    have hS3 : SetG knd kf h' D (fun j => decide (j ∈ ks.take (i + 1))) (if decide (z ∈ ks.take i) = true then c else c + 1) := hS2.congr fun j => by
      rw [List.take_add_one, hz]
      simp [List.mem_append]
    have hc3 : (if decide (z ∈ ks.take i) = true then c else c + 1) ≤ i + 1 := by
      split <;> omega
    refine wpAny_pure ⟨plainId_quiet F.plain_set_update_loop _, ih (i + 1) _ (by omega) hlt (W.frame _ s' _ _ hst' (Nat.le_succ _) fun b hb o e => ?_) ⟨_, hc3, hS3⟩ fun s'' c2 hm'' hS'' => ?_⟩
    · rw [hsb.2 b (fun z : b = D => hDf (by rw [← z]; exact hb))]; exact e
    · refine hR s'' c2 (Moved.trans W.gtrans ((hm.mono hsub).then_heap (Nat.le_succ _) fun b o hb e => ?_) hm'') hS''
      rw [hsb.2 b (fun z : b = D => hb (by rw [z]; exact List.mem_cons_self))]; exact e
end
end Mi
namespace Mi
open PySem PySem.Spec PyProof.Rows
open L2 (Ris store_at layNew_ris layNew_led relayAll_ris relayAll_led code_set_led1 collect_set)
section
variable {κ : Type} [DecidableEq κ] {P : Program} {w : World}
variable {knd : KeyKind P w κ} {kf : Value → κ} {h h' : Heap} {a : Addr} {S : κ → Bool} {n : Nat} {A : Around} {E : Value → Shared → Prop} {s : Shared}
/-- an empty set, new -/
abbrev setNil (w : World) : Obj := { cls := .type "set", dict := none, data := .set #[] 0 (.fresh 0 0 (!w.params.followText "set-order")) }
theorem new_G {ks : List κ} (ho : h.get? a = some (setNil w)) : SetG knd kf h a (fun j => decide (j ∈ ks.take 0)) 0 :=
  ⟨_, #[], 0, _, ho, ⟨rfl, rfl, rfl⟩, rfl, (fun e he => by simp at he), (by simp), (fun k => by simp), (by decide), (by rfl), rfl, List.Pairwise.nil, by
    show _ ∨ (!w.params.followText "set-order") = true
    cases w.params.followText "set-order"
    · exact .inr rfl
    · exact .inl rfl⟩
theorem setG_list (kF : KF knd kf) {l : Addr} {items : Array Value} (ks : List κ) {Q : Value → Shared → Prop} (hh : A.handled = none) (hl : s.heap.IsList l items) (hsz : items.size = ks.length) (hval : ∀ (i : Nat) (v : Value), items[i]? = some v → ∃ k, ks[i]? = some k ∧ knd.is k v = true ∧ v.scannable = true) (hb : ks.length + 1 < scanBound)
    (h : ∀ (h' : Heap) (tk c : Nat), SetG knd kf h' s.heap.objs.size (fun j => decide (j ∈ ks)) c → (∀ b o, s.heap.get? b = some o → h'.get? b = some o) → Q (.ref s.heap.objs.size) { s with heap := h', toks := tk }) :
    wpAny (model P w) A (call (.type "set") [.ref l]) Q E s := by
  obtain ⟨c, tl, hmro⟩ := F.called_set.mro
  have hmade := F.called_set.made
  have hsub := F.called_set.sub
  refine wpAny_call (codeAny_of_tree ?_)
  show wpAny _ _ (callAny (.type "set") _) _ _ _
  refine wpAny_pure ⟨Code.quiet_builtin _ (by decide +kernel), codeAny_builtin F.entry_type_call ?_⟩
  rw [Around.under_plain (weight_type_call_type "set" [.ref l] []) rfl]
  have h1 := F.called_set.notType
  have h2 := F.called_set.canCreate
  have hct := F.typeCall_set_1 (.ref l)
  repeat (any_goals (first | assumption | wp_step))
  refine codeAny_mono (code_set_led1 (.ref l) (E := E) (Q₁ := fun obj s₁ => obj = .ref s.heap.objs.size ∧ s₁ = { s with heap := s.heap.push (setNil w) }) ⟨rfl, rfl⟩) fun r s₁ hr => ?_
  cases r with
  | error e => exact hr
  | ok fl =>
    cases fl with
    | ret obj =>
      obtain ⟨rfl, rfl⟩ := hr
      have hS : (s.heap.push (setNil w)).get? s.heap.objs.size = some (setNil w) := Heap.get?_push_size _ rfl
      have hT : Shared.TypeIs { s with heap := s.heap.push (setNil w) } (.ref s.heap.objs.size) "set" := ⟨_, hS, rfl⟩
      have hli := F.called_set.init.lookup
      have hbi := F.called_set.init.bind (.ref s.heap.objs.size)
      repeat (any_goals (first | assumption | wp_step))
      refine codeAny_mono (codeAny_call_builtin (R := wants (fun r s₂ => r = .none ∧ ∃ h' tk c, s₂ = { s with heap := h', toks := tk } ∧ SetG knd kf h' s.heap.objs.size (fun j => decide (j ∈ ks)) c ∧
          (∀ b o, s.heap.get? b = some o → h'.get? b = some o)) E) F.called_set.init.plain F.entry_set_init (check_set_init_1 hT ?_)) fun r₂ s₂ hr₂ => ?_
      · obtain ⟨ol, hol, hcl, nl, hdl⟩ := hl
        obtain ⟨ocls, odict, odata, oslots⟩ := ol
        simp only at hcl hdl
        subst hcl; subst hdl
        have hol' : (s.heap.push (setNil w)).get? l = some { cls := .type "list", dict := odict, data := .seq items nl, slots := oslots } := Heap.get?_push_of_some _ hol
        have hsls := F.sub_list_set
        have hslf := F.sub_list_frozenset
        have hne : (Value.type "list" == Value.type "dict") = false := by decide
        have hl1 : (s.heap.push (setNil w)).IsList l items := ⟨_, hol', rfl, nl, rfl⟩
        unfold Builtin.«set.__init__» noKeywords Builtin.Frozenset.updateFrom
        generalize hPI : pyIter = PI
        wp_walk
        subst hPI
        refine wpAny_pyIter_list hl1 ?_
        refine wpAny_bind (wpAny_runValue ?_)
        have hlS : l < s.heap.objs.size := Heap.lt_size hol
        have hh3 : A.in1.in1.in1.handled = none := by simp [hh]
        have hneI : l ≠ (s.heap.push (setNil w)).objs.size := by
          rw [Heap.size_push]; exact Nat.ne_of_lt (Nat.lt_succ_of_lt hlS)
        have hSf : s.heap.objs.size ∉ [(s.heap.push (setNil w)).objs.size, l] := by
          rw [Heap.size_push]; simp only [List.mem_cons, List.mem_singleton, List.not_mem_nil, or_false, not_or]
          exact ⟨Nat.ne_of_lt (Nat.lt_succ_self _), Nat.ne_of_gt hlS⟩
        refine loop_G kF ((Walks.list hh3 _ l hneI items).toS) s.heap.objs.size
          hSf ks hsz hb hval (items.size - 0) 0 _ (by omega) (Nat.zero_le _)
          ⟨⟨_, Heap.get?_push_size _ rfl, rfl, rfl⟩, (hl1.push _)⟩ ?hS0 ?hR
        case hS0 =>
          have hget : ((s.heap.push (setNil w)).push { cls := .type "list_iterator", data := .fields #[.ref l, .int 0 0] }).get? s.heap.objs.size = some (setNil w) := Heap.get?_push_of_some _ hS
          exact ⟨0, Nat.le_refl 0, new_G hget⟩
        case hR =>
          intro s' c' hm hS'
          obtain ⟨h', g2, d', tk', os'⟩ := s'
          have eg : g2 = s.gens := hm.gens
          have ed : d' = s.drawn := hm.drawn
          have eo : os' = s.os := hm.os
          subst eg; subst ed; subst eo
          show wpAny _ _ _ _ _ _
          refine wpAny_pure ?_
          show wpAny _ _ (ret Value.none) _ _ _
          refine wpAny_pure ⟨rfl, h', tk', c', rfl, hS', fun b o e => ?_⟩
          have hb0 : b < s.heap.objs.size := Heap.lt_size e
          have hb2 : b ≠ (s.heap.push (setNil w)).objs.size := by
            rw [Heap.size_push]; exact Nat.ne_of_lt (Nat.lt_succ_of_lt hb0)
          exact hm.heap b o (by simp only [List.mem_cons, List.mem_singleton, List.not_mem_nil, or_false, not_or]; exact ⟨Nat.ne_of_lt hb0, hb2⟩) (Heap.get?_push_of_some _ (Heap.get?_push_of_some _ e))
      · cases r₂ with
        | error e => exact hr₂
        | ok fl₂ =>
          cases fl₂ with
          | ret r =>
            obtain ⟨rfl, h', tk, c', rfl, hS', hk'⟩ := hr₂
            repeat (any_goals (first | assumption | wp_step))
            exact h _ _ _ hS' hk'
          | _ => exact hr₂.elim
    | _ => exact hr.elim
theorem setG_tuple (kF : KF knd kf) {l : Addr} {items : Array Value} (ks : List κ) {Q : Value → Shared → Prop} (hh : A.handled = none) (hl : s.heap.IsTuple l items) (hsz : items.size = ks.length) (hval : ∀ (i : Nat) (v : Value), items[i]? = some v → ∃ k, ks[i]? = some k ∧ knd.is k v = true ∧ v.scannable = true) (hb : ks.length + 1 < scanBound)
    (h : ∀ (h' : Heap) (tk c : Nat), SetG knd kf h' s.heap.objs.size (fun j => decide (j ∈ ks)) c → (∀ b o, s.heap.get? b = some o → h'.get? b = some o) → Q (.ref s.heap.objs.size) { s with heap := h', toks := tk }) :
    wpAny (model P w) A (call (.type "set") [.ref l]) Q E s := by
  obtain ⟨c, tl, hmro⟩ := F.called_set.mro
  have hmade := F.called_set.made
  have hsub := F.called_set.sub
  refine wpAny_call (codeAny_of_tree ?_)
  show wpAny _ _ (callAny (.type "set") _) _ _ _
  refine wpAny_pure ⟨Code.quiet_builtin _ (by decide +kernel), codeAny_builtin F.entry_type_call ?_⟩
  rw [Around.under_plain (weight_type_call_type "set" [.ref l] []) rfl]
  have h1 := F.called_set.notType
  have h2 := F.called_set.canCreate
  have hct := F.typeCall_set_1 (.ref l)
  repeat (any_goals (first | assumption | wp_step))
  refine codeAny_mono (code_set_led1 (.ref l) (E := E) (Q₁ := fun obj s₁ => obj = .ref s.heap.objs.size ∧ s₁ = { s with heap := s.heap.push (setNil w) }) ⟨rfl, rfl⟩) fun r s₁ hr => ?_
  cases r with
  | error e => exact hr
  | ok fl =>
    cases fl with
    | ret obj =>
      obtain ⟨rfl, rfl⟩ := hr
      have hS : (s.heap.push (setNil w)).get? s.heap.objs.size = some (setNil w) := Heap.get?_push_size _ rfl
      have hT : Shared.TypeIs { s with heap := s.heap.push (setNil w) } (.ref s.heap.objs.size) "set" := ⟨_, hS, rfl⟩
      have hli := F.called_set.init.lookup
      have hbi := F.called_set.init.bind (.ref s.heap.objs.size)
      repeat (any_goals (first | assumption | wp_step))
      refine codeAny_mono (codeAny_call_builtin (R := wants (fun r s₂ => r = .none ∧ ∃ h' tk c, s₂ = { s with heap := h', toks := tk } ∧ SetG knd kf h' s.heap.objs.size (fun j => decide (j ∈ ks)) c ∧
          (∀ b o, s.heap.get? b = some o → h'.get? b = some o)) E) F.called_set.init.plain F.entry_set_init (check_set_init_1 hT ?_)) fun r₂ s₂ hr₂ => ?_
      · obtain ⟨ol, hol, hcl, nl, hdl⟩ := hl
        obtain ⟨ocls, odict, odata, oslots⟩ := ol
        simp only at hcl hdl
        subst hcl; subst hdl
        have hol' : (s.heap.push (setNil w)).get? l = some { cls := .type "tuple", dict := odict, data := .seq items nl, slots := oslots } := Heap.get?_push_of_some _ hol
        have hsls := F.sub_tuple_set
        have hslf := F.sub_tuple_frozenset
        have hne : (Value.type "tuple" == Value.type "dict") = false := by decide
        have hl1 : (s.heap.push (setNil w)).IsTuple l items := ⟨_, hol', rfl, nl, rfl⟩
        unfold Builtin.«set.__init__» noKeywords Builtin.Frozenset.updateFrom
        generalize hPI : pyIter = PI
        wp_walk
        subst hPI
        refine wpAny_pyIter_tuple hl1 ?_
        refine wpAny_bind (wpAny_runValue ?_)
        have hlS : l < s.heap.objs.size := Heap.lt_size hol
        have hh3 : A.in1.in1.in1.handled = none := by simp [hh]
        have hneI : l ≠ (s.heap.push (setNil w)).objs.size := by
          rw [Heap.size_push]; exact Nat.ne_of_lt (Nat.lt_succ_of_lt hlS)
        have hSf : s.heap.objs.size ∉ [(s.heap.push (setNil w)).objs.size, l] := by
          rw [Heap.size_push]; simp only [List.mem_cons, List.mem_singleton, List.not_mem_nil, or_false, not_or]
          exact ⟨Nat.ne_of_lt (Nat.lt_succ_self _), Nat.ne_of_gt hlS⟩
        refine loop_G kF ((Walks.tuple hh3 _ l hneI items).toS) s.heap.objs.size
          hSf ks hsz hb hval (items.size - 0) 0 _ (by omega) (Nat.zero_le _)
          ⟨⟨_, Heap.get?_push_size _ rfl, rfl, rfl⟩, (hl1.push _)⟩ ?hS0 ?hR
        case hS0 =>
          have hget : ((s.heap.push (setNil w)).push { cls := .type "tuple_iterator", data := .fields #[.ref l, .int 0 0] }).get? s.heap.objs.size = some (setNil w) := Heap.get?_push_of_some _ hS
          exact ⟨0, Nat.le_refl 0, new_G hget⟩
        case hR =>
          intro s' c' hm hS'
          obtain ⟨h', g2, d', tk', os'⟩ := s'
          have eg : g2 = s.gens := hm.gens
          have ed : d' = s.drawn := hm.drawn
          have eo : os' = s.os := hm.os
          subst eg; subst ed; subst eo
          show wpAny _ _ _ _ _ _
          refine wpAny_pure ?_
          show wpAny _ _ (ret Value.none) _ _ _
          refine wpAny_pure ⟨rfl, h', tk', c', rfl, hS', fun b o e => ?_⟩
          have hb0 : b < s.heap.objs.size := Heap.lt_size e
          have hb2 : b ≠ (s.heap.push (setNil w)).objs.size := by
            rw [Heap.size_push]; exact Nat.ne_of_lt (Nat.lt_succ_of_lt hb0)
          exact hm.heap b o (by simp only [List.mem_cons, List.mem_singleton, List.not_mem_nil, or_false, not_or]; exact ⟨Nat.ne_of_lt hb0, hb2⟩) (Heap.get?_push_of_some _ (Heap.get?_push_of_some _ e))
      · cases r₂ with
        | error e => exact hr₂
        | ok fl₂ =>
          cases fl₂ with
          | ret r =>
            obtain ⟨rfl, h', tk, c', rfl, hS', hk'⟩ := hr₂
            repeat (any_goals (first | assumption | wp_step))
            exact h _ _ _ hS' hk'
          | _ => exact hr₂.elim
    | _ => exact hr.elim
end
end Mi
namespace Mi
open PySem PySem.Spec PyProof.Rows
open PySem.W (EachIs AllAlike Sortable dataLe alike)
open L2 (Ris collect_set)
section
variable {α : Type} [DecidableEq α]
theorem mem_dedup {x : α} : ∀ {xs : List α}, x ∈ dedup xs ↔ x ∈ xs
  | [] => Iff.rfl
  | y :: r => by
    simp only [dedup, List.mem_cons, List.mem_filter, mem_dedup (xs := r)]
    constructor
    · rintro (h | ⟨h, _⟩)
      · exact .inl h
      · exact .inr h
    · intro h
      by_cases e : x = y
      · exact .inl e
      · rcases h with h | h
        · exact .inl h
        · exact .inr ⟨h, by simp [e]⟩
theorem nodup_dedup : ∀ (xs : List α), (dedup xs).Nodup
  | [] => List.Pairwise.nil
  | y :: r => by
    refine List.nodup_cons.mpr ⟨fun h => ?_, (nodup_dedup r).filter _⟩
    have := (List.mem_filter.mp h).2
    simp at this
end
section
variable {κ : Type} [DecidableEq κ] {P : Program} {w : World}
/-- keys of one kind as values, as data -/
structure KN (knd : KeyKind P w κ) (kf : Value → κ) (mk : κ → L2.V) (enc : κ → PyData) : Prop where
  kF : KF knd kf
  val : ∀ k u, L2.RelV (mk k) u → knd.is k u = true ∧ u.scannable = true
  rel : ∀ k u, knd.is k u = true → L2.RelV (mk k) u
  rd : ∀ (h : Heap) k u, knd.is k u = true → Reads h u (enc k) []
  al : ∀ a b, alike (enc a) (enc b) = true
  no : ∀ a, enc a ≠ .none ∧ ∀ xs, enc a ≠ .tuple xs
  dep : ∀ a, (enc a).depth = 0
  asy : ∀ a b, dataLe false enc a b = true → dataLe false enc b a = true → a = b
  tr : ∀ a b c, dataLe false enc a b = true → dataLe false enc b c = true → dataLe false enc a c = true
  tot : ∀ a b, (dataLe false enc a b || dataLe false enc b a) = true
variable {knd : KeyKind P w κ} {kf : Value → κ} {mk : κ → L2.V} {enc : κ → PyData} {h h' : Heap} {a : Addr} {S : κ → Bool} {n : Nat} {A : Around} {E : Value → Shared → Prop} {s : Shared}
theorem KN.sort (K : KN knd kf mk enc) {xs ys : List κ} (h : xs.Perm ys) : xs.mergeSort (dataLe false enc) = ys.mergeSort (dataLe false enc) :=
  List.Perm.eq_of_pairwise (fun a b _ _ => K.asy a b) (List.pairwise_mergeSort K.tr K.tot xs) (List.pairwise_mergeSort K.tr K.tot ys)
    ((List.mergeSort_perm _ _).trans (h.trans (List.mergeSort_perm _ _).symm))
theorem each_keys {R : Value → κ → Prop} : ∀ {vs : List Value}, (∀ v ∈ vs, R v (kf v)) → EachIs R vs (vs.map kf)
  | [], _ => .nil
  | v :: vs, h => .cons (h v (List.mem_cons_self ..)) (each_keys fun u hu => h u (List.mem_cons_of_mem _ hu))
/-- what is in the set, once each -/
theorem SetG.perm {ks : List κ} {c : Nat} (R : SetG knd kf h a (fun j => decide (j ∈ ks)) c) : c = (dedup ks).length := by
  obtain ⟨o, es, ep, t, ho, hex, hd, g, nd, hm, hb, hf, hn, hr, hl⟩ := R
  have p : (es.toList.map (kOf kf)).Perm (dedup ks) := (List.perm_ext_iff_of_nodup nd (nodup_dedup ks)).mpr fun x => by
    rw [← hm x, decide_eq_true_eq, mem_dedup]
  rw [← p.length_eq, List.length_map, Array.length_toList, hn]
theorem sorted_G (K : KN knd kf mk enc) {ks : List κ} {c : Nat} (R : SetG knd kf s.heap a (fun j => decide (j ∈ ks)) c) (hh : A.handled = none) (hu : A.units + 64 < cLine) {Q : Value → Shared → Prop}
    (hQ : ∀ s' p (out : List Value) (m : Nat), (∀ b o, s.heap.get? b = some o → s'.heap.get? b = some o) → s'.gens = s.gens → s'.os = s.os → s.heap.objs.size ≤ p →
      s'.heap.get? p = some (seqObj "list" out.toArray m) → EachIs (fun v k => knd.is k v = true) out ((dedup ks).mergeSort (dataLe false enc)) → Q (.ref p) s') :
    wpAny (model P w) A (call (.builtin "sorted") [.ref a]) Q E s := by
  obtain ⟨o, es, ep, t, ho, hex, hd, g, nd, hm, hb, hf, hn, hr, hl⟩ := R
  refine Calls.call_function_entry kind_sorted plain_sorted entry_sorted (args_sorted1 _) ?_
  unfold Builtin.«sorted»
  refine wpAny_bind (m := checkCount "sorted" 1 1 _) (wpAny_pure ?_)
  refine wpAny_bind (collect_set (A := A.in1) hh ⟨o, ho, hex.1, hd⟩ hf hb hr hl fun s1 vs k1 hz g1 o1 pm => ?_)
  have hvl : vs.length = es.size := by rw [pm.length_eq, List.length_map, Array.length_toList]
  have hI : ∀ v ∈ vs, knd.is (kf v) v = true := fun v hv => by
    obtain ⟨e, he, q⟩ := List.mem_map.mp (pm.mem_iff.mp hv)
    have := (g e he).1
    rw [← q]; exact this
  have pk : (vs.map kf).Perm (dedup ks) := by
    have q := pm.map kf
    rw [List.map_map] at q
    refine q.trans ((List.perm_ext_iff_of_nodup nd (nodup_dedup ks)).mpr fun x => ?_)
    rw [← hm x, decide_eq_true_eq, mem_dedup]
  have hL : vs.length ≤ sizeLine := by rw [hvl, sizeLine_eq]; unfold scanBound at hb; omega
  refine wpAny_bind (wpAny_newList ?_ hL)
  have hoL : (s1.heap.push (seqObj "list" vs.toArray 0)).get? s1.heap.objs.size = some (seqObj "list" vs.toArray 0) := Heap.get?_push_size _ rfl
  refine wpAny_bind (wpAny_holding (PySem.W.list_sort_data (R := fun v k => knd.is k v = true) (enc := enc) (vs := vs) (bs := vs.map kf) hoL (each_keys hI) (each_keys fun v hv => ⟨[], K.rd _ _ _ (hI v hv), fun z => nomatch z⟩)
    (AllAlike.of K.al) (Sortable.others K.no) (by rw [List.length_map]; exact hL) (fun b _ => by rw [K.dep]; show A.units + 1 + 1 + 0 < cLine; omega) fun out _ hE => ?_))
  obtain ⟨m, hc⟩ := sortedHeap_at (vs := vs) (out := out.toArray) hoL
  rw [K.sort pk] at hE
  refine wpAny_pure ⟨_, rfl, hQ _ s1.heap.objs.size out m (fun b u e => ?_) g1 o1 hz hc hE⟩
  have q := k1 b u e
  have hlt := Heap.lt_size q
  show (sortedHeap (s1.heap.push (seqObj "list" vs.toArray 0)) s1.heap.objs.size vs out.toArray).get? b = some u
  rw [sortedHeap_old (Nat.ne_of_lt hlt) (by rw [size_push']; exact Nat.lt_succ_of_lt hlt)]
  exact Heap.get?_push_of_some _ q
end
def kfS : Value → Str
  | .str x _ => x
  | _ => Str.empty
def kfI : Value → Int
  | .int i _ => i
  | _ => 0
section
variable {P : Program} {w : World}
theorem isInt_shape {k : Int} {v : Value} (h : (intKind P w).is k v = true) : ∃ t, v = .int k t := by
  obtain ⟨t, e⟩ := Value.isInt_shape h
  exact ⟨t, e⟩
theorem leStr_eq : dataLe false PyData.str = leStr := PySem.W.dataLe_str (fun x : Str => x)
theorem leInt_eq : dataLe false PyData.int = leInt := PySem.W.dataLe_int (fun x : Int => x)
theorem str_ext {a b : Str} (h : a.cps.toList = b.cps.toList) : a = b := by
  cases a; cases b
  simp only [Str.mk.injEq]
  exact Array.toList_inj.mp h
theorem kn_str : KN (strKind P w) kfS L2.V.str PyData.str where
  kF := ⟨fun k v h => by obtain ⟨t, rfl⟩ := Value.isStrOf_shape h; rfl⟩
  val := fun k u h => by
    obtain ⟨t, rfl⟩ := h
    exact ⟨by show Value.isStrOf k (.str k t) = true; simp [Value.isStrOf], rfl⟩
  rel := fun k u h => Value.isStrOf_shape h
  rd := fun h k u q => by obtain ⟨t, rfl⟩ := Value.isStrOf_shape q; exact .str _ _
  al := fun a b => by simp [alike]
  no := fun a => ⟨(fun z => nomatch z), (fun _ z => nomatch z)⟩
  dep := fun a => by simp [PyData.depth]
  asy := fun a b h1 h2 => by
    rw [leStr_eq] at h1 h2
    exact str_ext (List.le_antisymm (of_decide_eq_true h1) (of_decide_eq_true h2))
  tr := fun a b c h1 h2 => by
    rw [leStr_eq] at h1 h2 ⊢
    exact decide_eq_true (List.le_trans (of_decide_eq_true h1) (of_decide_eq_true h2))
  tot := fun a b => by
    rw [leStr_eq]
    rcases List.le_total a.cps.toList b.cps.toList with h | h
    · rw [show leStr a b = true from decide_eq_true h]; rfl
    · rw [show leStr b a = true from decide_eq_true h, Bool.or_true]
theorem kn_int : KN (intKind P w) kfI L2.V.int PyData.int where
  kF := ⟨fun k v h => by obtain ⟨t, rfl⟩ := isInt_shape h; rfl⟩
  val := fun k u h => by
    obtain ⟨t, rfl⟩ := h
    exact ⟨intKind_is _ _ _ _, rfl⟩
  rel := fun k u h => isInt_shape h
  rd := fun h k u q => by obtain ⟨t, rfl⟩ := isInt_shape q; exact .int _ _
  al := fun a b => by simp [alike]
  no := fun a => ⟨(fun z => nomatch z), (fun _ z => nomatch z)⟩
  dep := fun a => by simp [PyData.depth]
  asy := fun a b h1 h2 => by
    rw [leInt_eq] at h1 h2
    exact Int.le_antisymm (of_decide_eq_true h1) (of_decide_eq_true h2)
  tr := fun a b c h1 h2 => by
    rw [leInt_eq] at h1 h2 ⊢
    exact decide_eq_true (Int.le_trans (of_decide_eq_true h1) (of_decide_eq_true h2))
  tot := fun a b => by
    rw [leInt_eq]
    rcases Int.le_total a b with h | h
    · rw [show leInt a b = true from decide_eq_true h]; rfl
    · rw [show leInt b a = true from decide_eq_true h, Bool.or_true]
end
end Mi
namespace Mi
open PySem L2
open PySem.W (EachIs dataLe)
section
variable {X : Cx} {c : Cc}
theorem vals_keys {κ : Type} [DecidableEq κ] {P : Program} {w : World} {knd : KeyKind P w κ} {kf : Value → κ} {mk : κ → V} {enc : κ → PyData} (K : KN knd kf mk enc) : ∀ {ks : List κ} {its : List Value}, Vals (ks.map mk) its → ∀ (i : Nat) (v : Value), its.toArray[i]? = some v → ∃ k, ks[i]? = some k ∧ knd.is k v = true ∧ v.scannable = true := by
  intro ks its r i v h
  rw [List.getElem?_toArray] at h
  cases e : ks[i]? with
  | none =>
    have l := r.length
    rw [List.length_map] at l
    have h1 := List.getElem?_eq_none_iff.mp e
    have h2 := (List.getElem?_eq_some_iff.mp h).1
    omega
  | some k =>
    obtain ⟨u, h1, h2⟩ := Vals.get (i := i) (x := mk k) r (by rw [List.getElem?_map, e]; rfl)
    rw [h] at h1
    cases h1
    exact ⟨k, rfl, K.val k v h2⟩
theorem keys_vals {κ : Type} [DecidableEq κ] {P : Program} {w : World} {knd : KeyKind P w κ} {kf : Value → κ} {mk : κ → V} {enc : κ → PyData} (K : KN knd kf mk enc) : ∀ {out : List Value} {ks : List κ}, EachIs (fun v k => knd.is k v = true) out ks → Vals (ks.map mk) out
  | _, _, .nil => .nil
  | _, _, .cons h t => .cons (K.rel _ _ h) (keys_vals K t)
/-- the set made of what a list or tuple holds -/
theorem set_run {κ : Type} [DecidableEq κ] {knd : KeyKind X.prog X.w κ} {kf : Value → κ} {mk : κ → V} {enc : κ → PyData} (K : KN knd kf mk enc) {pins : List (Addr × Obj)} {s : Shared} {σ : St} {H : Hp} {a : Addr} {ks : List κ} {Q : Value → Shared → Prop} {E : Value → Shared → Prop} (I : Inv X pins σ H s) (hc : X.calm = true)
    (hq : SqL X.K H a (ks.map mk) ∨ SqT X.K H a (ks.map mk)) (hb : ks.length < 4000)
    (h : ∀ (h' : Heap) (tk m : Nat), SetG knd kf h' s.heap.objs.size (fun j => decide (j ∈ ks)) m → Inv X pins σ H { s with heap := h', toks := tk } → Q (.ref s.heap.objs.size) { s with heap := h', toks := tk }) :
    wpAny (model X.prog X.w) X.A (call (.type "set") [.ref a]) Q E s := by
  have hb : ks.length + 1 < scanBound := by unfold scanBound; omega
  rcases hq with hq | hq
  · obtain ⟨its, r, pl, hz⟩ := I.list hq
    have hl : its.toArray.size = ks.length := by rw [List.size_toArray, ← r.length, List.length_map]
    exact setG_list K.kF ks (I.ok.hd hc) pl.isList hl (vals_keys K r) hb fun h' tk m R k => h h' tk m R (I.kept k)
  · obtain ⟨its, r, pl, hz⟩ := I.tuple hq
    have hl : its.toArray.size = ks.length := by rw [List.size_toArray, ← r.length, List.length_map]
    exact setG_tuple K.kF ks (I.ok.hd hc) pl hl (vals_keys K r) hb fun h' tk m R k => h h' tk m R (I.kept k)
theorem len_run {κ : Type} [DecidableEq κ] {knd : KeyKind X.prog X.w κ} {kf : Value → κ} {pins : List (Addr × Obj)} {s : Shared} {σ : St} {H : Hp} {a : Addr} {ks : List κ} {m : Nat} {Q : VK} {E : Value → Shared → Prop} (I : Inv X pins σ H s) (R : SetG knd kf s.heap a (fun j => decide (j ∈ ks)) m)
    (h : Q (.int ((dedup ks).length : Int)) H) : wpAny (model X.prog X.w) X.A (call (.builtin "len") [.ref a]) (EP X pins σ Q) E s := by
  have e := R.perm
  obtain ⟨o, es, ep, t, ho, hex, hd, g, nd, hm, hb, hf, hn, hr, hl⟩ := R
  refine call_len_set ho hex hd hf (by unfold scanBound at hb; omega) ⟨.int ((dedup ks).length : Int), H, I.tok _, ⟨_, by rw [hn, e]⟩, h⟩
theorem sort_run {κ : Type} [DecidableEq κ] {knd : KeyKind X.prog X.w κ} {kf : Value → κ} {mk : κ → V} {enc : κ → PyData} (K : KN knd kf mk enc) {pins : List (Addr × Obj)} {s : Shared} {σ : St} {H : Hp} {a : Addr} {ks : List κ} {m : Nat} {Q : VK} {E : Value → Shared → Prop} (I : Inv X pins σ H s) (hc : X.calm = true) (hu : X.A.units + 64 < cLine) (R : SetG knd kf s.heap a (fun j => decide (j ∈ ks)) m)
    (h : ∀ p, H p = none → Q (.ref p) (upd H p (.lst (((dedup ks).mergeSort (dataLe false enc)).map mk)))) : wpAny (model X.prog X.w) X.A (call (.builtin "sorted") [.ref a]) (EP X pins σ Q) E s := by
  have hm := R.perm
  have hlen : ((dedup ks).mergeSort (dataLe false enc)).length ≤ sizeLine := by
    rw [List.length_mergeSort, ← hm, sizeLine_eq]
    obtain ⟨o, es, ep, t, ho, hex, hd, g, nd, hm, hb, hf, hn, hr, hl⟩ := R
    unfold scanBound at hb
    omega
  refine sorted_G K R (I.ok.hd hc) hu fun s' p out m k g o hp hg hE => ?_
  have hn : H p = none := I.hok.fresh hp
  have J : Inv X pins σ (upd H p (.lst (((dedup ks).mergeSort (dataLe false enc)).map mk))) { s with heap := s'.heap, gens := s'.gens, drawn := s'.drawn, toks := s'.toks } :=
    I.call (ch := []) (Un.laid k hp hn) (I.hok.laid k hp ⟨by rw [List.length_map]; exact hlen, out, m, keys_vals K hE, hg⟩) (by rw [g]; exact I.bare) (fun _ z => nomatch z)
  have e : s' = { s with heap := s'.heap, gens := s'.gens, drawn := s'.drawn, toks := s'.toks } := by
    cases s'
    cases s
    cases o
    rfl
  rw [e]
  exact ⟨.ref p, _, J, rfl, h p hn⟩
theorem strs_len : ∀ {ds : List D} {xs : List Str}, strsD ds = some xs → xs.length = ds.length
  | [], _, e => by cases e; rfl
  | d :: ds, _, e => by
    cases d <;> simp only [strsD] at e <;> first | (cases e; done) | skip
    obtain ⟨bs, e1, rfl⟩ := Option.map_eq_some_iff.mp e
    simp [strs_len e1]
theorem ints_len : ∀ {ds : List D} {xs : List Int}, intsD ds = some xs → xs.length = ds.length
  | [], _, e => by cases e; rfl
  | d :: ds, _, e => by
    cases d <;> simp only [intsD] at e <;> first | (cases e; done) | skip
    obtain ⟨bs, e1, rfl⟩ := Option.map_eq_some_iff.mp e
    simp [ints_len e1]
/-- what is in the list or tuple -/
theorem seq_of {H : Hp} {N0 N : Addr → Prop} {d : D} {v : V} {ds : List D} (K : PySem.W.Frag) (w : RepW c H N0 N d v) (hd : d = .lst ds ∨ d = .tup ds) : ∃ a vs, v = .ref a ∧ RepL c H N ds vs ∧ (SqL K H a vs ∨ SqT K H a vs) := by
  rcases hd with rfl | rfl
  · obtain ⟨a, vs, rfl, n, h1, q⟩ := w
    exact ⟨a, vs, rfl, q, .inl (.of h1)⟩
  · obtain ⟨a, vs, rfl, n, h1, q⟩ := w
    exact ⟨a, vs, rfl, q, .inr h1.sq⟩
theorem repL_strs {H : Hp} {N : Addr → Prop} : ∀ {xs : List Str}, (∀ x ∈ xs, strFits x = true) → RepL c H N (xs.map D.str) (xs.map V.str)
  | [], _ => rfl
  | x :: xs, h => ⟨_, _, rfl, ⟨rfl, h x (List.mem_cons_self ..)⟩, repL_strs fun y hy => h y (List.mem_cons_of_mem _ hy)⟩
theorem repL_ints {H : Hp} {N : Addr → Prop} : ∀ {xs : List Int}, RepL c H N (xs.map D.int) (xs.map V.int)
  | [] => rfl
  | x :: xs => ⟨_, _, rfl, rfl, repL_ints⟩
theorem evBi_lenSet {d z : D} (e : evBi .lenSet d = some z) : ∃ ds, (d = .lst ds ∨ d = .tup ds) ∧ ds.length < 4000 ∧ ((∃ xs, strsD ds = some xs ∧ z = .int (dedup xs).length) ∨ ∃ is, intsD ds = some is ∧ z = .int (dedup is).length) := by
  have fin : ∀ ds, (lenSet ds).map (fun n => D.int n) = some z → ds.length < 4000 ∧ ((∃ xs, strsD ds = some xs ∧ z = .int (dedup xs).length) ∨ ∃ is, intsD ds = some is ∧ z = .int (dedup is).length) := by
    intro ds h
    unfold lenSet at h
    split at h
    · rename_i hl
      refine ⟨hl, ?_⟩
      cases e1 : strsD ds with
      | some xs => rw [e1] at h; cases h; exact .inl ⟨xs, rfl, rfl⟩
      | none =>
        rw [e1] at h
        cases e2 : intsD ds with
        | some is => rw [e2] at h; cases h; exact .inr ⟨is, rfl, rfl⟩
        | none => rw [e2] at h; cases h
    · cases h
  cases d <;> simp only [evBi] at e <;> first | (cases e; done) | skip
  · exact ⟨_, .inr rfl, fin _ e⟩
  · exact ⟨_, .inl rfl, fin _ e⟩
theorem evBi_sortSet {d z : D} (e : evBi .sortSet d = some z) : ∃ ds, (d = .lst ds ∨ d = .tup ds) ∧ ds.length < 4000 ∧ ((∃ xs, strsD ds = some xs ∧ z = .lst (((dedup xs).mergeSort leStr).map .str)) ∨ ∃ is, intsD ds = some is ∧ z = .lst (((dedup is).mergeSort leInt).map .int)) := by
  have fin : ∀ ds, (sortSet ds).map D.lst = some z → ds.length < 4000 ∧ ((∃ xs, strsD ds = some xs ∧ z = .lst (((dedup xs).mergeSort leStr).map .str)) ∨ ∃ is, intsD ds = some is ∧ z = .lst (((dedup is).mergeSort leInt).map .int)) := by
    intro ds h
    unfold sortSet at h
    split at h
    · rename_i hl
      refine ⟨hl, ?_⟩
      cases e1 : strsD ds with
      | some xs => rw [e1] at h; cases h; exact .inl ⟨xs, rfl, by rw [srt_eq]⟩
      | none =>
        rw [e1] at h
        cases e2 : intsD ds with
        | some is => rw [e2] at h; cases h; exact .inr ⟨is, rfl, by rw [srt_eq]⟩
        | none => rw [e2] at h; cases h
    · cases h
  cases d <;> simp only [evBi] at e <;> first | (cases e; done) | skip
  · exact ⟨_, .inr rfl, fin _ e⟩
  · exact ⟨_, .inl rfl, fin _ e⟩
/-- set, then len or sorted of it -/
theorem bi_set2 {b : Bi} (hb : b = .lenSet ∨ b = .sortSet) (hc : X.calm = true) (hu : X.A.units + 64 < cLine) {pins : List (Addr × Obj)} {s : Shared} {σ : St} {H : Hp} {x : V} {u : Value} {Q : VK} {E : Value → Shared → Prop} (I : Inv X pins σ H s) (r : RelV x u) (h : rBi c b [x] H Q) {F : Value → Shared → Prop}
    (hF : ∀ p s', wpAny (model X.prog X.w) X.A (call (biVal b) [.ref p]) (EP X pins σ Q) E s' → F (.ref p) s') : wpAny (model X.prog X.w) X.A (call (.type "set") [u]) F E s := by
  obtain ⟨N0, N, d, z, v, hv, w, e, g⟩ := h
  cases hv
  rcases hb with rfl | rfl
  · obtain ⟨ds, hd, hl, ⟨xs, h1, rfl⟩ | ⟨is, h1, rfl⟩⟩ := evBi_lenSet e
    · obtain ⟨a, vs, rfl, q, hq⟩ := seq_of X.K w hd
      cases r
      obtain ⟨rfl, _⟩ := strs_rep q h1
      exact set_run kn_str I hc hq (by rw [strs_len h1]; exact hl) fun h' tk m R I2 => hF _ _ (len_run I2 R (g.same rfl))
    · obtain ⟨a, vs, rfl, q, hq⟩ := seq_of X.K w hd
      cases r
      have := ints_rep q h1
      subst this
      exact set_run kn_int I hc hq (by rw [ints_len h1]; exact hl) fun h' tk m R I2 => hF _ _ (len_run I2 R (g.same rfl))
  · obtain ⟨ds, hd, hl, ⟨xs, h1, rfl⟩ | ⟨is, h1, rfl⟩⟩ := evBi_sortSet e
    · obtain ⟨a, vs, rfl, q, hq⟩ := seq_of X.K w hd
      cases r
      obtain ⟨rfl, hfit⟩ := strs_rep q h1
      refine set_run kn_str I hc hq (by rw [strs_len h1]; exact hl) fun h' tk m R I2 => hF _ _ (sort_run kn_str I2 hc hu R fun p hp => ?_)
      rw [leStr_eq]
      exact g.lst hp (repL_strs fun x hx => hfit x (mem_dedup.mp (List.mem_mergeSort.mp hx)))
    · obtain ⟨a, vs, rfl, q, hq⟩ := seq_of X.K w hd
      cases r
      have := ints_rep q h1
      subst this
      refine set_run kn_int I hc hq (by rw [ints_len h1]; exact hl) fun h' tk m R I2 => hF _ _ (sort_run kn_int I2 hc hu R fun p hp => ?_)
      rw [leInt_eq]
      exact g.lst hp repL_ints
theorem pe_lenSet2 {a : Expr} {ta : TE} {p p2 q pos : Pos} (hc : X.calm = true) (hu : X.A.units + 64 < cLine) (hg : Gl X "len") (hm : X.mg "len" = none) (hg2 : Gl X "set") (hm2 : X.mg "set" = none) (ha : PE X a ta)
    (na : starEach [a] X.env = (false, eval a X.env) :: starEach [] X.env) : PE X (.Call (.Name "len" p) [.Call (.Name "set" p2) [a] [] q] [] pos) (tCB (rBi c .lenSet) (tCons ta tNil)) := by
  refine ⟨fun pins s σ H Q I h => ?_⟩
  refine PyProof.Rows.Call_ (ld_blt I hg hm boot_len ?_)
  refine PyProof.Rows.callWith_builtin1 (PyProof.Rows.args_cons ?_ rfl) rfl rfl
  refine PyProof.Rows.Call_ (ld_blt I hg2 hm2 PyProof.Rows.boot_set ?_)
  refine PyProof.Rows.callWith_type1 (PyProof.Rows.args_cons (thn (ha.run pins s σ H _ I h) fun v s1 ⟨x, H1, I1, r1, q1⟩ => PyProof.Rows.args_nil ?_) na) na rfl
  exact bi_set2 (.inl rfl) hc hu I1 r1 q1 fun p s' h => PyProof.Rows.args_nil h
theorem pe_sortSet2 {a : Expr} {ta : TE} {p p2 q pos : Pos} (hc : X.calm = true) (hu : X.A.units + 64 < cLine) (hg : Gl X "sorted") (hm : X.mg "sorted" = none) (hg2 : Gl X "set") (hm2 : X.mg "set" = none) (ha : PE X a ta)
    (na : starEach [a] X.env = (false, eval a X.env) :: starEach [] X.env) : PE X (.Call (.Name "sorted" p) [.Call (.Name "set" p2) [a] [] q] [] pos) (tCB (rBi c .sortSet) (tCons ta tNil)) := by
  refine ⟨fun pins s σ H Q I h => ?_⟩
  refine PyProof.Rows.Call_ (ld_blt I hg hm PyProof.Rows.boot_sorted ?_)
  refine PyProof.Rows.callWith_builtin1 (PyProof.Rows.args_cons ?_ rfl) rfl rfl
  refine PyProof.Rows.Call_ (ld_blt I hg2 hm2 PyProof.Rows.boot_set ?_)
  refine PyProof.Rows.callWith_type1 (PyProof.Rows.args_cons (thn (ha.run pins s σ H _ I h) fun v s1 ⟨x, H1, I1, r1, q1⟩ => PyProof.Rows.args_nil ?_) na) na rfl
  exact bi_set2 (.inr rfl) hc hu I1 r1 q1 fun p s' h => PyProof.Rows.args_nil h
end
end Mi
namespace Mi
open PySem L2
section
variable {X : Cx} {c : Cc} {cf : Cfg} {k : Ck} {W : WX} {w : Bool} {x : Expr}
theorem nd_bi {q : Bi} {a : ME} (G : GX X c cf k W) (ha : Hyp X c cf k W a) (h : ckE k w (.bi q a) x = true) : Okf X c cf W w (.bi q a) x := by
  cases x <;> first | (cases h; done) | skip
  rename_i f es ks pos
  cases f <;> first | (cases h; done) | skip
  rename_i y p
  rcases es with _ | ⟨z, _ | ⟨_, _⟩⟩ <;> first | (cases h; done) | skip
  cases ks <;> first | (cases h; done) | skip
  by_cases hs : biSet q = true
  · have h : setCk (fun y' u => decide (y = biName q) && k.blt y && decide (y' = ("set" : Str)) && k.blt y' && ckE k true a u && !isStar u) z = true := by
      have h0 : (if biSet q then setCk (fun y' u => decide (y = biName q) && k.blt y && decide (y' = ("set" : Str)) && k.blt y' && ckE k true a u && !isStar u) z else biOk q && decide (y = biName q) && k.blt y && ckE k true a z && !isStar z) = true := h
      rw [if_pos hs] at h0
      exact h0
    rename_i hOld
    clear hOld
    cases z <;> first | (cases h; done) | skip
    rename_i f2 es2 ks2 pos2
    cases f2 <;> first | (cases h; done) | skip
    rename_i y2 p2
    rcases es2 with _ | ⟨u, _ | ⟨_, _⟩⟩ <;> first | (cases h; done) | skip
    cases ks2 <;> first | (cases h; done) | skip
    obtain ⟨h, h6⟩ := and2 (show (decide (y = biName q) && k.blt y && decide (y2 = ("set" : Str)) && k.blt y2 && ckE k true a u && !isStar u) = true from h)
    obtain ⟨h, h5⟩ := and2 h
    obtain ⟨h, h4⟩ := and2 h
    obtain ⟨h, h3⟩ := and2 h
    obtain ⟨h1, h2⟩ := and2 h
    have h1 := of_decide_eq_true h1
    have h3 := of_decide_eq_true h3
    subst h1
    subst h3
    obtain ⟨g1, _, m1⟩ := blt_of G h2
    obtain ⟨g2, _, m2⟩ := blt_of G h4
    have fin : PE X (.Call (.Name (biName q) p) [.Call (.Name "set" p2) [u] [] pos2] [] pos) (tCB (rBi c q) (tCons (rd c (pW c) W (evE cf a)) tNil)) := by
      cases q <;> first | (cases hs; done) | skip
      · exact pe_sortSet2 G.calm G.un g1 m1 g2 m2 (PE.v1 (ha _ _ h5).v) (star_ns (not1 h6))
      · exact pe_lenSet2 G.calm G.un g1 m1 g2 m2 (PE.v1 (ha _ _ h5).v) (star_ns (not1 h6))
    exact ⟨okT G (fun _ => rfl) (PE.imp fin fun σ H Q h => rd_bi (rd_VF h)) (fun _ => rfl), PE.imp fin fun σ H Q h => rd_bi h⟩
  have h : (biOk q && decide (y = biName q) && k.blt y && ckE k true a z && !isStar z) = true := by
    have h0 : (if biSet q then setCk (fun y' u => decide (y = biName q) && k.blt y && decide (y' = ("set" : Str)) && k.blt y' && ckE k true a u && !isStar u) z else biOk q && decide (y = biName q) && k.blt y && ckE k true a z && !isStar z) = true := h
    rw [if_neg hs] at h0
    exact h0
  obtain ⟨h, hst⟩ := and2 h
  obtain ⟨h, hz⟩ := and2 h
  obtain ⟨h, hb⟩ := and2 h
  obtain ⟨h, hn⟩ := and2 h
  have hst := not1 hst
  have hn := of_decide_eq_true hn
  subst hn
  obtain ⟨hg, _, hm⟩ := blt_of G hb
  have fin : PE X (.Call (.Name (biName q) p) [z] [] pos) (tCB (rBi c q) (tCons (rd c (pW c) W (evE cf a)) tNil)) := by
    cases q <;> first | (cases h; done) | skip
    · exact biN (.inl rfl) G ha bi_len hg hm hz hst (y := z) (r := z)
    · exact biT (.inl rfl) G ha bi_int hg hm hz hst (y := z) (r := z)
    · exact biN (.inr (.inl rfl)) G ha bi_abs hg hm hz hst (y := z) (r := z)
    · exact biN (.inr (.inr (.inl rfl))) G ha (bi_all G.calm) hg hm hz hst (y := z) (r := z)
    · exact biN (.inr (.inr (.inr (.inl rfl)))) G ha (bi_any G.calm) hg hm hz hst (y := z) (r := z)
    · exact biT (.inr (.inl rfl)) G ha bi_list hg hm hz hst (y := z) (r := z)
    · exact biT (.inr (.inr rfl)) G ha bi_tuple hg hm hz hst (y := z) (r := z)
    · exact biN (.inr (.inr (.inr (.inr (.inr rfl))))) G ha (bi_sort G.K G.un) hg hm hz hst (y := z) (r := z)
    · exact biN (.inr (.inr (.inr (.inr (.inl rfl))))) G ha (bi_sum G.calm) hg hm hz hst (y := z) (r := z)
  exact ⟨okT G (fun _ => rfl) (PE.imp fin fun σ H Q h => rd_bi (rd_VF h)) (fun _ => rfl), PE.imp fin fun σ H Q h => rd_bi h⟩
theorem boot_ty {t : Ty} {y : Str} (h : tyName t = some y) : ∃ z, tyStr t = some z ∧ bootBuiltins y = some (.type z) := by
  cases t <;> simp only [tyName] at h <;> first | (cases h; done) | skip
  · cases h; exact ⟨_, rfl, PyProof.Rows.boot_int⟩
  · cases h; exact ⟨_, rfl, by decide +kernel⟩
  · cases h; exact ⟨_, rfl, PyProof.Rows.boot_str⟩
  · cases h; exact ⟨_, rfl, PyProof.Rows.boot_list⟩
  · cases h; exact ⟨_, rfl, PyProof.Rows.boot_tuple⟩
  · cases h; exact ⟨_, rfl, by decide +kernel⟩
  · cases h; exact ⟨_, rfl, by decide +kernel⟩
  · cases h; exact ⟨_, rfl, by decide +kernel⟩
  · cases h; exact ⟨_, rfl, by decide +kernel⟩
  · cases h; exact ⟨_, rfl, by decide +kernel⟩
theorem own_of (G : GX X c cf k W) {j : Nat} {x : Str} (h : k.own j x = true) : x = excName j ∧ Gl X x ∧ plainName x = true ∧ excName j ∈ k.cls := by
  obtain ⟨h, h3⟩ := and2 (show (decide (x = excName j) && k.gl x && decide (x ∈ k.cls)) = true from h)
  obtain ⟨h1, h2⟩ := and2 h
  have h1 := of_decide_eq_true h1
  obtain ⟨g1, g2⟩ := gl_of G h2
  exact ⟨h1, g1, g2, by rw [← h1]; exact of_decide_eq_true h3⟩
theorem pe_ty (G : GX X c cf k W) {t : Ty} {e : Expr} (h : ckTy k t e = true) : ∃ cv u, TyIs X.mg k.cls t cv u ∧ PE X e (tC cv) ∧ isStar e = false := by
  cases e <;> first | (cases t <;> cases h; done) | skip
  rename_i y p
  by_cases ht : ∃ j, t = .exc j
  · obtain ⟨j, rfl⟩ := ht
    obtain ⟨h1, h2, h3, h4⟩ := own_of G (show k.own j y = true from h)
    obtain ⟨C, hC⟩ := G.own j h4
    exact ⟨.ref C, .ref C, .inr ⟨j, C, rfl, h4, hC, rfl, rfl⟩, pe_glob h2 (by rw [h1]; exact hC) rfl (plain_db h3), rfl⟩
  · have h : (match tyName t with | some z => decide (y = z) && k.blt y | none => false) = true := by
      cases t <;> first | exact h | exact absurd ⟨_, rfl⟩ ht
    cases e1 : tyName t with
    | none => rw [e1] at h; cases h
    | some z =>
      rw [e1] at h
      obtain ⟨h1, h2⟩ := and2 h
      have h1 := of_decide_eq_true h1
      subst h1
      obtain ⟨y', h3, h4⟩ := boot_ty e1
      obtain ⟨hg, hp, hm⟩ := blt_of G h2
      exact ⟨.ty y', .type y', .inl ⟨y', h3, rfl, rfl⟩, pe_bltn hg hm h4 rfl (plain_nm hp) (plain_db hp), rfl⟩
theorem pa_tys (G : GX X c cf k W) : ∀ {ts : List Ty} {es : List Expr}, ckTys k ts es = true → ∃ cs us, TysIs X.mg k.cls ts cs us ∧ PA X es (tVs cs) ∧ cs.length = es.length
  | [], [], _ => ⟨[], [], ⟨rfl, rfl⟩, pa_nil, rfl⟩
  | [], _ :: _, h => by cases h
  | _ :: _, [], h => by cases h
  | t :: ts, e :: es, h => by
    obtain ⟨h1, h2⟩ := and2 (show (ckTy k t e && ckTys k ts es) = true from h)
    obtain ⟨cv, u, h3, h4, h5⟩ := pe_ty G h1
    obtain ⟨cs, us, h6, h7, h8⟩ := pa_tys G h2
    exact ⟨cv :: cs, u :: us, ⟨cv, u, cs, us, rfl, rfl, h3, h6⟩, pa_cons h4 h7 (star_ns h5), by simp [h8]⟩
theorem pe_isi {r : List V → Hp → VK → Prop} (hc : CallR X (.builtin "isinstance") r) (hg : Gl X "isinstance") (hm : X.mg "isinstance" = none) {z u : Expr} {p pos : Pos} {t : TA} (ha : PA X [z, u] t) (h1 : isStar z = false) (h2 : isStar u = false) :
    PE X (.Call (.Name "isinstance" p) [z, u] [] pos) (tCB r t) :=
  pe_callB hc hg hm PyProof.Rows.boot_isinstance ha (by decide +kernel) (by decide +kernel) (star_ns h1) (by rw [star_ns h2]; rfl)
theorem nd_isi {a : ME} {o : Bool} {ts : List Ty} (G : GX X c cf k W) (ha : Hyp X c cf k W a) (h : ckE k w (.isi a o ts) x = true) : Okx X c cf W w (.isi a o ts) x := by
  cases x <;> first | (cases o <;> (rcases ts with _ | ⟨_, _ | ⟨_, _⟩⟩ <;> cases h); done) | skip
  rename_i f es ks pos
  cases f <;> first | (cases o <;> (rcases ts with _ | ⟨_, _ | ⟨_, _⟩⟩ <;> cases h); done) | skip
  rename_i y p
  rcases es with _ | ⟨z, _ | ⟨u, _ | ⟨u3, us⟩⟩⟩
  · cases o <;> (rcases ts with _ | ⟨_, _ | ⟨_, _⟩⟩ <;> cases h)
  · cases o <;> (rcases ts with _ | ⟨_, _ | ⟨_, _⟩⟩ <;> cases h)
  rotate_left
  · cases o <;> (rcases ts with _ | ⟨_, _ | ⟨_, _⟩⟩ <;> first | (cases h; done) | (cases u <;> cases h))
  rcases ks with _ | ⟨k1, ks⟩
  rotate_left
  · cases o <;> (rcases ts with _ | ⟨_, _ | ⟨_, _⟩⟩ <;> first | (cases h; done) | (cases u <;> cases h))
  cases o with
  | true =>
    rcases ts with _ | ⟨t, _ | ⟨_, _⟩⟩ <;> first | (cases h; done) | skip
    obtain ⟨h, ht⟩ := and2 (show (decide (y = ("isinstance" : Str)) && k.blt y && ckE k true a z && !isStar z && ckTy k t u) = true from h)
    obtain ⟨h, hst⟩ := and2 h
    obtain ⟨h, hz⟩ := and2 h
    obtain ⟨hn, hb⟩ := and2 h
    have hst := not1 hst
    have hn := of_decide_eq_true hn
    subst hn
    obtain ⟨hg, _, hm⟩ := blt_of G hb
    obtain ⟨cv, uv, h3, h4, h5⟩ := pe_ty G ht
    have hA : PA X [z, u] (tCons (rd c (pW c) W (evE cf a)) (tCons (tC cv) tNil)) := pa_cons (PE.v1 (ha _ _ hz).v) (pa_cons h4 pa_nil (star_ns h5)) (star_ns hst)
    exact okT G (fun _ => rfl) (PE.imp (pe_isi call_isiV hg hm hA hst h5) fun σ H Q h => by
      have h := rd_isi G h3 h
      rw [G.K] at h
      exact h) (fun _ => rfl)
  | false =>
    cases u <;> first | (rcases ts with _ | ⟨_, _ | ⟨_, _⟩⟩ <;> cases h; done) | skip
    rename_i us j tp
    have h : (decide (y = ("isinstance" : Str)) && k.blt y && ckE k true a z && !isStar z && ckTys k ts us && !ts.isEmpty && decide (us.length ≤ 100)) = true := by
      rcases ts with _ | ⟨_, _ | ⟨_, _⟩⟩ <;> exact h
    obtain ⟨h, hl⟩ := and2 h
    have hl := of_decide_eq_true hl
    obtain ⟨h, hne⟩ := and2 h
    obtain ⟨h, ht⟩ := and2 h
    obtain ⟨h, hst⟩ := and2 h
    obtain ⟨h, hz⟩ := and2 h
    obtain ⟨hn, hb⟩ := and2 h
    have hst := not1 hst
    have hn := of_decide_eq_true hn
    subst hn
    obtain ⟨hg, _, hm⟩ := blt_of G hb
    obtain ⟨ys, us', h3, h4, h5⟩ := pa_tys G ht
    have hts : ts ≠ [] := by
      rintro rfl
      cases hne
    have hl : ys.length ≤ sizeLine := by rw [h5, sizeLine_eq]; omega
    have hA : PA X [z, .Tuple us j tp] (tCons (rd c (pW c) W (evE cf a)) (tCons (tTup (tVs ys)) tNil)) := pa_cons (PE.v1 (ha _ _ hz).v) (pa_cons (pe_tup h4) pa_nil rfl) (star_ns hst)
    exact okT G (fun _ => rfl) (PE.imp (pe_isi call_isiTV hg hm hA hst rfl) fun σ H Q h => by
      have h := rd_isiT G hts h3 hl h
      rw [G.K] at h
      exact h) (fun _ => rfl)
theorem nd_attr {f : Str} {a : ME} (G : GX X c cf k W) (ha : Hyp X c cf k W a) (h : ckE k w (.attr f a) x = true) : Okx X c cf W w (.attr f a) x := by
  cases x <;> first | (cases h; done) | skip
  rename_i e g p
  obtain ⟨h, h3⟩ := and2 (show (decide (f = g) && ckE k true a e && attrBase e) = true from h)
  obtain ⟨h1, h2⟩ := and2 h
  have h1 := of_decide_eq_true h1
  subst h1
  have hb : attributeBase e f X.env (PySem.eval e X.env) = PySem.eval e X.env := by
    clear h2 h
    cases e <;> first | rfl | cases h3
  exact okT G (fun _ => rfl) (PE.imp (pe_attr (PE.v1 (ha _ _ h2).v) hb) fun σ H Q h => by
    have h := rd_attr G h
    rw [G.K] at h
    exact h) (fun _ => rfl)
theorem evMk {j : Nat} {e : ME} {s : Env} : evE cf (.mk j (.cons false e .nil)) s = (evE cf e s).bd fun d => M.ofO (mkExc j [d]) := by
  show (((evP cf e s).1.bd fun x => (M.ret []).bd fun xs => M.ret (x :: xs)).bd fun ds => M.ofO (mkExc j ds)) = ((evP cf e s).1.bd fun d => M.ofO (mkExc j [d]))
  funext b
  unfold M.bd
  cases (evP cf e s).1 b <;> rfl
theorem inv_mk {j : Nat} {es : MEs} (h : ckE k w (.mk j es) x = true) : ∃ e y z p pos, es = .cons false e .nil ∧ x = .Call (.Name y p) [z] [] pos ∧ (k.own j y && (excFld j).isSome && ckE k false e z && !isStar z) = true := by
  cases es with
  | nil => cases x <;> cases h
  | cons st e r =>
    cases st with
    | true => cases x <;> cases h
    | false =>
      cases r with
      | cons _ _ _ => cases x <;> cases h
      | nil =>
        cases x <;> first | (cases h; done) | skip
        rename_i g xs kws pos
        cases g <;> first | (cases h; done) | skip
        rename_i y p
        rcases xs with _ | ⟨z, _ | ⟨_, _⟩⟩ <;> first | (cases h; done) | skip
        cases kws <;> first | (cases h; done) | skip
        exact ⟨e, y, z, p, pos, rfl, rfl, h⟩
theorem nd_mk {j : Nat} {es : MEs} (G : GX X c cf k W) (hs : ∀ e, es = .cons false e .nil → Hyp X c cf k W e) (h : ckE k w (.mk j es) x = true) : Okx X c cf W w (.mk j es) x := by
  obtain ⟨e, y, z, p, pos, rfl, rfl, h⟩ := inv_mk h
  obtain ⟨h, h4⟩ := and2 h
  obtain ⟨h, h3⟩ := and2 h
  obtain ⟨h1, h2⟩ := and2 h
  obtain ⟨n1, n2, n3, n4⟩ := own_of G h1
  obtain ⟨f, hf⟩ := Option.isSome_iff_exists.mp h2
  obtain ⟨C, fI, B, newId, initId, bmB, y2, x2, fd, T, hC, hev⟩ := G.mks j f n4 hf
  exact okT G (fun _ => rfl) (PE.imp (pe_mk T G.dp n2 (by rw [n1]; exact hC) (pa_cons (PE.v0 (hs e rfl false z h3).v) pa_nil (star_ns (not1 h4))) (plain_db n3) (star_ns (not1 h4))) fun σ H Q h => rd_mk G hf hev (fun s => evMk) h) (fun _ => rfl)
end
end Mi
namespace Mi
open PySem L2
theorem stars_none {pos : Pos} {env : PySem.Env} : ∀ {es : List Expr}, (es.all fun e => !isStar e) = true → (backTo pos (starEach es env)).any (·.1) = false
  | [], _ => rfl
  | e :: es, h => by
    rw [List.all_cons] at h
    obtain ⟨h1, h2⟩ := and2 h
    rw [star_ns (not1 h1)]
    show (false || (backTo pos (starEach es env)).any (·.1)) = false
    rw [stars_none h2]
    rfl
section
variable {X : Cx} {c : Cc} {cf : Cfg} {k : Ck} {W : WX} {w : Bool} {x : Expr}
open PySem.Spec PyProof.Rows in
theorem pe_callS0 {CX : CXT} {lv : Nat} {f : Addr} {fd : FuncData} {ps : List Str} {sp : Sp} {E : L2.St → XK} {x : Str} {p pos : Pos} (F : FnOk X.prog X.w X.K X.mg X.base CX lv f fd ps sp) (hr : Room lv X.A) (hg : Gl X x) (hm : X.mg x = some (.ref f)) (hk : PySem.W.keepIn X.K (.ref f) = true) (hb : Binds X.K fd ps []) (hx : ∀ σ, PassesAt CX X σ (E σ))
    (hdb : (x == ("__debug__" : Str)) = false) : PE X (.Call (.Name x p) [] [] pos) (tCallS sp E tNil) := by
  refine ⟨fun pins s σ H Q I h => ?_⟩
  refine wpAny_Call_Name_kw (ld_glob I hg hm ?_ hdb)
  exact PySem.W.callWith_K0 I.kIn hk (run_fnS (us := []) F hr hb (hx σ) I .nil h)
/-- a call of a def, whatever is handed over -/
theorem pe_fn (G : GX X c cf k W) {f : Nat} {es : List Expr} {y : Str} {p pos : Pos} {t : TA} (hg : k.gl y = true) (hn : (k.P.fs[f]?).map (·.name) = some y) (ha : PA X es t) (h0 : es = [] → ∀ σ H Q, t σ H Q → tNil σ H Q) (hs : (es.all fun e => !isStar e) = true) :
    ∃ n, (∀ ds b, ds.length ≠ n → cf.cl f ds b = .no) ∧ PE X (.Call (.Name y p) es [] pos) (tCallS (spF c cf.cl f n) (WE W) t) := by
  obtain ⟨lv, a, fd, ps, e1, e2, e3, _, e4, e5, e6⟩ := G.fns f y hn
  obtain ⟨h1, h2⟩ := gl_of G hg
  refine ⟨ps.length, e6, ?_⟩
  cases es with
  | nil => exact PE.imp (pe_callS0 e5 e4 h1 e1 e2 e3 (passAt G.tk) (plain_db h2)) fun σ H Q h => h0 rfl _ _ _ h
  | cons e es =>
    rw [List.all_cons] at hs
    obtain ⟨s1, s2⟩ := and2 hs
    exact pe_callS e5 e4 h1 e1 e2 e3 (passAt G.tk) ha (plain_db h2) (star_ns (not1 s1)) (stars_none s2)
theorem nd_call {f : Nat} {es : MEs} (G : GX X c cf k W) (hs : ∀ xs, ckEs k es xs = true → PA X xs (rd c (pL c) W (evEs cf es))) (h : ckE k w (.call f es) x = true) : Okx X c cf W w (.call f es) x := by
  cases x <;> first | (cases h; done) | skip
  rename_i g xs ks pos
  cases g <;> first | (cases h; done) | skip
  rename_i y p
  cases ks <;> first | (cases h; done) | skip
  obtain ⟨h, h4⟩ := and2 (show (k.gl y && decide ((k.P.fs[f]?).map (·.name) = some y) && ckEs k es xs && xs.all (fun e => !isStar e)) = true from h)
  obtain ⟨h, h3⟩ := and2 h
  obtain ⟨h1, h2⟩ := and2 h
  obtain ⟨n, h5, h6⟩ := pe_fn G (t := rd c (pL c) W (evEs cf es)) (pos := pos) (p := p) h1 (of_decide_eq_true h2) (hs _ h3) (fun e => by
    subst e
    cases es with
    | nil => exact fun σ H Q h => rd_nil h
    | cons st _ _ => cases st <;> cases h3) h4
  exact okT G (fun _ => rfl) (PE.imp h6 fun σ H Q h => rd_call h5 h) (fun _ => rfl)
theorem nd_lend {f : Nat} {es : MEs} (G : GX X c cf k W) (hs : ∀ xs, ckWs k es xs = true → PA X xs (rd c (pL0 c) W (evEs cf es))) (h : ckE k w (.lend f es) x = true) : Okx X c cf W w (.lend f es) x := by
  cases x <;> first | (cases h; done) | skip
  rename_i g xs ks pos
  cases g <;> first | (cases h; done) | skip
  rename_i y p
  cases ks <;> first | (cases h; done) | skip
  obtain ⟨h, h4⟩ := and2 (show (k.gl y && decide ((k.P.fs[f]?).map (·.name) = some y) && ckWs k es xs && xs.all (fun e => !isStar e)) = true from h)
  obtain ⟨h, h3⟩ := and2 h
  obtain ⟨h1, h2⟩ := and2 h
  obtain ⟨n, h5, h6⟩ := pe_fn G (t := rd c (pL0 c) W (evEs cf es)) (pos := pos) (p := p) h1 (of_decide_eq_true h2) (hs _ h3) (fun e => by
    subst e
    cases es with
    | nil => exact fun σ H Q h => rd_nil0 h
    | cons st _ _ => cases st <;> cases h3) h4
  exact okT G (fun _ => rfl) (PE.imp h6 fun σ H Q h => rd_lend h5 h) (fun _ => rfl)
theorem nd_boxed {f : Nat} {e : ME} (G : GX X c cf k W) (hs : ∀ g es, e = .call g es → ∀ xs, ckEs k es xs = true → PA X xs (rd c (pL c) W (evEs cf es))) (h : ckE k w (.boxed f e) x = true) : Okx X c cf W w (.boxed f e) x := by
  have inv : ∃ g es y p1 z p2 xs p3 p4, e = .call g es ∧ x = .Call (.Name y p1) [.Call (.Name z p2) xs [] p3] [] p4 := by
    revert h
    unfold ckE
    split <;> first | (intro _; exact ⟨_, _, _, _, _, _, _, _, _, rfl, rfl⟩) | (intro h; simp_all)
  obtain ⟨g, es, y, p1, z, p2, xs, p3, p4, rfl, rfl⟩ := inv
  obtain ⟨h, h8⟩ := and2 (show (k.gl y && decide ((k.P.fs[f]?).map (·.name) = some y) && k.gl z && decide ((k.P.fs[g]?).map (·.name) = some z) && decide ((k.P.fs[g]?).map (·.fresh) = some true) && ckEs k es xs && xs.all (fun e => !isStar e) && !xs.isEmpty) = true from h)
  obtain ⟨h, h7⟩ := and2 h
  obtain ⟨h, h6⟩ := and2 h
  obtain ⟨h, h5⟩ := and2 h
  obtain ⟨h, h4⟩ := and2 h
  obtain ⟨h, h3⟩ := and2 h
  obtain ⟨h1, h2⟩ := and2 h
  have hfr : c.frs g = true := by
    have h5 := of_decide_eq_true h5
    cases e : k.P.fs[g]? with
    | none => rw [e] at h5; cases h5
    | some fd =>
      rw [e] at h5
      rw [G.frs g fd e]
      exact Option.some.inj h5
  obtain ⟨n, hn, hp⟩ := pe_fn G (t := rd c (pL c) W (evEs cf es)) (pos := p3) (p := p2) h3 (of_decide_eq_true h4) (hs g es rfl _ h6) (fun e => by
    subst e
    cases h8) h7
  have hp1 : PE X (.Call (.Name z p2) xs [] p3) (rd c (pF c) W (evE cf (.call g es))) := PE.imp hp fun σ H Q h => rd_callF hfr hn h
  obtain ⟨n2, hn2, hp2⟩ := pe_fn G (t := tCons (rd c (pF c) W (evE cf (.call g es))) tNil) (pos := p4) (p := p1) h1 (of_decide_eq_true h2) (pa_cons hp1 pa_nil rfl) (fun e => by cases e) rfl
  exact okT G (fun _ => rfl) (PE.imp hp2 fun σ H Q h => rd_boxed hn2 (rd_VE h)) (fun _ => rfl)
theorem PK.imp {X : Cx} {kws : List Keyword} {t t' : TA} (h : PK X kws t) (i : ∀ σ H Q, t' σ H Q → t σ H Q) : PK X kws t' := ⟨fun pos pins s σ H Q I q => h.run pos pins s σ H Q I (i σ H Q q)⟩
open PySem.Spec PyProof.Rows in
theorem run_kw {CX : CXT} {lv : Nat} {f : Addr} {fd : FuncData} {ps ks : List Str} {sp : Sp} {E : L2.St → XK} {pins : List (Addr × Obj)} {σ : L2.St} {H : Hp} {s : Shared} {Q : VK} {us ws zs : List Value} {vs : List V} (F : FnOk X.prog X.w X.K X.mg X.base CX lv f fd ps sp) (hr : Room lv X.A)
    (hb : bindArgs fd ⟨us, ks.zip ws⟩ = pure (ps.zip zs)) (hx : PassesAt CX X σ (E σ)) (I : Inv X pins σ H s) (r : Vals vs zs) (h : sp vs H Q (E σ)) :
    wpAny (model X.prog X.w) X.A (call (.ref f) us (ks.zip ws)) (EP X pins σ Q) X.xe s := by
  refine wpAny_call (codeAny_mono (F.run X.A X.stack s H ⟨us, ks.zip ws⟩ zs vs Q (E σ) hr I.env0 (.of_eq hb) r h) fun q s' hq => ?_)
  cases q with
  | error e => exact hx pins H s e s' I hq
  | ok fl => cases fl <;> first | exact I.after hq | exact False.elim hq
def tCallN (sp : Sp) (E : L2.St → XK) (np nk : Nat) (order : List Nat) (t tk : TA) : TE := fun σ H Q => t σ H fun vs H1 => vs.length = np ∧ tk σ H1 fun zs H2 => zs.length = nk ∧ sp (permD order (vs ++ zs)) H2 Q (E σ)
theorem backKw_all {pos : Pos} {env : PySem.Env} {k : Ck} : ∀ {es : MEs} {kws : List Keyword}, ckKs k es kws = true → (backToKw pos (keywordEach kws env)).all (·.1.isSome) = true ∧ (backToKw pos (keywordEach kws env)).filterMap (·.1) = kwN kws ∧ (backToKw pos (keywordEach kws env)).any (·.1.isNone) = false ∧ (kwN kws).length = kws.length
  | es, [], h => ⟨rfl, rfl, rfl, rfl⟩
  | es, ⟨a, x, p⟩ :: kws, h => by
    cases es with
    | nil => cases h
    | cons st e r =>
      cases st with
      | true => cases h
      | false =>
        cases a with
        | none => cases h
        | some a =>
          obtain ⟨_, h2⟩ := and2 (show (ckE k false e x && ckKs k r kws) = true from h)
          obtain ⟨i1, i2, i3, i4⟩ := backKw_all (pos := pos) (env := env) h2
          refine ⟨?_, ?_, ?_, ?_⟩
          · show (true && (backToKw pos (keywordEach kws env)).all (·.1.isSome)) = true
            rw [i1]; rfl
          · show a :: (backToKw pos (keywordEach kws env)).filterMap (·.1) = a :: kwN kws
            rw [i2]
          · show (false || (backToKw pos (keywordEach kws env)).any (·.1.isNone)) = false
            rw [i3]; rfl
          · show (a :: kwN kws).length = _
            rw [List.length_cons, List.length_cons, i4]
theorem vals_perm {vs : List V} {us : List Value} (r : Vals vs us) : ∀ order : List Nat, Vals (permD order vs) (permD order us)
  | [] => .nil
  | i :: order => by
    unfold permD
    rw [List.filterMap_cons, List.filterMap_cons]
    have hl := r.length
    cases e : vs[i]? with
    | none =>
      have e2 : us[i]? = none := by rw [List.getElem?_eq_none_iff] at *; omega
      rw [e2]
      exact vals_perm r order
    | some v =>
      obtain ⟨u, e2, q⟩ := r.get e
      rw [e2]
      exact .cons q (vals_perm r order)
open PySem.Spec PyProof.Rows in
theorem pe_kw {CX : CXT} {lv : Nat} {f : Addr} {fd : FuncData} {ps : List Str} {sp : Sp} {E : L2.St → XK} {y : Str} {p pos : Pos} {xs : List Expr} {kws : List Keyword} {es2 : MEs} {t tk : TA} (F : FnOk X.prog X.w X.K X.mg X.base CX lv f fd ps sp) (hr : Room lv X.A) (hg : Gl X y) (hm : X.mg y = some (.ref f)) (hk : PySem.W.keepIn X.K (.ref f) = true)
    (hb : KwOk fd ps) (hx : ∀ σ, PassesAt CX X σ (E σ)) (hdb : (y == ("__debug__" : Str)) = false) (ha : PA X xs t) (h0 : xs = [] → ∀ σ H Q, t σ H Q → tNil σ H Q) (hs : (xs.all fun e => !isStar e) = true) (hkw : PK X kws tk) (hc : ckKs k es2 kws = true) (hn : kwNames ps xs.length (kwN kws) = true) :
    PE X (.Call (.Name y p) xs kws pos) (tCallN sp E xs.length kws.length (orderOf ps xs.length (kwN kws)) t tk) := by
  obtain ⟨b1, b2, b3, b4⟩ := backKw_all (pos := pos) (env := X.env) hc
  refine ⟨fun pins s σ H Q I h => ?_⟩
  refine wpAny_Call_Name_kw (ld_glob I hg hm ?_ hdb)
  cases xs with
  | nil =>
    obtain ⟨_, h⟩ := h0 rfl _ _ _ h
    refine PySem.W.callWith_KW0 (h₀ := X.base) I.ok.mod.kin hk b1 (thn (hkw.run pos pins s σ H _ I h) fun ws s2 ⟨zs, H2, I2, rz, hl, q2⟩ => ⟨I2.kIn, ?_⟩) (by rw [b3]; rfl)
    rw [b2]
    exact run_kw F hr (hb 0 (kwN kws) [] ws hn rfl (by rw [b4, ← hl, rz.length])) (hx σ) I2 (vals_perm rz _) q2
  | cons e es =>
    rw [List.all_cons] at hs
    obtain ⟨s1, s2⟩ := and2 hs
    refine PySem.W.callWith_KW (h₀ := X.base) I.ok.mod.kin hk b1 (thn (ha.run pos pins s σ H _ I h) fun us s1 ⟨vs, H1, I1, r, hv, q⟩ => ?_) (by
      rw [star_ns (not1 s1), b3]
      show ((false || (backTo pos (starEach es X.env)).any (·.1)) || false) = false
      rw [stars_none s2]
      rfl) (star_ns (not1 s1))
    refine thn (hkw.run pos pins s1 σ H1 _ I1 q) fun ws s2 ⟨zs, H2, I2, rz, hl, q2⟩ => ⟨I2.kIn, ?_⟩
    rw [b2]
    exact run_kw F hr (hb _ (kwN kws) us ws hn (by rw [← r.length]; exact hv) (by rw [b4, ← hl, rz.length])) (hx σ) I2 (vals_perm (r.append rz) _) q2
theorem evEs_len {k : Ck} : ∀ {es : MEs} {xs : List Expr}, ckEs k es xs = true → (xs.all fun e => !isStar e) = true → ∀ s b ds b', evEs cf es s b = .ok ds b' → ds.length = xs.length
  | .nil, xs, h, _, s, b, ds, b', e => by
    cases xs with
    | nil => cases e; rfl
    | cons _ _ => cases h
  | .cons st e r, xs, h, hs, s, b, ds, b', e0 => by
    cases xs with
    | nil => cases st <;> cases h
    | cons x xs =>
      rw [List.all_cons] at hs
      obtain ⟨s1, s2⟩ := and2 hs
      cases st with
      | true => cases x <;> first | (cases h; done) | cases s1
      | false =>
        obtain ⟨_, h3⟩ := and2 (show (!isStar x && ckE k false e x && ckEs k r xs) = true from h)
        obtain ⟨d, b1, _, e0⟩ := bd_ok (show ((evE cf e s).bd fun x => (evEs cf r s).bd fun xs => M.ret (x :: xs)) b = .ok ds b' from e0)
        obtain ⟨d2, b2, e2, e0⟩ := bd_ok e0
        cases e0
        rw [List.length_cons, List.length_cons, evEs_len h3 s2 s _ _ _ e2]
theorem evKs_len {k : Ck} : ∀ {es : MEs} {kws : List Keyword}, ckKs k es kws = true → ∀ s b ds b', evEs cf es s b = .ok ds b' → ds.length = kws.length
  | .nil, kws, h, s, b, ds, b', e => by
    cases kws with
    | nil => cases e; rfl
    | cons _ _ => cases h
  | .cons st e r, kws, h, s, b, ds, b', e0 => by
    cases kws with
    | nil => cases st <;> cases h
    | cons x kws =>
      obtain ⟨a, x, p⟩ := x
      cases st <;> cases a <;> first | (cases h; done) | skip
      obtain ⟨_, h3⟩ := and2 (show (ckE k false e x && ckKs k r kws) = true from h)
      obtain ⟨d, b1, _, e0⟩ := bd_ok (show ((evE cf e s).bd fun x => (evEs cf r s).bd fun xs => M.ret (x :: xs)) b = .ok ds b' from e0)
      obtain ⟨d2, b2, e2, e0⟩ := bd_ok e0
      cases e0
      rw [List.length_cons, List.length_cons, evKs_len h3 s _ _ _ e2]
theorem Out.andE {α γ : Type} {Rp : Hp → α → γ → Prop} {σ : L2.St} {H : Hp} {Q : γ → Hp → Prop} {r : Res α} {P : α → Prop} (h : Out c Rp σ H W Q r) (hp : ∀ x b, r = .ok x b → P x) : Out c (fun H x v => Rp H x v ∧ P x) σ H W Q r := h.rp fun _ _ _ _ q => q.1
theorem RepL.perm {H : Hp} {N : Addr → Prop} {ds : List D} {vs : List V} (r : RepL c H N ds vs) : ∀ order : List Nat, RepL c H N (permD order ds) (permD order vs)
  | [] => rfl
  | i :: order => by
    unfold permD
    rw [List.filterMap_cons, List.filterMap_cons]
    have hl := r.length
    cases e : ds[i]? with
    | none =>
      have e2 : vs[i]? = none := by rw [List.getElem?_eq_none_iff] at *; omega
      rw [e2]
      exact RepL.perm r order
    | some v =>
      obtain ⟨u, e2, q⟩ := r.get e
      rw [e2]
      exact ⟨_, _, rfl, q, RepL.perm r order⟩
theorem rd_callK {w : Bool} {f n np nk : Nat} {es es2 : MEs} {ks : List Nat} {σ : L2.St} {H : Hp} {Q : VK} (hn : ∀ ds b, ds.length ≠ n → cf.cl f ds b = .no) (l1 : ∀ s b ds b', evEs cf es s b = .ok ds b' → ds.length = np) (l2 : ∀ s b ds b', evEs cf es2 s b = .ok ds b' → ds.length = nk)
    (h : rd c (pV c w) W (evE cf (.callK f es es2 ks)) σ H Q) : tCallN (spF c cf.cl f n) (WE W) np nk ks (rd c (pL c) W (evEs cf es)) (rd c (pL c) W (evEs cf es2)) σ H Q := by
  obtain ⟨N0, s, b, R, B, h⟩ := rd_VE h
  refine ⟨N0, s, b, R, B, ?_⟩
  have h : Out c (fun H' => pE c H H' N0 (Nof N0 σ s)) σ H W Q (((evEs cf es s).bd fun ds => (evEs cf es2 s).bd fun d2 => cf.cl f (permD ks (ds ++ d2))) b) := h
  unfold M.bd at h
  cases e1 : evEs cf es s b with
  | no => rw [e1] at h; exact h
  | ex k as b1 => rw [e1] at h; exact h
  | ok ds b1 =>
    rw [e1] at h
    intro vs H1 k1 B1 r1
    refine ⟨by rw [← r1.length]; exact l1 _ _ _ _ e1, N0, s, b1, R.keep k1, B1, ?_⟩
    simp only at h
    cases e2 : evEs cf es2 s b1 with
    | no => rw [e2] at h; exact h
    | ex k as b2 =>
      rw [e2] at h
      exact Out.later (r := .ex k as b2) h k1
    | ok d2 b2 =>
      rw [e2] at h
      intro zs H2 k2 B2 r2
      have R2 := (R.keep k1).keep k2
      refine ⟨by rw [← r2.length]; exact l2 _ _ _ _ e2, ?_⟩
      refine sp_at hn (RepL.perm ((r1.keep k2 R.betN).append (r2.sub fun a z => z)) ks) (fun a => R2.domN) R2.betN B2 (Out.chg (Out.later h (k1.trans k2)) fun _ _ _ z => z)
theorem nd_callK {f : Nat} {es es2 : MEs} {ks : List Nat} (G : GX X c cf k W) (hs : ∀ xs, ckEs k es xs = true → PA X xs (rd c (pL c) W (evEs cf es))) (hks : ∀ kws, ckKs k es2 kws = true → PK X kws (rd c (pL c) W (evEs cf es2))) (h : ckE k w (.callK f es es2 ks) x = true) : Okx X c cf W w (.callK f es es2 ks) x := by
  cases x <;> first | (cases h; done) | skip
  rename_i g xs kws pos
  cases g <;> first | (cases h; done) | skip
  rename_i y p
  obtain ⟨h, h7⟩ := and2 (show (k.gl y && decide ((k.P.fs[f]?).map (·.name) = some y) && ckEs k es xs && xs.all (fun e => !isStar e) && ckKs k es2 kws && !kws.isEmpty && (match k.P.fs[f]? with | some fd => kwNames fd.ps xs.length (kwN kws) && decide (ks = orderOf fd.ps xs.length (kwN kws)) | none => false)) = true from h)
  obtain ⟨h, h6⟩ := and2 h
  obtain ⟨h, h5⟩ := and2 h
  obtain ⟨h, h4⟩ := and2 h
  obtain ⟨h, h3⟩ := and2 h
  obtain ⟨h1, h2⟩ := and2 h
  obtain ⟨lv, a, fd, ps, e1, e2, e3, ⟨ek, ep⟩, e4, e5, e6⟩ := G.fns f y (of_decide_eq_true h2)
  obtain ⟨g1, g2⟩ := gl_of G h1
  cases ef : k.P.fs[f]? with
  | none => rw [ef] at h7; cases h7
  | some fd0 =>
    rw [ef] at h7 ep
    have ep : fd0.ps = ps := Option.some.inj ep
    obtain ⟨n1, n2⟩ := and2 h7
    have n2 := of_decide_eq_true n2
    rw [ep] at n1 n2
    subst n2
    have p0 := pe_kw (k := k) (pos := pos) (p := p) e5 e4 g1 e1 e2 ek (passAt G.tk) (plain_db g2) (hs _ h3) (fun e => by
      subst e
      cases es with
      | nil => exact fun σ H Q h => rd_nil h
      | cons st _ _ => cases st <;> cases h3) h4 (hks _ h5) h5 n1
    exact okT G (fun _ => rfl) (PE.imp p0 fun σ H Q h => rd_callK e6 (evEs_len h3 h4) (evKs_len h5) h) (fun _ => rfl)
theorem assign_ns {e : Expr} {es : List Expr} {env : PySem.Env} (h : isStar e = false) : assignEach (e :: es) env = (false, assign e env) :: assignEach es env := by
  cases e <;> first | rfl | cases h
mutual
theorem sT (G : GX X c cf k W) : ∀ (t : MT) (e : Expr), ckT k t e = true → PG X e (rdG c t)
  | .slot i, e, h => by
    cases e <;> first | (cases h; done) | skip
    rename_i y p
    obtain ⟨h1, h2⟩ := and2 (show (decide (k.N[i]? = some y) && k.loc y) = true from h)
    have h1 := of_decide_eq_true h1
    have hl : L2.Loc X.env.scope y ∧ (X.fn y = true ∨ X.env.scope.names.lookup y = some .local) := by
      unfold Ck.loc at h2
      unfold L2.Loc
      rw [G.sc]
      split at h2
      · rename_i e; exact ⟨.inl e, .inr e⟩
      · rename_i e; exact ⟨.inr e, .inl (G.fn y h2)⟩
      · cases h2
    have g := pg_name (X := X) (pos := p) G.nd (by rw [G.N]; exact h1) hl.1 hl.2
    exact ⟨fun pins s σ H v u Q I r h => g.run pins s σ H v u Q I r (rdG_slot h)⟩
  | .tup ts, e, h => by
    cases e <;> first | (cases h; done) | skip
    rename_i es j p
    obtain ⟨g, hn, hst⟩ := sTs G ts es h
    have g2 := pg_seqT (k := j) (pos := p) G.calm g hn hst
    refine ⟨fun pins s σ H v u Q I r h => g2.run pins s σ H v u Q I r ?_⟩
    exact rdG_tup h
theorem sTs (G : GX X c cf k W) : ∀ (ts : MTs) (es : List Expr), ckTs k ts es = true → PGs X es (rdGs c ts) ∧ (assignEach es X.env).length = mtLen ts ∧ (assignEach es X.env).findIdx? (·.1) = none
  | .nil, [], _ => ⟨⟨fun pins s σ H vs us Q I r h => pgs_nil.run pins s σ H vs us Q I r (rdGs_nil h)⟩, rfl, rfl⟩
  | .nil, _ :: _, h => by cases h
  | .cons _ _, [], h => by cases h
  | .cons t ts, e :: es, h => by
    obtain ⟨h, h3⟩ := and2 (show (!isStar e && ckT k t e && ckTs k ts es) = true from h)
    obtain ⟨h1, h2⟩ := and2 h
    have g1 := sT G t e h2
    obtain ⟨g2, hn, hst⟩ := sTs G ts es h3
    have ea := assign_ns (env := X.env) (es := es) (not1 h1)
    refine ⟨?_, ?_, ?_⟩
    · have g := pgs_cons g1 g2 (by rw [ea]; rfl)
      exact ⟨fun pins s σ H vs us Q I r h => g.run pins s σ H vs us Q I r (rdGs_cons h)⟩
    · rw [ea, List.length_cons, hn]; rfl
    · rw [ea, List.findIdx?_cons]
      simp [hst]
end
theorem gx_blk (G : GX X c cf k W) (s : Shared) (H : Hp) (scope : Scope) (cl : List (Str × Addr)) (C : Addr) (fp : List Addr) : GX (X.blk s H scope (compEnvC scope cl C X.env) fp) c cf (k.inner scope) W0 where
  N := G.N
  K := G.K
  nd := G.nd
  sc := by
    show relS scope X.env.scope = relS scope k.sc
    rw [G.sc]
  fn := fun x h => by
    have h : decide (scope.names.lookup x = some .cell) = true := h
    show (scope.names.lookup x == some .cell) = true
    rw [of_decide_eq_true h]
    rfl
  calm := G.calm
  un := G.un
  tk := takes0
  ns := G.ns
  free := G.free
  gs := G.gs
  evs := G.evs
  att := G.att
  own := G.own
  exf := G.exf
  mkr := G.mkr
  dp := G.dp
  mks := fun j f h1 h2 => by
    obtain ⟨C, fI, B, newId, initId, bmB, y, x, fd, T, h⟩ := G.mks j f h1 h2
    exact ⟨C, fI, B, newId, initId, bmB, y, x, fd, ⟨T.ex, T.ini, T.iC, T.tI, T.na, T.kC, T.sup⟩, h⟩
  frs := G.frs
  fns := G.fns
theorem folded {e : Expr} {env : PySem.Env} (h : isSetE e = false) : ∀ x, foldedSetIterable e env x = pure x := by
  intro x
  cases e <;> first | rfl | cases h
def isTupE : Expr → Bool
  | .Tuple _ _ _ => true
  | _ => false
theorem tup_fits {t : MT} {tg : Expr} (h : ckT k t tg = true) : isTupE tg = true → isTupM t = true := by
  intro e
  cases tg <;> first | (cases e; done) | skip
  cases t with
  | slot i => cases h
  | tup ts => rfl
abbrev HypS (X : Cx) (c : Cc) (cf : Cfg) (k : Ck) (W : WX) (w : Bool) (r : MSrc) : Prop := ∀ it tg, ckSrc k w r it tg = true → PI X tg it (rd c (pS c w (isTupE tg)) W (evSrc cf r))
theorem nd_comp {e : ME} {t : MT} {r : MSrc} {ifs : MEs} {own : List Nat} (G : GX X c cf k W) (hr : HypS X c cf k W true r)
    (he : ∀ X k W, GX X c cf k W → Hyp X c cf k W e) (hi : ∀ X k W, GX X c cf k W → ∀ xs, ckBs k true ifs xs = true → xs.length ≤ 1 → PTs X xs (rd c (pX (α := Bool)) W (evTs cf ifs)))
    (h : ckE k w (.comp e t r ifs own) x = true) : Okf X c cf W w (.comp e t r ifs own) x ∧ ∃ elt tg iter cs scope pos, x = .ListComp elt [⟨tg, iter, cs, 0⟩] scope pos ∧
      ∀ (i : Nat) (y : Str) (py spos : Pos), X.N[i]? = some y → X.env.scope.names.lookup y = some .local → swapsWith x (some (.Name y py)) spos.line X.env = pure true → PS X (.Assign [.Name y py] x spos) (tAsg (rd c (pF c) W (evE cf (.comp e t r ifs own))) (gName i)) := by
  cases x <;> first | (cases h; done) | skip
  rename_i elt gens scope pos
  rcases gens with _ | ⟨⟨tg, iter, cs, as⟩, _ | ⟨_, _⟩⟩
  · cases h
  rotate_left
  · exfalso
    revert h
    unfold ckE
    split <;> simp_all
  by_cases ha : as = 0
  rotate_left
  · exfalso
    revert h
    unfold ckE
    split <;> simp_all
  · subst ha
    obtain ⟨h, h8⟩ := and2 (show ((own.all fun i => decide (i < k.N.length)) && ((tSlots t).all fun i => decide (i ∈ own)) && blkC k.N k.sc scope (own.map fun i => ((k.N[i]?).getD Str.empty, i)) && ckSrc k true r iter tg && !isSetE iter && ckT (k.inner scope) t tg && ckE (k.inner scope) false e elt &&
        ckBs (k.inner scope) true ifs cs && decide (cs.length ≤ 1)) = true from h)
    obtain ⟨h, h7⟩ := and2 h
    obtain ⟨h, h6⟩ := and2 h
    obtain ⟨h, h5⟩ := and2 h
    obtain ⟨h, h4'⟩ := and2 h
    obtain ⟨h, h4⟩ := and2 h
    obtain ⟨h, h3⟩ := and2 h
    obtain ⟨h1, h2⟩ := and2 h
    have hb := blkOk_by h3
    rw [← G.N, ← G.sc] at hb
    have ho : (own.map fun i => ((X.N[i]?).getD Str.empty, i)).map (·.2) = own := by
      rw [List.map_map]
      exact List.map_id'' (fun _ => rfl) own
    have p := pe_lc (pos := pos) G.calm G.nd (hr _ _ h4) hb (fun s H C cl fp => sT (gx_blk G s H scope cl C fp) t tg h5) (fun s H C cl fp => hi _ _ _ (gx_blk G s H scope cl C fp) cs h7 (of_decide_eq_true h8))
      (fun s H C cl fp => PE.v0 (he _ _ _ (gx_blk G s H scope cl C fp) false elt h6).v) (folded (not1 h4'))
    rw [ho] at p
    have h2' : ∀ i ∈ tSlots t, i ∈ own := fun i hi => of_decide_eq_true (List.all_eq_true.mp h2 i hi)
    refine ⟨⟨okT G (fun _ => rfl) (PE.imp p fun σ H Q h => rd_comp (tup_fits h5) h2' (rd_VF h)) (fun _ => rfl), PE.imp p fun σ H Q h => rd_comp (tup_fits h5) h2' h⟩, elt, tg, iter, cs, scope, pos, rfl, fun i y py spos hy hyl hsw => ?_⟩
    have p2 := ps_setLc (i := i) (y := y) (py := py) (pos := pos) (spos := spos) G.calm G.nd hy hyl hsw (hr _ _ h4) hb (fun s H C cl fp => sT (gx_blk G s H scope cl C fp) t tg h5) (fun s H C cl fp => hi _ _ _ (gx_blk G s H scope cl C fp) cs h7 (of_decide_eq_true h8))
      (fun s H C cl fp => PE.v0 (he _ _ _ (gx_blk G s H scope cl C fp) false elt h6).v) (folded (not1 h4'))
    rw [ho] at p2
    exact PS.imp p2 fun D σ H h => rd_comp (tup_fits h5) h2' h
theorem inv_comp2 {e : ME} {t t2 : MT} {r r2 : MSrc} {ifs : MEs} {own : List Nat} (h : ckE k w (.comp2 e t r t2 r2 ifs own) x = true) : ∃ elt tg iter tg2 iter2 cs scope pos, x = .ListComp elt [⟨tg, iter, [], 0⟩, ⟨tg2, iter2, cs, 0⟩] scope pos := by
  cases x <;> first | (cases h; done) | skip
  rename_i elt gens scope pos
  rcases gens with _ | ⟨⟨tg, iter, cs, as⟩, _ | ⟨⟨tg2, iter2, cs2, as2⟩, _ | ⟨_, _⟩⟩⟩
  · cases h
  · (exfalso; revert h; unfold ckE; first | (intro h; cases h; done) | (split <;> simp_all))
  · rcases cs with _ | ⟨_, _⟩
    · by_cases ha : as = 0
      · by_cases hb : as2 = 0
        · subst ha hb
          exact ⟨elt, tg, iter, tg2, iter2, cs2, scope, pos, rfl⟩
        · (exfalso; revert h; unfold ckE; first | (intro h; cases h; done) | (split <;> simp_all))
      · (exfalso; revert h; unfold ckE; first | (intro h; cases h; done) | (split <;> simp_all))
    · (exfalso; revert h; unfold ckE; first | (intro h; cases h; done) | (split <;> simp_all))
  · (exfalso; revert h; unfold ckE; first | (intro h; cases h; done) | (split <;> simp_all))
theorem nd_comp2 {e : ME} {t t2 : MT} {r r2 : MSrc} {ifs : MEs} {own : List Nat} (G : GX X c cf k W) (hr : HypS X c cf k W true r) (hr2 : ∀ X k W, GX X c cf k W → HypS X c cf k W true r2)
    (he : ∀ X k W, GX X c cf k W → Hyp X c cf k W e) (hi : ∀ X k W, GX X c cf k W → ∀ xs, ckBs k true ifs xs = true → xs.length ≤ 1 → PTs X xs (rd c (pX (α := Bool)) W (evTs cf ifs)))
    (h : ckE k w (.comp2 e t r t2 r2 ifs own) x = true) : Okf X c cf W w (.comp2 e t r t2 r2 ifs own) x ∧
      ∀ (i : Nat) (y : Str) (py spos : Pos), X.N[i]? = some y → X.env.scope.names.lookup y = some .local → swapsWith x (some (.Name y py)) spos.line X.env = pure true → PS X (.Assign [.Name y py] x spos) (tAsg (rd c (pF c) W (evE cf (.comp2 e t r t2 r2 ifs own))) (gName i)) := by
  obtain ⟨elt, tg, iter, tg2, iter2, cs, scope, pos, rfl⟩ := inv_comp2 h
  obtain ⟨h, h12⟩ := and2 (show ((own.all fun i => decide (i < k.N.length)) && ((tSlots t).all fun i => decide (i ∈ own)) && ((tSlots t2).all fun i => decide (i ∈ own)) && blkC k.N k.sc scope (own.map fun i => ((k.N[i]?).getD Str.empty, i)) && ckSrc k true r iter tg && !isSetE iter && ckT (k.inner scope) t tg &&
        ckSrc (k.inner scope) true r2 iter2 tg2 && !isSetE iter2 && ckT (k.inner scope) t2 tg2 && ckE (k.inner scope) false e elt && ckBs (k.inner scope) true ifs cs && decide (cs.length ≤ 1)) = true from h)
  obtain ⟨h, h11⟩ := and2 h
  obtain ⟨h, h10⟩ := and2 h
  obtain ⟨h, h9⟩ := and2 h
  obtain ⟨h, h8⟩ := and2 h
  obtain ⟨h, h7⟩ := and2 h
  obtain ⟨h, h6⟩ := and2 h
  obtain ⟨h, h5⟩ := and2 h
  obtain ⟨h, h4⟩ := and2 h
  obtain ⟨h, h3⟩ := and2 h
  obtain ⟨h, h2⟩ := and2 h
  obtain ⟨h0, h1⟩ := and2 h
  have hb := blkOk_by h3
  rw [← G.N, ← G.sc] at hb
  have ho : (own.map fun i => ((X.N[i]?).getD Str.empty, i)).map (·.2) = own := by
    rw [List.map_map]
    exact List.map_id'' (fun _ => rfl) own
  have g1 : ∀ i ∈ tSlots t, i ∈ own := fun i hi => of_decide_eq_true (List.all_eq_true.mp h1 i hi)
  have g2 : ∀ i ∈ tSlots t2, i ∈ own := fun i hi => of_decide_eq_true (List.all_eq_true.mp h2 i hi)
  have p := pe_lc2 (pos := pos) (vs1 := tSlots t2) G.calm G.nd (hr _ _ h4) hb (by rw [ho]; exact g2) (fun s H C cl fp => sT (gx_blk G s H scope cl C fp) t tg h6) (fun _ _ _ _ _ => pts_nil)
    (fun s H C cl fp => hr2 _ _ _ (gx_blk G s H scope cl C fp) iter2 tg2 h7) (fun s H C cl fp => sT (gx_blk G s H scope cl C fp) t2 tg2 h9) (fun s H C cl fp => hi _ _ _ (gx_blk G s H scope cl C fp) cs h11 (of_decide_eq_true h12))
    (fun s H C cl fp => PE.v0 (he _ _ _ (gx_blk G s H scope cl C fp) false elt h10).v) (folded (not1 h5)) (fun env => folded (not1 h8))
  rw [ho] at p
  refine ⟨⟨okT G (fun _ => rfl) (PE.imp p fun σ H Q h => rd_comp2 (tup_fits h6) (tup_fits h9) g1 g2 (rd_VF h)) (fun _ => rfl), PE.imp p fun σ H Q h => rd_comp2 (tup_fits h6) (tup_fits h9) g1 g2 h⟩, fun i y py spos hy hyl hsw => ?_⟩
  have p2 := ps_setLc2 (i := i) (y := y) (py := py) (pos := pos) (spos := spos) (vs1 := tSlots t2) G.calm G.nd hy hyl hsw (hr _ _ h4) hb (by rw [ho]; exact g2) (fun s H C cl fp => sT (gx_blk G s H scope cl C fp) t tg h6) (fun _ _ _ _ _ => pts_nil)
    (fun s H C cl fp => hr2 _ _ _ (gx_blk G s H scope cl C fp) iter2 tg2 h7) (fun s H C cl fp => sT (gx_blk G s H scope cl C fp) t2 tg2 h9) (fun s H C cl fp => hi _ _ _ (gx_blk G s H scope cl C fp) cs h11 (of_decide_eq_true h12))
    (fun s H C cl fp => PE.v0 (he _ _ _ (gx_blk G s H scope cl C fp) false elt h10).v) (folded (not1 h5)) (fun env => folded (not1 h8))
  rw [ho] at p2
  exact PS.imp p2 fun D σ H h => rd_comp2 (tup_fits h6) (tup_fits h9) g1 g2 h
end
end Mi
namespace Mi
open PySem L2
section
variable {c : Cc} {cf : Cfg}
/-- and, or: from the left -/
structure OkB (X : Cx) (c : Cc) (cf : Cfg) (W : WX) (w : Bool) (es : MEs) (xs : List Expr) : Prop where
  av : ∀ pos, PE X (.BoolOp .And xs pos) (rd c (pV c w) W (evAnd cf es))
  at' : ∀ pos, PW X (.BoolOp .And xs pos) (rd c (pX (α := Bool)) W (evTAnd cf es))
  ov : ∀ pos, PE X (.BoolOp .Or xs pos) (rd c (pV c w) W (evOr cf es))
  ot : ∀ pos, PW X (.BoolOp .Or xs pos) (rd c (pX (α := Bool)) W (evTOr cf es))
theorem PW.imp {X : Cx} {e : Expr} {t t' : TT} (h : PW X e t) (i : ∀ σ H Q, t' σ H Q → t σ H Q) : PW X e t' := ⟨fun wh pins s σ H Q I q => h.run wh pins s σ H Q I (i σ H Q q)⟩
theorem PTs.imp {X : Cx} {e : List Expr} {t t' : TT} (h : PTs X e t) (i : ∀ σ H Q, t' σ H Q → t σ H Q) : PTs X e t' := ⟨fun pins s σ H Q I q => h.run pins s σ H Q I (i σ H Q q)⟩
theorem okB1 {X : Cx} {W : WX} {w : Bool} {e : ME} {x : Expr} (h : Okx X c cf W w e x) : OkB X c cf W w (.cons false e .nil) [x] where
  av := fun pos => pe_one h.v
  at' := fun pos => PW.imp (pw_and1 h.t) fun σ H Q h => rdT_and1 h
  ov := fun pos => pe_one h.v
  ot := fun pos => PW.imp (pw_or1 h.t) fun σ H Q h => rdT_or1 h
theorem okBc {X : Cx} {k : Ck} {W : WX} {w : Bool} {e e2 : ME} {st : Bool} {r : MEs} {x y : Expr} {ys : List Expr} (G : GX X c cf k W) (h : Okx X c cf W w e x) (hr : OkB X c cf W w (.cons st e2 r) (y :: ys)) : OkB X c cf W w (.cons false e (.cons st e2 r)) (x :: y :: ys) where
  av := fun pos => PE.imp (pe_andT h.v (hr.av pos)) fun σ H Q h => by
    have h := rd_and h
    rw [G.K] at h
    exact h
  at' := fun pos => PW.imp (pw_and h.t (hr.at' pos)) fun σ H Q h => rdT_and h
  ov := fun pos => PE.imp (pe_orT h.v (hr.ov pos)) fun σ H Q h => by
    have h := rd_or h
    rw [G.K] at h
    exact h
  ot := fun pos => PW.imp (pw_or h.t (hr.ot pos)) fun σ H Q h => rdT_or h
theorem isEmpty_no {α : Type} {xs : List α} (h : (!xs.isEmpty) = true) : xs ≠ [] := by
  rintro rfl
  cases h
mutual
theorem sE : ∀ (e : ME) (X : Cx) (k : Ck) (W : WX), GX X c cf k W → Hyp X c cf k W e
  | .var i, X, k, W, G => fun w x h => nd_var G h
  | .bor i, X, k, W, G => fun w x h => nd_bor G h
  | .cst d, X, k, W, G => fun w x h => nd_cst G h
  | .glo g, X, k, W, G => fun w x h => nd_glo G h
  | .tup es, X, k, W, G => fun w x h => nd_tup G (sEs es X k W G) h
  | .lst es, X, k, W, G => fun w x h => (nd_lst G (sEs es X k W G) h).o
  | .op o a b, X, k, W, G => fun w x h => (nd_op G (sE a X k W G) (sE b X k W G) h).o
  | .chain o1 o2 a b e, X, k, W, G => fun w x h => nd_chain G (sE a X k W G) (sE b X k W G) (sE e X k W G) h
  | .neg a, X, k, W, G => fun w x h => nd_neg G (sE a X k W G) h
  | .notE a, X, k, W, G => fun w x h => nd_not G (sE a X k W G) h
  | .andE es, X, k, W, G => fun w x h => by
    cases x <;> first | (cases h; done) | skip
    rename_i o xs p
    cases o <;> first | (cases h; done) | skip
    obtain ⟨h1, h2⟩ := and2 (show (ckBs k w es xs && !xs.isEmpty) = true from h)
    have z := sBs es X k W G w xs h1 (isEmpty_no h2)
    exact ⟨z.av p, (z.at' p).pt⟩
  | .orE es, X, k, W, G => fun w x h => by
    cases x <;> first | (cases h; done) | skip
    rename_i o xs p
    cases o <;> first | (cases h; done) | skip
    obtain ⟨h1, h2⟩ := and2 (show (ckBs k w es xs && !xs.isEmpty) = true from h)
    have z := sBs es X k W G w xs h1 (isEmpty_no h2)
    exact ⟨z.ov p, (z.ot p).pt⟩
  | .ite t a b, X, k, W, G => fun w x h => nd_ite G (sE t X k W G) (sE a X k W G) (sE b X k W G) h
  | .isN n a, X, k, W, G => fun w x h => nd_isN G (sE a X k W G) h
  | .ix a i, X, k, W, G => fun w x h => nd_ix G (sE a X k W G) (sE i X k W G) h
  | .sl a lo hi, X, k, W, G => fun w x h => (nd_sl G (sE a X k W G) (sO lo X k W G) (sO hi X k W G) h).o
  | .rev a, X, k, W, G => fun w x h => nd_rev G (sE a X k W G) h
  | .call f es, X, k, W, G => fun w x h => nd_call G (sEs es X k W G) h
  | .lend f es, X, k, W, G => fun w x h => nd_lend G (sWs es X k W G) h
  | .callK f es es2 ks, X, k, W, G => fun w x h => nd_callK G (sEs es X k W G) (sKs es2 X k W G) h
  | .bi b a, X, k, W, G => fun w x h => (nd_bi G (sE a X k W G) h).o
  | .isi a o ts, X, k, W, G => fun w x h => nd_isi G (sE a X k W G) h
  | .comp e t r ifs own, X, k, W, G => fun w x h => (nd_comp G (sSrc r X k W G true) (sE e) (sTs' ifs) h).1.o
  | .mk q es, X, k, W, G => fun w x h => nd_mk G (by
      cases es with
      | nil => exact fun e h => nomatch h
      | cons st e0 r => exact fun e h => by cases h; exact sE _ X k W G) h
  | .mkK q e, X, k, W, G => fun w x h => by cases x <;> cases h
  | .idx tp a e, X, k, W, G => fun w x h => nd_idx G (sE a X k W G) (sE e X k W G) h
  | .comp2 e t r t2 r2 ifs own, X, k, W, G => fun w x h => (nd_comp2 G (sSrc r X k W G true) (fun X k W G => sSrc r2 X k W G true) (sE e) (sTs' ifs) h).1.o
  | .attr f a, X, k, W, G => fun w x h => nd_attr G (sE a X k W G) h
  | .boxed f e, X, k, W, G => fun w x h => nd_boxed G (by
      cases e <;> intro g es h <;> first | (cases h; done) | skip
      cases h
      exact sEs _ X k W G) h
theorem sEs : ∀ (es : MEs) (X : Cx) (k : Ck) (W : WX), GX X c cf k W → ∀ xs, ckEs k es xs = true → PA X xs (rd c (pL c) W (evEs cf es))
  | .nil, X, k, W, G => fun xs h => by
    cases xs with
    | nil => exact PA.imp pa_nil fun σ H Q h => rd_nil h
    | cons _ _ => cases h
  | .cons st e r, X, k, W, G => fun xs h => by
    cases xs with
    | nil => cases st <;> cases h
    | cons x xs =>
      cases st with
      | false =>
        obtain ⟨h, h3⟩ := and2 (show (!isStar x && ckE k false e x && ckEs k r xs) = true from h)
        obtain ⟨h1, h2⟩ := and2 h
        exact PA.imp (pa_cons (PE.v0 (sE e X k W G false x h2).v) (sEs r X k W G xs h3) (star_ns (not1 h1))) fun σ H Q h => rd_cons h
      | true =>
        cases x <;> first | (cases h; done) | skip
        rename_i x p
        obtain ⟨h1, h2⟩ := and2 (show (ckE k true e x && ckEs k r xs) = true from h)
        exact PA.imp (StX.pa_star (PE.v1 (sE e X k W G true x h1).v) (sEs r X k W G xs h2) rfl) fun σ H Q h => by
          have h := rd_star h
          rw [G.K] at h
          exact h
theorem sKs : ∀ (es : MEs) (X : Cx) (k : Ck) (W : WX), GX X c cf k W → ∀ kws, ckKs k es kws = true → PK X kws (rd c (pL c) W (evEs cf es))
  | .nil, X, k, W, G => fun kws h => by
    cases kws with
    | nil => exact PK.imp pk_nil fun σ H Q h => rd_nil h
    | cons _ _ => cases h
  | .cons st e r, X, k, W, G => fun kws h => by
    cases kws with
    | nil => cases st <;> cases h
    | cons x kws =>
      obtain ⟨a, x, p⟩ := x
      cases st <;> cases a <;> first | (cases h; done) | skip
      obtain ⟨h2, h3⟩ := and2 (show (ckE k false e x && ckKs k r kws) = true from h)
      exact PK.imp (pk_cons (PE.v0 (sE e X k W G false x h2).v) (sKs r X k W G kws h3)) fun σ H Q h => rd_cons h
theorem sWs : ∀ (es : MEs) (X : Cx) (k : Ck) (W : WX), GX X c cf k W → ∀ xs, ckWs k es xs = true → PA X xs (rd c (pL0 c) W (evEs cf es))
  | .nil, X, k, W, G => fun xs h => by
    cases xs with
    | nil => exact PA.imp pa_nil fun σ H Q h => rd_nil0 h
    | cons _ _ => cases h
  | .cons st e r, X, k, W, G => fun xs h => by
    cases xs with
    | nil => cases st <;> cases h
    | cons x xs =>
      cases st with
      | false =>
        obtain ⟨h, h3⟩ := and2 (show (!isStar x && ckE k true e x && ckWs k r xs) = true from h)
        obtain ⟨h1, h2⟩ := and2 h
        exact PA.imp (pa_cons (PE.v1 (sE e X k W G true x h2).v) (sWs r X k W G xs h3) (star_ns (not1 h1))) fun σ H Q h => rd_cons0 h
      | true => cases h
theorem sBs : ∀ (es : MEs) (X : Cx) (k : Ck) (W : WX), GX X c cf k W → ∀ w xs, ckBs k w es xs = true → xs ≠ [] → OkB X c cf W w es xs
  | .nil, X, k, W, G => fun w xs h hn => by
    cases xs with
    | nil => exact absurd rfl hn
    | cons _ _ => cases h
  | .cons st e r, X, k, W, G => fun w xs h hn => by
    cases xs with
    | nil => exact absurd rfl hn
    | cons x xs =>
      cases st with
      | true => cases h
      | false =>
        obtain ⟨h1, h2⟩ := and2 (show (ckE k w e x && ckBs k w r xs) = true from h)
        have z := sE e X k W G w x h1
        cases r with
        | nil =>
          cases xs with
          | nil => exact okB1 z
          | cons _ _ => cases h2
        | cons st2 e2 r2 =>
          cases xs with
          | nil => cases st2 <;> cases h2
          | cons y ys => exact okBc G z (sBs (.cons st2 e2 r2) X k W G w (y :: ys) h2 (fun z => nomatch z))
theorem sTs' : ∀ (es : MEs) (X : Cx) (k : Ck) (W : WX), GX X c cf k W → ∀ xs, ckBs k true es xs = true → xs.length ≤ 1 → PTs X xs (rd c (pX (α := Bool)) W (evTs cf es))
  | .nil, X, k, W, G => fun xs h hl => by
    cases xs with
    | nil => exact PTs.imp pts_nil fun σ H Q h => rdT_all0 h
    | cons _ _ => cases h
  | .cons st e r, X, k, W, G => fun xs h hl => by
    cases xs with
    | nil => cases st <;> cases h
    | cons x xs =>
      cases xs with
      | cons _ _ => simp at hl
      | nil =>
        cases st with
        | true => cases h
        | false =>
          obtain ⟨h1, h2⟩ := and2 (show (ckE k true e x && ckBs k true r []) = true from h)
          cases r with
          | nil => exact PTs.imp (pts_one (sE e X k W G true x h1).t) fun σ H Q h => rdT_all1 h
          | cons st2 _ _ => cases st2 <;> cases h2
theorem sO : ∀ (o : MO) (X : Cx) (k : Ck) (W : WX), GX X c cf k W → HypO X c cf k W o
  | .none, X, k, W, G => fun o h => by
    cases o with
    | none => exact PO.imp po_none fun σ H Q h => rd_on h
    | some _ => cases h
  | .some e, X, k, W, G => fun o h => by
    cases o with
    | none => cases h
    | some x => exact PO.imp (po_some (PE.v1 (sE e X k W G true x h).v)) fun σ H Q h => rd_o h
theorem sSrc : ∀ (r : MSrc) (X : Cx) (k : Ck) (W : WX), GX X c cf k W → ∀ w, HypS X c cf k W w r
  | .it e, X, k, W, G => fun w it tg h => PI.imp (pi_any (sE e X k W G w it h).v) fun σ H Q h => by
    have h := rdS_it h
    rw [G.K] at h
    exact h
  | .range a, X, k, W, G => fun w it tg h => by
    cases it <;> first | (cases h; done) | skip
    rename_i f es ks pos
    cases f <;> first | (cases h; done) | skip
    rename_i y p
    rcases es with _ | ⟨x, _ | ⟨_, _⟩⟩ <;> first | (cases h; done) | skip
    cases ks <;> first | (cases h; done) | skip
    obtain ⟨h, h4⟩ := and2 (show (decide (y = ("range" : Str)) && k.blt y && ckE k true a x && !isStar x) = true from h)
    obtain ⟨h, h3⟩ := and2 h
    obtain ⟨h1, h2⟩ := and2 h
    have h1 := of_decide_eq_true h1
    subst h1
    obtain ⟨hg, _, hm⟩ := blt_of G h2
    exact PI.imp (pi_range1 hg hm (pa_cons (PE.v1 (sE a X k W G true x h3).v) pa_nil (star_ns (not1 h4))) (star_ns (not1 h4))) fun σ H Q h => rdS_range h
  | .range2 a b, X, k, W, G => fun w it tg h => by
    cases it <;> first | (cases h; done) | skip
    rename_i f es ks pos
    cases f <;> first | (cases h; done) | skip
    rename_i y p
    rcases es with _ | ⟨x, _ | ⟨x2, _ | ⟨_, _⟩⟩⟩ <;> first | (cases h; done) | skip
    cases ks <;> first | (cases h; done) | skip
    obtain ⟨h, h6⟩ := and2 (show (decide (y = ("range" : Str)) && k.blt y && ckE k true a x && ckE k true b x2 && !isStar x && !isStar x2) = true from h)
    obtain ⟨h, h5⟩ := and2 h
    obtain ⟨h, h4⟩ := and2 h
    obtain ⟨h, h3⟩ := and2 h
    obtain ⟨h1, h2⟩ := and2 h
    have h1 := of_decide_eq_true h1
    subst h1
    obtain ⟨hg, _, hm⟩ := blt_of G h2
    have e1 := star_ns (env := X.env) (r := [x2]) (not1 h5)
    have e2 := star_ns (env := X.env) (r := []) (not1 h6)
    exact PI.imp (pi_range2 hg hm (pa_cons (PE.v1 (sE a X k W G true x h3).v) (pa_cons (PE.v1 (sE b X k W G true x2 h4).v) pa_nil e2) e1) (by rw [e1, e2]; rfl) e2) fun σ H Q h => rdS_range2 h
  | .enum a, X, k, W, G => fun w it tg h => by
    cases it <;> first | (cases h; done) | skip
    rename_i f es ks pos
    cases f <;> first | (cases h; done) | skip
    rename_i y p
    rcases es with _ | ⟨x, _ | ⟨_, _⟩⟩ <;> first | (cases h; done) | skip
    cases ks <;> first | (cases h; done) | skip
    cases tg <;> first | (cases h; done) | skip
    obtain ⟨h, h4⟩ := and2 (show (decide (y = ("enumerate" : Str)) && k.blt y && ckE k w a x && !isStar x) = true from h)
    obtain ⟨h, h3⟩ := and2 h
    obtain ⟨h1, h2⟩ := and2 h
    have h1 := of_decide_eq_true h1
    subst h1
    obtain ⟨hg, _, hm⟩ := blt_of G h2
    exact PI.imp (pi_enumA hg hm (pa_cons (sE a X k W G w x h3).v pa_nil (star_ns (not1 h4))) (star_ns (not1 h4))) fun σ H Q h => by
      have h := rdS_enum h
      rw [G.K] at h
      exact h
  | .zip3 a b d, X, k, W, G => fun w it tg h => by
    cases it <;> first | (cases h; done) | skip
    rename_i f es ks pos
    cases f <;> first | (cases h; done) | skip
    rename_i y p
    rcases es with _ | ⟨x, _ | ⟨x2, _ | ⟨x3, _ | ⟨_, _⟩⟩⟩⟩ <;> first | (cases h; done) | skip
    cases ks <;> first | (cases h; done) | skip
    cases tg <;> first | (cases h; done) | skip
    obtain ⟨h, h8⟩ := and2 (show (decide (y = ("zip" : Str)) && k.blt y && ckE k w a x && ckE k w b x2 && ckE k w d x3 && !isStar x && !isStar x2 && !isStar x3) = true from h)
    obtain ⟨h, h7⟩ := and2 h
    obtain ⟨h, h6⟩ := and2 h
    obtain ⟨h, h5⟩ := and2 h
    obtain ⟨h, h4⟩ := and2 h
    obtain ⟨h, h3⟩ := and2 h
    obtain ⟨h1, h2⟩ := and2 h
    have h1 := of_decide_eq_true h1
    subst h1
    obtain ⟨hg, _, hm⟩ := blt_of G h2
    have e1 := star_ns (env := X.env) (r := [x2, x3]) (not1 h6)
    have e2 := star_ns (env := X.env) (r := [x3]) (not1 h7)
    have e3 := star_ns (env := X.env) (r := []) (not1 h8)
    exact PI.imp (pi_zip3 hg hm (pa_cons (sE a X k W G w x h3).v (pa_cons (sE b X k W G w x2 h4).v (pa_cons (sE d X k W G w x3 h5).v pa_nil e3) e2) e1) e1 (by rw [e2, e3]; rfl)) fun σ H Q h => by
      have h := rdS_zip3 h
      rw [G.K] at h
      exact h
  | .zip a b, X, k, W, G => fun w it tg h => by
    cases it <;> first | (cases h; done) | skip
    rename_i f es ks pos
    cases f <;> first | (cases h; done) | skip
    rename_i y p
    rcases es with _ | ⟨x, _ | ⟨x2, _ | ⟨_, _⟩⟩⟩ <;> first | (cases h; done) | skip
    cases ks <;> first | (cases h; done) | skip
    cases tg <;> first | (cases h; done) | skip
    obtain ⟨h, h6⟩ := and2 (show (decide (y = ("zip" : Str)) && k.blt y && ckE k w a x && ckE k w b x2 && !isStar x && !isStar x2) = true from h)
    obtain ⟨h, h5⟩ := and2 h
    obtain ⟨h, h4⟩ := and2 h
    obtain ⟨h, h3⟩ := and2 h
    obtain ⟨h1, h2⟩ := and2 h
    have h1 := of_decide_eq_true h1
    subst h1
    obtain ⟨hg, _, hm⟩ := blt_of G h2
    have e1 := star_ns (env := X.env) (r := [x2]) (not1 h5)
    have e2 := star_ns (env := X.env) (r := []) (not1 h6)
    exact PI.imp (pi_zip2 hg hm (pa_cons (sE a X k W G w x h3).v (pa_cons (sE b X k W G w x2 h4).v pa_nil e2) e1) e1 (by rw [e2]; rfl)) fun σ H Q h => by
      have h := rdS_zip h
      rw [G.K] at h
      exact h
end
end
end Mi
namespace Mi
open PySem L2
section
variable {c : Cc} {cf : Cfg} {W : WX} {σ σ' σ1 σ2 : L2.St} {H H1 H2 H' : Hp} {N N0 : Addr → Prop} {s s' s1 s2 : Env} {b : Bx} {D : Ends}
/-- what stays from here to there -/
structure FrK (c : Cc) (H : Hp) (σ : L2.St) (s : Env) (H' : Hp) : Prop where
  kp : ∀ a o, c.β ≠ some a → ¬ IsOwn σ s a → H a = some o → H' a = some o
  fr : ∀ a, H' a = none → H a = none
structure Fr (c : Cc) (H : Hp) (σ : L2.St) (s : Env) (H' : Hp) (σ' : L2.St) (s' : Env) : Prop extends FrK c H σ s H' where
  ow : ∀ a, IsOwn σ' s' a → IsOwn σ s a ∨ H a = none
theorem Keep.frk (k : Keep c H H') : FrK c H σ s H' := ⟨fun a o h _ e => k.kp a o h e, k.fr⟩
theorem Fr.refl : Fr c H σ s H σ s := ⟨⟨fun _ _ _ _ h => h, fun _ h => h⟩, fun _ h => .inl h⟩
theorem Fr.transK (f : Fr c H σ s H1 σ1 s1) (g : FrK c H1 σ1 s1 H2) : FrK c H σ s H2 :=
  ⟨fun a o hb hn h => g.kp a o hb (fun z => (f.ow a z).elim hn fun e => by rw [e] at h; cases h) (f.kp a o hb hn h), fun a h => f.fr a (g.fr a h)⟩
theorem Fr.trans (f : Fr c H σ s H1 σ1 s1) (g : Fr c H1 σ1 s1 H2 σ2 s2) : Fr c H σ s H2 σ2 s2 :=
  ⟨f.transK g.toFrK, fun a z => (g.ow a z).elim (f.ow a) fun e => .inr (f.fr a e)⟩
theorem Keep.frl (k : Keep c H H') : Fr c H σ s H' σ s := ⟨k.frk, fun _ z => .inl z⟩
/-- how a statement ends -/
def OutS (c : Cc) (N0 : Addr → Prop) (W : WX) (D : Ends) (σ : L2.St) (H : Hp) (s : Env) : Res (Flow × Env) → Prop
  | .ok (.nx, s') b => ∀ σ' H', Rel c H' N0 σ' s' → BoxAt c H' b → Fr c H σ s H' σ' s' → D.nx σ' H'
  | .ok (.bk, s') b => ∀ σ' H', Rel c H' N0 σ' s' → BoxAt c H' b → Fr c H σ s H' σ' s' → D.bk σ' H'
  | .ok (.ct, s') b => ∀ σ' H', Rel c H' N0 σ' s' → BoxAt c H' b → Fr c H σ s H' σ' s' → D.ct σ' H'
  | .ok (.rt d, _) b => ∀ v H', FrK c H σ s H' → BoxAt c H' b → Rep c H' N0 d v → D.rt v H'
  | .ex k as b => ∀ cls dd σ' H', FrK c H σ s H' → BoxAt c H' b → c.exAt k as cls dd H' → W cls dd σ' H'
  | .no => False
theorem OutS.later {r : Res (Flow × Env)} (h : OutS c N0 W D σ H s r) (f : Fr c H σ s H1 σ1 s1) : OutS c N0 W D σ1 H1 s1 r := by
  cases r with
  | ok p b =>
    obtain ⟨fl, s'⟩ := p
    cases fl with
    | rt d => exact fun v H' g B r => h v H' (f.transK g) B r
    | _ => exact fun σ' H' R B g => h σ' H' R B (f.trans g)
  | ex k as b => exact fun cls dd σ' H' g B e => h cls dd σ' H' (f.transK g) B e
  | no => exact h
theorem OutS.bd {α γ : Type} {Rp : Hp → α → γ → Prop} {m : M α} {f : α → M (Flow × Env)} (h : OutS c N0 W D σ H s ((m.bd f) b)) :
    Out c Rp σ H W (fun v H1 => ∃ x b1, Keep c H H1 ∧ BoxAt c H1 b1 ∧ Rp H1 x v ∧ OutS c N0 W D σ H s (f x b1)) (m b) := by
  unfold M.bd at h
  cases e : m b with
  | ok x b1 =>
    rw [e] at h
    exact fun v H1 k B r => ⟨x, b1, k, B, r, h⟩
  | ex k as b1 =>
    rw [e] at h
    exact fun cls dd H' k B x => h cls dd σ H' k.frk B x
  | no =>
    rw [e] at h
    exact h
theorem OutS.bdK {α γ : Type} {Rp : Hp → α → γ → Prop} {m : M α} {f : α → M (Flow × Env)} (h : OutS c N0 W D σ H s ((m.bd f) b)) (k1 : Keep c H H1) :
    Out c Rp σ H1 W (fun v H2 => ∃ x b1, Keep c H1 H2 ∧ BoxAt c H2 b1 ∧ Rp H2 x v ∧ OutS c N0 W D σ H s (f x b1)) (m b) := by
  unfold M.bd at h
  cases e : m b with
  | ok x b1 =>
    rw [e] at h
    exact fun v H1 k B r => ⟨x, b1, k, B, r, h⟩
  | ex k as b1 =>
    rw [e] at h
    exact fun cls dd H' k B x => h cls dd σ H' (k1.trans k).frk B x
  | no =>
    rw [e] at h
    exact h
theorem OutS.ofObd {α : Type} {o : Option α} {f : α → M (Flow × Env)} (h : OutS c N0 W D σ H s ((M.bd (M.ofO o) f) b)) : ∃ x, o = some x ∧ OutS c N0 W D σ H s (f x b) := by
  cases o with
  | some x => exact ⟨x, rfl, h⟩
  | none => exact h.elim
/-- a reading of a statement -/
def rdS (c : Cc) (N0 : Addr → Prop) (W : WX) (m : Env → M (Flow × Env)) : TS := fun D σ H => ∃ s b, Rel c H N0 σ s ∧ BoxAt c H b ∧ OutS c N0 W D σ H s (m s b)
theorem rd_seq {a : MS} {r : MSs} (h : rdS c N0 W (exSs cf (.cons a r)) D σ H) : tSeq (rdS c N0 W (exS cf a)) (rdS c N0 W (exSs cf r)) D σ H := by
  obtain ⟨s, b, R, B, h⟩ := h
  refine ⟨s, b, R, B, ?_⟩
  have h : OutS c N0 W D σ H s (((exS cf a s).bd fun p => (match p.1 with | .nx => exSs cf r p.2 | _ => M.ret p)) b) := h
  unfold M.bd at h
  cases e : exS cf a s b with
  | no => rw [e] at h; exact h
  | ex k as b1 => rw [e] at h; exact h
  | ok p b1 =>
    rw [e] at h
    obtain ⟨fl, s1⟩ := p
    cases fl with
    | nx => exact fun σ1 H1 R1 B1 f => ⟨s1, b1, R1, B1, OutS.later h f⟩
    | rt d => exact h
    | bk => exact h
    | ct => exact h
theorem rd_snil (h : rdS c N0 W (exSs cf .nil) D σ H) : tNext D σ H := by
  obtain ⟨s, b, R, B, h⟩ := h
  exact h σ H R B .refl
theorem rd_pass (h : rdS c N0 W (exS cf .pass) D σ H) : tNext D σ H := by
  obtain ⟨s, b, R, B, h⟩ := h
  exact h σ H R B .refl
theorem rd_brk (h : rdS c N0 W (exS cf .brk) D σ H) : tBreak D σ H := by
  obtain ⟨s, b, R, B, h⟩ := h
  exact h σ H R B .refl
theorem rd_cont (h : rdS c N0 W (exS cf .cont) D σ H) : tCont D σ H := by
  obtain ⟨s, b, R, B, h⟩ := h
  exact h σ H R B .refl
theorem rd_ret {e : ME} (h : rdS c N0 W (exS cf (.ret e)) D σ H) : tRet (rd c (pE c) W (evE cf e)) D σ H := by
  obtain ⟨s, b, R, B, h⟩ := h
  refine ⟨N0, s, b, R, B, Out.mono (OutS.bd (Rp := fun H' => pE c H H' N0 (Nof N0 σ s)) h) fun v H1 ⟨x, b1, k1, B1, r1, h1⟩ => ?_⟩
  exact h1 v H1 k1.frk B1 (r1.sub fun _ => .inl)
theorem rd_retN (h : rdS c N0 W (exS cf .retN) D σ H) : tRetN D σ H := by
  obtain ⟨s, b, R, B, h⟩ := h
  exact h .non H Keep.refl.frk B rfl
theorem rd_if {t : ME} {a b : MSs} (h : rdS c N0 W (exS cf (.ite t a b)) D σ H) : tIfS (rd c (pX (α := Bool)) W (evT cf t)) (rdS c N0 W (exSs cf a)) (rdS c N0 W (exSs cf b)) D σ H := by
  obtain ⟨s, b, R, B, h⟩ := h
  refine ⟨N0, s, b, R, B, Out.mono (OutS.bd (Rp := fun H' => pX (α := Bool) H H' N0 (Nof N0 σ s)) h) fun v H1 ⟨x, b1, k1, B1, r1, h1⟩ => ?_⟩
  obtain rfl : x = v := r1
  cases x with
  | true => exact ⟨s, b1, R.keep k1, B1, OutS.later h1 k1.frl⟩
  | false => exact ⟨s, b1, R.keep k1, B1, OutS.later h1 k1.frl⟩
theorem rd_expr {e : ME} (h : rdS c N0 W (exS cf (.expr e)) D σ H) : tDrop (rd c (pE c) W (evE cf e)) D σ H := by
  obtain ⟨s, b, R, B, h⟩ := h
  refine ⟨N0, s, b, R, B, Out.mono (OutS.bd (Rp := fun H' => pE c H H' N0 (Nof N0 σ s)) h) fun v H1 ⟨x, b1, k1, B1, r1, h1⟩ => ?_⟩
  exact h1 σ H1 (R.keep k1) B1 k1.frl
theorem own_not0 (R : Rel c H N0 σ s) {a : Addr} (h : IsOwn σ s a) : ¬ N0 a := by
  obtain ⟨i, d, e1, e2⟩ := h
  obtain ⟨a', e3, _, n⟩ := R.ow i d e1
  rw [e2] at e3
  cases e3
  exact n
theorem asg_eq (t : MT) (d : Mi.D) (s : Env) : (match t with | .slot i => setOwn false i d s | t => if false = true then none else bindT t d s) = bindT t d s := by
  cases t with
  | slot i =>
    have e : slOf false d = .vl d := by cases d <;> rfl
    show (if i < s.length then some (s.set i (slOf false d)) else none) = (if i < s.length then some (s.set i (.vl d)) else none)
    rw [e]
  | tup ts => rfl
theorem rd_asg {t : MT} {e : ME} (h : rdS c N0 W (exS cf (.asg false t e)) D σ H) : tAsg (rd c (pE c) W (evE cf e)) (rdG c t) D σ H := by
  obtain ⟨s, b, R, B, h⟩ := h
  refine ⟨N0, s, b, R, B, Out.mono (OutS.bd (Rp := fun H' => pE c H H' N0 (Nof N0 σ s)) h) fun v H1 ⟨x, b1, k1, B1, r1, h1⟩ => ?_⟩
  obtain ⟨s', e1, h2⟩ := h1.ofObd
  have e1 : bindT t x s = some s' := (asg_eq t x s).symm.trans e1
  have R1 := R.keep k1
  refine ⟨N0, s, x, s', R1, r1.j, e1, fun σ' R' hl hs hn => h2 σ' H1 R' B1 ⟨k1.frk, fun a z => ?_⟩⟩
  exact (hn a (.inr z)).elim (fun z2 => absurd z2 (own_not0 R' z)) .inl
/-- a new list of one's own is stored -/
theorem Rel.setOw {ds : List Mi.D} {v : V} (R : Rel c H N0 σ s) (k : Keep c H H1) (r : RepF c H H1 (Nof N0 σ s) (.lst ds) v) (i : Nat) (hi : i < s.length) :
    Rel c H1 N0 (σ.set i (some v)) (s.set i (.ow (.lst ds))) ∧ ∀ a, IsOwn (σ.set i (some v)) (s.set i (.ow (.lst ds))) a → IsOwn σ s a ∨ H a = none := by
  obtain ⟨p, xs, rfl, hp, h1, q⟩ := r
  have hσ : i < σ.length := by rw [← R.len]; exact hi
  have own : ∀ a, IsOwn (σ.set i (some (.ref p))) (s.set i (.ow (.lst ds))) a → IsOwn σ s a ∨ a = p := by
    rintro a ⟨j, d, e1, e2⟩
    rcases get_set e1 with ⟨rfl, e⟩ | ⟨ne, e1⟩
    · rw [List.getElem?_set_self hσ] at e2
      cases e2
      exact .inr rfl
    · rw [List.getElem?_set_ne (Ne.symm ne)] at e2
      exact .inl ⟨j, d, e1, e2⟩
  have sub : ∀ a, Nof N0 (σ.set i (some (.ref p))) (s.set i (.ow (.lst ds))) a → Nof N0 σ s a ∨ H a = none := fun a z => by
    rcases z with z | z
    · exact .inl (.inl z)
    · rcases own a z with z | z
      · exact .inl (.inr z)
      · exact .inr (by rw [z]; exact hp)
  have bet : ∀ x, c.β = some x → Nof N0 (σ.set i (some (.ref p))) (s.set i (.ow (.lst ds))) x := fun x z => .inl (R.bet x z)
  refine ⟨⟨by simpa using R.len, fun j e h => ?_, fun j e h => ?_, fun j l e f a g1 g2 g3 g4 => ?_, fun a z e => R.dom a z (k.fr a e), R.bet⟩, fun a z => (own a z).imp id fun e => by rw [e]; exact hp⟩
  · rcases get_set h with ⟨rfl, e⟩ | ⟨ne, h⟩
    · cases e
    · obtain ⟨w, h2, h3⟩ := R.vl j e h
      refine ⟨w, by rw [List.getElem?_set_ne (Ne.symm ne)]; exact h2, ?_⟩
      exact (Rep.anti sub _ _ h3).keep k bet
  · rcases get_set h with ⟨rfl, e⟩ | ⟨ne, h⟩
    · cases e
      refine ⟨p, List.getElem?_set_self hσ, ⟨xs, h1, q.sub fun a z => ?_⟩, fun z => R.dom p z hp⟩
      rcases z with z | z
      · exact .inl (.inl z)
      · exact (own a z).imp .inr id
    · obtain ⟨a, h2, h3, h4⟩ := R.ow j e h
      refine ⟨a, by rw [List.getElem?_set_ne (Ne.symm ne)]; exact h2, ?_, h4⟩
      cases e with
      | lst es =>
        obtain ⟨ys, h5, h6⟩ := h3
        exact ⟨ys, k.kp a _ (fun z => h4 (R.bet a z)) h5, (RepL.anti sub _ _ h6).keep k bet⟩
      | _ => exact h3.elim
  · rcases get_set g1 with ⟨rfl, e1⟩ | ⟨n1, g1'⟩
    · rcases get_set g2 with ⟨rfl, e2⟩ | ⟨n2, g2'⟩
      · rfl
      · exfalso
        rw [List.getElem?_set_self hσ] at g3
        cases g3
        rw [List.getElem?_set_ne (Ne.symm n2)] at g4
        exact R.domN (.inr ⟨l, f, g2', g4⟩) hp
    · rcases get_set g2 with ⟨rfl, e2⟩ | ⟨n2, g2'⟩
      · exfalso
        rw [List.getElem?_set_self hσ] at g4
        cases g4
        rw [List.getElem?_set_ne (Ne.symm n1)] at g3
        exact R.domN (.inr ⟨j, e, g1', g3⟩) hp
      · rw [List.getElem?_set_ne (Ne.symm n1)] at g3
        rw [List.getElem?_set_ne (Ne.symm n2)] at g4
        exact R.dis j l e f a g1' g2' g3 g4
theorem Rel.setF {d : Mi.D} {v : V} (R : Rel c H N0 σ s) (k : Keep c H H1) (r : RepF c H H1 (Nof N0 σ s) d v) (i : Nat) (hi : i < s.length) :
    Rel c H1 N0 (σ.set i (some v)) (s.set i (slOf true d)) ∧ ∀ a, IsOwn (σ.set i (some v)) (s.set i (slOf true d)) a → IsOwn σ s a ∨ H a = none := by
  cases d with
  | lst ds => exact R.setOw k r i hi
  | _ => exact ⟨(R.keep k).setVl (d := _) r i hi, fun a z => .inl (own_set (y := .vl _) (fun _ z => nomatch z) z)⟩
theorem rd_asgO {i : Nat} {e : ME} (h : rdS c N0 W (exS cf (.asg true (.slot i) e)) D σ H) : tAsg (rd c (pF c) W (evE cf e)) (gName i) D σ H := by
  obtain ⟨s, b, R, B, h⟩ := h
  refine ⟨N0, s, b, R, B, Out.mono (OutS.bd (Rp := fun H' => pF c H H' N0 (Nof N0 σ s)) h) fun v H1 ⟨x, b1, k1, B1, r1, h1⟩ => ?_⟩
  obtain ⟨s', e1, h2⟩ := h1.ofObd
  have e1 : (if i < s.length then some (s.set i (slOf true x)) else none) = some s' := e1
  split at e1
  · rename_i hi
    cases e1
    obtain ⟨R', own⟩ := R.setF k1 r1 i hi
    exact h2 _ H1 R' B1 ⟨k1.frk, own⟩
  · cases e1
theorem rd_asgC {i : Nat} {e : ME} (h : rdS c N0 W (exS cf (.asg false (.slot i) e)) D σ H) : tAsg (rd c (pF c) W (evE cf e)) (gName i) D σ H := by
  obtain ⟨s, b, R, B, h⟩ := h
  refine ⟨N0, s, b, R, B, Out.mono (OutS.bd (Rp := fun H' => pF c H H' N0 (Nof N0 σ s)) h) fun v H1 ⟨x, b1, k1, B1, r1, h1⟩ => ?_⟩
  obtain ⟨s', e1, h2⟩ := h1.ofObd
  have e1 : bindT (.slot i) x s = some s' := (asg_eq (.slot i) x s).symm.trans e1
  have e1 : (if i < s.length then some (s.set i (.vl x)) else none) = some s' := e1
  split at e1
  · rename_i hi
    cases e1
    have r2 := RepF.rep r1 fun a z => R.domN z
    exact h2 _ H1 ((R.keep k1).setVl r2 i hi) B1 ⟨k1.frk, fun a z => .inl (own_set (y := .vl _) (fun _ z => nomatch z) z)⟩
  · cases e1
/-- no longer one's own -/
theorem Rel.share {i : Nat} {d : Mi.D} (R : Rel c H N0 σ s) (hi : s[i]? = some (.ow d)) : Rel c H N0 σ (s.set i (.vl d)) ∧ ∀ a, IsOwn σ (s.set i (.vl d)) a → IsOwn σ s a ∧ σ[i]? ≠ some (some (.ref a)) := by
  have own : ∀ a, IsOwn σ (s.set i (.vl d)) a → IsOwn σ s a ∧ σ[i]? ≠ some (some (.ref a)) := by
    rintro a ⟨j, e, e1, e2⟩
    rcases get_set e1 with ⟨_, e⟩ | ⟨ne, e1⟩
    · cases e
    · exact ⟨⟨j, e, e1, e2⟩, fun z => ne (R.dis j i e d a e1 hi e2 z)⟩
  have sub : ∀ a, Nof N0 σ (s.set i (.vl d)) a → Nof N0 σ s a := fun a z => z.imp id fun z => (own a z).1
  refine ⟨⟨by simpa using R.len, fun j e h => ?_, fun j e h => ?_, fun j l e f a h1 h2 h3 h4 => ?_, R.dom, R.bet⟩, own⟩
  · rcases get_set h with ⟨rfl, e⟩ | ⟨ne, h⟩
    · cases e
      obtain ⟨a, h1, h2, h3⟩ := R.ow j d hi
      refine ⟨.ref a, h1, ?_⟩
      cases d with
      | lst ds =>
        obtain ⟨xs, h4, h5⟩ := h2
        exact ⟨a, xs, rfl, fun z => z.elim h3 fun z => (own a z).2 h1, h4, h5.sub sub⟩
      | _ => exact h2.elim
    · obtain ⟨w, h1, h2⟩ := R.vl j e h
      exact ⟨w, h1, h2.sub sub⟩
  · rcases get_set h with ⟨rfl, e⟩ | ⟨ne, h⟩
    · cases e
    · obtain ⟨a, h1, h2, h3⟩ := R.ow j e h
      exact ⟨a, h1, h2.sub sub, h3⟩
  · rcases get_set h1 with ⟨_, e⟩ | ⟨n1, h1⟩
    · cases e
    rcases get_set h2 with ⟨_, e⟩ | ⟨n2, h2⟩
    · cases e
    exact R.dis j l e f a h1 h2 h3 h4
theorem rd_share {i : Nat} {r : MSs} (h : rdS c N0 W (exSs cf (.cons (.share i) r)) D σ H) : rdS c N0 W (exSs cf r) D σ H := by
  obtain ⟨s, b, R, B, h⟩ := h
  have h : OutS c N0 W D σ H s (((exS cf (.share i) s).bd fun p => (match p.1 with | .nx => exSs cf r p.2 | _ => M.ret p)) b) := h
  have e0 : exS cf (.share i) s = (match s[i]? with
    | some (.ow d) => M.ret (.nx, s.set i (.vl d))
    | some (.vl _) => M.ret (.nx, s)
    | _ => M.no) := rfl
  rw [e0] at h
  cases e : s[i]? with
  | none => rw [e] at h; exact h.elim
  | some x =>
    rw [e] at h
    cases x with
    | no => exact h.elim
    | vl d => exact ⟨s, b, R, B, h⟩
    | ow d =>
      obtain ⟨R', own⟩ := R.share e
      exact ⟨_, b, R', B, OutS.later h ⟨⟨fun _ _ _ _ z => z, fun _ z => z⟩, fun a z => .inl (own a z).1⟩⟩
theorem Rel.drop (R : Rel c H N0 σ s) (i : Nat) : Rel c H N0 σ (s.set i .no) ∧ ∀ a, IsOwn σ (s.set i .no) a → IsOwn σ s a := by
  have own : ∀ a, IsOwn σ (s.set i .no) a → IsOwn σ s a := by
    rintro a ⟨j, e, e1, e2⟩
    rcases get_set e1 with ⟨_, e⟩ | ⟨ne, e1⟩
    · cases e
    · exact ⟨j, e, e1, e2⟩
  have sub : ∀ a, Nof N0 σ (s.set i .no) a → Nof N0 σ s a := fun a z => z.imp id fun z => own a z
  refine ⟨⟨by simpa using R.len, fun j e h => ?_, fun j e h => ?_, fun j l e f a h1 h2 h3 h4 => ?_, R.dom, R.bet⟩, own⟩
  · rcases get_set h with ⟨_, e⟩ | ⟨ne, h⟩
    · cases e
    · obtain ⟨w, h1, h2⟩ := R.vl j e h
      exact ⟨w, h1, h2.sub sub⟩
  · rcases get_set h with ⟨_, e⟩ | ⟨ne, h⟩
    · cases e
    · obtain ⟨a, h1, h2, h3⟩ := R.ow j e h
      exact ⟨a, h1, h2.sub sub, h3⟩
  · rcases get_set h1 with ⟨_, e⟩ | ⟨n1, h1⟩
    · cases e
    rcases get_set h2 with ⟨_, e⟩ | ⟨n2, h2⟩
    · cases e
    exact R.dis j l e f a h1 h2 h3 h4
theorem Rel.drops (R : Rel c H N0 σ s) : ∀ is : List Nat, Rel c H N0 σ (s.kill is) ∧ ∀ a, IsOwn σ (s.kill is) a → IsOwn σ s a
  | [] => ⟨R, fun _ z => z⟩
  | i :: is =>
    let ⟨R1, h1⟩ := R.drops is
    let ⟨R2, h2⟩ := R1.drop i
    ⟨R2, fun a z => h1 a (h2 a z)⟩
theorem rd_for {fl : Bool} {t : MT} {r : MSrc} {dead : List Nat} {bd : MSs} (hK : fl = true → isTupM t = true) (h : rdS c N0 W (exS cf (.for_ t r dead bd)) D σ H) :
    tFor (rd c (pS c false fl) W (evSrc cf r)) (rdG c t) (rdS c N0 W (exSs cf bd)) D σ H := by
  obtain ⟨s, b, R, B, h⟩ := h
  refine ⟨N0, s, b, R, B, Out.mono (OutS.bd (Rp := fun H' => pS c false fl H H' N0 (Nof N0 σ s)) h) fun J H1 ⟨ds, b1, k1, B1, S, h1⟩ => ?_⟩
  obtain ⟨n, G, Y, hn, walk, hG, hY⟩ := S
  have R1 := R.keep k1
  have keepN : ∀ {σi si Hi}, Fr c H1 σ s Hi σi si → KeepN (selN false N0 (Nof N0 σ s)) H1 Hi := fun {σi si Hi} f a o hn h => f.kp a o (fun z => hn (.inl (R.bet a z))) (fun z => hn (.inr z)) h
  refine for_it walk (fun i σi Hi => ∃ si bi, Rel c Hi N0 σi si ∧ BoxAt c Hi bi ∧ Fr c H1 σ s Hi σi si ∧ OutS c N0 W D σ H s (forGo t dead (exSs cf bd) (ds.drop i) si bi)) ⟨s, b1, R1, B1, .refl, h1⟩ ?_ ?_ ?_
  · rintro i σi Hi hi ⟨si, bi, Ri, Bi, f, h2⟩
    exact hG Hi (keepN f)
  · rintro i x σi Hi Hx hi ⟨si, bi, Ri, Bi, f, h2⟩ y
    have hid : i < ds.length := by rw [← hn]; exact hi
    have ed : ds.drop i = ds[i] :: ds.drop (i + 1) := List.drop_eq_getElem_cons hid
    rw [ed] at h2
    obtain ⟨ext, rx⟩ := hY i Hi x Hx ds[i] (Nof N0 σi si) (keepN f) (fun a z => by
      rcases z with z | z
      · exact .inl (.inl z)
      · exact (f.ow a z).imp .inr id) (fun a z => Ri.domN z) Ri.betN (by simp [hid]) y
    have KE := Keep.ofSame (c := c) ext
    obtain ⟨s1, eb, h3⟩ := h2.ofObd
    refine ⟨N0, si, ds[i], s1, Ri.keep KE, rx.toT hK, eb, fun σ2 R2 hl2 hs2 hn2 => ?_⟩
    refine ⟨s1, bi, R2, Bi.same ext, ?_⟩
    have f2 : Fr c H1 σ s Hx σ2 s1 := f.trans ⟨KE.frk, fun a z => (hn2 a (.inr z)).elim (fun z2 => absurd z2 (own_not0 R2 z)) .inl⟩
    have f0 : Fr c H σ s H1 σ s := k1.frl
    unfold M.bd at h3
    cases e : exSs cf bd s1 bi with
    | no => rw [e] at h3; exact h3
    | ex k as b1 =>
      rw [e] at h3
      exact fun cls dd σ' H' g B x => h3 cls dd σ' H' ((f0.trans f2).transK g) B x
    | ok p b2 =>
      rw [e] at h3
      obtain ⟨fl, s2⟩ := p
      have go : OutS c N0 W D σ H s (forGo t dead (exSs cf bd) (ds.drop (i + 1)) (s2.kill dead) b2) → ∀ σ' H', Rel c H' N0 σ' s2 → BoxAt c H' b2 → Fr c Hx σ2 s1 H' σ' s2 →
          ∃ si bi, Rel c H' N0 σ' si ∧ BoxAt c H' bi ∧ Fr c H1 σ s H' σ' si ∧ OutS c N0 W D σ H s (forGo t dead (exSs cf bd) (ds.drop (i + 1)) si bi) := fun h4 σ' H' R' B' g => by
        obtain ⟨R3, own⟩ := R'.drops dead
        have f3 := f2.trans g
        exact ⟨_, b2, R3, B', ⟨f3.toFrK, fun a z => f3.ow a (own a z)⟩, h4⟩
      cases fl with
      | nx => exact go h3
      | ct => exact go h3
      | rt d => exact fun v H' g B r => h3 v H' ((f0.trans f2).transK g) B r
      | bk => exact fun σ' H' R' B' g => h3 σ' H' R' B' ((f0.trans f2).trans g)
  · rintro σi Hi ⟨si, bi, Ri, Bi, f, h2⟩
    have ed : ds.drop n = [] := List.drop_eq_nil_of_le (by omega)
    rw [ed] at h2
    have f0 : Fr c H σ s H1 σ s := k1.frl
    exact h2 σi Hi Ri Bi (f0.trans f)
/-- one's own list rewritten -/
theorem Rel.write {i : Nat} {ds ds' : List Mi.D} {a : Addr} {ys : List V} (R : Rel c H N0 σ s) (hi : s[i]? = some (.ow (.lst ds))) (ha : σ[i]? = some (some (.ref a))) (q : RepL c H (Nof N0 σ s) ds' ys) :
    Rel c (upd H a (.lst ys)) N0 σ (s.set i (.ow (.lst ds'))) ∧ ∀ x, IsOwn σ (s.set i (.ow (.lst ds'))) x → IsOwn σ s x := by
  have na : ¬ N0 a := own_not0 R ⟨i, _, hi, ha⟩
  have ia : IsOwn σ s a := ⟨i, _, hi, ha⟩
  have own : ∀ x, IsOwn σ (s.set i (.ow (.lst ds'))) x → IsOwn σ s x := by
    rintro x ⟨j, e, e1, e2⟩
    rcases get_set e1 with ⟨rfl, _⟩ | ⟨ne, e1⟩
    · exact ⟨j, _, hi, e2⟩
    · exact ⟨j, e, e1, e2⟩
  have sub : ∀ x, Nof N0 σ (s.set i (.ow (.lst ds'))) x → Nof N0 σ s x := fun x z => z.imp id fun z => own x z
  have k : KeepN (Nof N0 σ s) H (upd H a (.lst ys)) := fun x o n h => by rw [upd_ne (fun z => n (by rw [z]; exact .inr ia))]; exact h
  have hl : i < s.length := by
    by_cases h : i < s.length
    · exact h
    · rw [List.getElem?_eq_none (by omega)] at hi; cases hi
  refine ⟨⟨by simpa using R.len, fun j e h => ?_, fun j e h => ?_, fun j l e f x g1 g2 g3 g4 => ?_, fun x z e => ?_, R.bet⟩, own⟩
  · rcases get_set h with ⟨_, e⟩ | ⟨ne, h⟩
    · cases e
    · obtain ⟨w, h1, h2⟩ := R.vl j e h
      exact ⟨w, h1, (Rep.keepN k _ _ h2).sub sub⟩
  · rcases get_set h with ⟨rfl, e⟩ | ⟨ne, h⟩
    · cases e
      exact ⟨a, ha, ⟨ys, upd_same, (RepL.keepN k _ _ q).sub sub⟩, na⟩
    · obtain ⟨x, h1, h2, h3⟩ := R.ow j e h
      refine ⟨x, h1, ?_, h3⟩
      have nx : x ≠ a := fun z => ne (R.dis j i e _ a h hi (by rw [← z]; exact h1) ha)
      cases e with
      | lst es =>
        obtain ⟨zs, h4, h5⟩ := h2
        exact ⟨zs, by rw [upd_ne nx]; exact h4, (RepL.keepN k _ _ h5).sub sub⟩
      | _ => exact h2.elim
  · have u : ∀ (m : Nat) (g : Mi.D), (s.set i (Sl.ow (.lst ds')))[m]? = some (Sl.ow g) → ∃ g' : Mi.D, s[m]? = some (Sl.ow g') := fun m g hm => by
      rcases get_set hm with ⟨rfl, _⟩ | ⟨_, hm⟩
      · exact ⟨_, hi⟩
      · exact ⟨g, hm⟩
    obtain ⟨e', g1⟩ := u j e g1
    obtain ⟨f', g2⟩ := u l f g2
    exact R.dis j l e' f' x g1 g2 g3 g4
  · rw [upd_ne (fun y => na (by rw [← y]; exact z))] at e
    exact R.dom x z e
theorem rd_app {i : Nat} {e : ME} (h : rdS c N0 W (exS cf (.app i e)) D σ H) : tDrop (tBM c.K "list" rAppend (tVar i) (tCons (rd c (pE c) W (evE cf e)) tNil)) D σ H := by
  obtain ⟨s, b, R, B, h⟩ := h
  have e0 : exS cf (.app i e) s = (match s[i]? with
    | some (.ow (.lst xs)) => (evE cf e s).bd fun v => if xs.length < lineMax then M.ret (.nx, s.set i (.ow (.lst (xs ++ [v])))) else M.no
    | _ => M.no) := rfl
  rw [e0] at h
  cases ei : s[i]? with
  | none => rw [ei] at h; exact h.elim
  | some x =>
    rw [ei] at h
    cases x with
    | no => exact h.elim
    | vl d => exact h.elim
    | ow d =>
      cases d <;> first | exact h.elim | skip
      rename_i ds
      obtain ⟨a, h1, ⟨xs, h2, q⟩, n0⟩ := R.ow i _ ei
      refine ⟨.ref a, h1, .inl ⟨rfl, xs, .inl (.of h2)⟩, N0, s, b, R, B, Out.mono (OutS.bd (Rp := fun H' => pE c H H' N0 (Nof N0 σ s)) h) fun v H1 ⟨x, b1, k1, B1, r1, h3⟩ => ?_⟩
      have R1 := R.keep k1
      have ba : c.β ≠ some a := fun z => n0 (R.bet a z)
      have ha1 : H1 a = some (.lst xs) := k1.kp a _ ba h2
      have hl : ds.length < lineMax := Classical.byContradiction fun z => by rw [if_neg z] at h3; exact h3.elim
      rw [if_pos hl] at h3
      obtain ⟨R2, own⟩ := R1.write ei h1 (RepL.append (q.keep k1 R.betN) (.one r1))
      refine ⟨a, xs, v, rfl, rfl, ha1, ?_, h3 σ _ R2 ?_ ⟨⟨fun y o hb hn e => ?_, fun y e => ?_⟩, fun y z => .inl (own y z)⟩⟩
      · have := q.length
        have := line_ok (Nat.le_of_lt hl)
        have e := sizeLine_eq
        unfold lineMax at hl
        omega
      · cases b1 with
        | none => trivial
        | some p =>
          obtain ⟨i1, i2, i3⟩ := p
          obtain ⟨y, z1, z2⟩ := B1
          exact ⟨y, z1, by rw [upd_ne (fun z => ba (by rw [← z]; exact z1))]; exact z2⟩
      · rw [upd_ne (fun z => hn (by rw [z]; exact ⟨i, _, ei, h1⟩))]
        exact k1.kp y o hb e
      · by_cases ey : y = a
        · rw [ey, upd_same] at e; cases e
        · rw [upd_ne ey] at e
          exact k1.fr y e
theorem Rel.setSl {o : Bool} {d : Mi.D} {v : V} (R : Rel c H N0 σ s) (k : Keep c H H1) (r : RepF c H H1 (Nof N0 σ s) d v) (i : Nat) (hi : i < s.length) :
    Rel c H1 N0 (σ.set i (some v)) (s.set i (slOf o d)) ∧ ∀ a, IsOwn (σ.set i (some v)) (s.set i (slOf o d)) a → IsOwn σ s a ∨ H a = none := by
  cases o with
  | true => exact R.setF k r i hi
  | false =>
    have e : slOf false d = .vl d := by cases d <;> rfl
    rw [e]
    exact ⟨(R.keep k).setVl (RepF.rep r fun a z => R.domN z) i hi, fun a z => .inl (own_set (y := .vl _) (fun _ z => nomatch z) z)⟩
/-- more is protected: what was not there -/
theorem Rel.prot {Z : Addr → Prop} (R : Rel c H N0 σ s) (k : Keep c H H1) (hz : ∀ a, Z a → H a = none) (h1 : ∀ a, Z a → H1 a ≠ none) : Rel c H1 (fun a => N0 a ∨ Z a) σ s := by
  have sub : ∀ a, Nof (fun a => N0 a ∨ Z a) σ s a → Nof N0 σ s a ∨ H a = none := by
    rintro a ((z | z) | z)
    · exact .inl (.inl z)
    · exact .inr (hz a z)
    · exact .inl (.inr z)
  have bet : ∀ x, c.β = some x → Nof (fun a => N0 a ∨ Z a) σ s x := fun x z => .inl (.inl (R.bet x z))
  refine ⟨R.len, fun j e h => ?_, fun j e h => ?_, R.dis, fun a z => ?_, fun x z => .inl (R.bet x z)⟩
  · obtain ⟨w, h2, h3⟩ := R.vl j e h
    exact ⟨w, h2, (Rep.anti sub _ _ h3).keep k bet⟩
  · obtain ⟨a, h2, h3, h4⟩ := R.ow j e h
    refine ⟨a, h2, ?_, fun z => z.elim h4 fun z => R.domN (.inr ⟨j, e, h, h2⟩) (hz a z)⟩
    cases e with
    | lst es =>
      obtain ⟨ys, h5, h6⟩ := h3
      exact ⟨ys, k.kp a _ (fun z => h4 (R.bet a z)) h5, (RepL.anti sub _ _ h6).keep k bet⟩
    | _ => exact h3.elim
  · exact z.elim (fun z e => R.dom a z (k.fr a e)) (h1 a)
theorem RepF.sub {N' : Addr → Prop} {d : Mi.D} {v : V} (r : RepF c H H1 N d v) (h : ∀ a, N' a → N a) : RepF c H H1 N' d v := by
  cases d with
  | lst ds =>
    obtain ⟨a, xs, e, n, h1, q⟩ := r
    exact ⟨a, xs, e, n, h1, q.sub fun b z => z.imp (h b) id⟩
  | _ => exact Rep.sub (N := N) r h
/-- new, if it is to be one's own -/
def RepO (c : Cc) (o : Bool) (H H1 : Hp) (N : Addr → Prop) (d : Mi.D) (v : V) : Prop := match o with
  | true => RepF c H H1 N d v
  | false => Rep c H1 N d v
abbrev pO (c : Cc) (o : Bool) : Hp → Hp → (Addr → Prop) → (Addr → Prop) → Mi.D → V → Prop := fun H H' _ N d v => RepO c o H H' N d v
theorem RepO.sub {o : Bool} {N' : Addr → Prop} {d : Mi.D} {v : V} (r : RepO c o H H1 N d v) (h : ∀ a, N' a → N a) : RepO c o H H1 N' d v := by
  cases o with
  | true => exact RepF.sub (N := N) r h
  | false => exact Rep.sub (N := N) r h
theorem Rel.setSlO {o : Bool} {d : Mi.D} {v : V} (R : Rel c H N0 σ s) (k : Keep c H H1) (r : RepO c o H H1 (Nof N0 σ s) d v) (i : Nat) (hi : i < s.length) :
    Rel c H1 N0 (σ.set i (some v)) (s.set i (slOf o d)) ∧ ∀ a, IsOwn (σ.set i (some v)) (s.set i (slOf o d)) a → IsOwn σ s a ∨ H a = none := by
  cases o with
  | true => exact R.setF k r i hi
  | false =>
    have e : slOf false d = .vl d := by cases d <;> rfl
    rw [e]
    exact ⟨(R.keep k).setVl r i hi, fun a z => .inl (own_set (y := .vl _) (fun _ z => nomatch z) z)⟩
theorem rd_par {i j : Nat} {oi oj : Bool} {e f : ME} (h : rdS c N0 W (exS cf (.par i j oi oj e f)) D σ H) : tPar i j (tCons (rd c (pO c oi) W (evE cf e)) (tCons (rd c (pO c oj) W (evE cf f)) tNil)) D σ H := by
  obtain ⟨s, b, R, B, h⟩ := h
  refine ⟨N0, s, b, R, B, Out.mono (OutS.bd (Rp := fun H' => pO c oi H H' N0 (Nof N0 σ s)) h) fun v H1 ⟨x, b1, k1, B1, r1, h1⟩ => ?_⟩
  -- the first slot, if it can be stored
  have hi : i < s.length ∨ ¬ i < s.length := Classical.em _
  rcases hi with hi | hi
  · obtain ⟨RA, ownA⟩ := R.setSlO (o := oi) k1 r1 i hi
    have RP := R.prot (Z := fun a => IsOwn (σ.set i (some v)) (s.set i (slOf oi x)) a ∧ H a = none) k1 (fun a z => z.2) fun a z => RA.domN (.inr z.1)
    refine ⟨_, s, b1, RP, B1, Out.mono (OutS.bdK (Rp := fun H' => pO c oj H1 H' (fun a => N0 a ∨ (IsOwn (σ.set i (some v)) (s.set i (slOf oi x)) a ∧ H a = none)) (Nof (fun a => N0 a ∨ (IsOwn (σ.set i (some v)) (s.set i (slOf oi x)) a ∧ H a = none)) σ s)) h1 k1) fun w H2 ⟨y, b2, k2, B2, r2, h2⟩ => ?_⟩
    obtain ⟨s1, e1, h3⟩ := h2.ofObd
    obtain ⟨s2, e2, h4⟩ := h3.ofObd
    have e1 : (if i < s.length then some (s.set i (slOf oi x)) else none) = some s1 := e1
    rw [if_pos hi] at e1
    cases e1
    have e2 : (if j < (s.set i (slOf oi x)).length then some ((s.set i (slOf oi x)).set j (slOf oj y)) else none) = some s2 := e2
    split at e2
    · rename_i hj
      cases e2
      have r2' : RepO c oj H1 H2 (Nof N0 (σ.set i (some v)) (s.set i (slOf oi x))) y w := RepO.sub r2 fun a z => by
        rcases z with z | z
        · exact .inl (.inl z)
        · exact (ownA a z).elim .inr fun q => .inl (.inr ⟨z, q⟩)
      obtain ⟨RB, ownB⟩ := RA.setSlO (o := oj) k2 r2' j hj
      refine ⟨v, w, rfl, h4 _ H2 RB B2 ⟨(k1.trans k2).frk, fun a z => ?_⟩⟩
      rcases ownB a z with z | z
      · exact ownA a z
      · exact .inr (k1.fr a z)
    · cases e2
  · refine ⟨N0, s, b1, R.keep k1, B1, Out.mono (OutS.bd (Rp := fun H' => pO c oj H1 H' N0 (Nof N0 σ s)) (OutS.later h1 k1.frl)) fun w H2 ⟨y, b2, k2, B2, r2, h2⟩ => ?_⟩
    obtain ⟨s1, e1, h3⟩ := h2.ofObd
    have e1 : (if i < s.length then some (s.set i (slOf oi x)) else none) = some s1 := e1
    rw [if_neg hi] at e1
    cases e1
theorem rd_bset {i : Nat} {x e : ME} (h : rdS c N0 W (exS cf (.bset i x e)) D σ H) : tAsg (rd c (pE c) W (evE cf e)) (gSub (tVar i) (rd c (pW c) W (evE cf x)) rSetL) D σ H := by
  obtain ⟨s, b, R, B, h⟩ := h
  refine ⟨N0, s, b, R, B, Out.mono (OutS.bd (Rp := fun H' => pE c H H' N0 (Nof N0 σ s)) h) fun v H1 ⟨d, b1, k1, B1, r1, h1⟩ => ?_⟩
  cases ei : s[i]? with
  | none => rw [ei] at h1; exact h1.elim
  | some z =>
    rw [ei] at h1
    cases z with
    | no => exact h1.elim
    | ow _ => exact h1.elim
    | vl bx =>
      cases bx <;> first | exact h1.elim | skip
      obtain ⟨w, hσ, p, hp, rfl⟩ := R.vl i _ ei
      refine ⟨.ref p, hσ, N0, s, b1, R.keep k1, B1, Out.mono (OutS.bdK (Rp := fun H' => pW c H1 H' N0 (Nof N0 σ s)) h1 k1) fun y H2 ⟨kd, b2, k2, B2, r2, h2⟩ => ?_⟩
      obtain ⟨kk, ek, h3⟩ := h2.ofObd
      obtain ⟨vv, ev, h4⟩ := h3.ofObd
      cases d <;> first | (cases ev; done) | skip
      cases ev
      cases kd <;> first | (cases ek; done) | skip
      cases ek
      rw [show v = V.int vv from r1, show y = V.int kk from r2]
      have R2 := (R.keep k1).keep k2
      cases b2 with
      | none => exact h4.elim
      | some q =>
        obtain ⟨i0, j0, l0⟩ := q
        obtain ⟨p', e2, h5⟩ := id B2
        rw [hp] at e2
        cases e2
        have fin : ∀ ys, (∀ σ' H', Rel c H' N0 σ' s → (∃ a, c.β = some a ∧ H' a = some (.lst ys)) → Fr c H σ s H' σ' s → D.nx σ' H') → D.nx σ (upd H2 p (.lst ys)) := fun ys hq => by
          have K3 : Keep c H2 (upd H2 p (.lst ys)) := ⟨fun a o hb h => by rw [upd_ne (fun z => hb (by rw [z]; exact hp))]; exact h, fun a h => by
            by_cases ea : a = p
            · rw [ea, upd_same] at h; cases h
            · rwa [upd_ne ea] at h⟩
          exact hq σ _ (R2.keep K3) ⟨p, hp, upd_same⟩ ((k1.trans k2).trans K3).frl
        have h4 : OutS c N0 W D σ H s (match L2.ixN 3 kk with
          | some 0 => .ok (.nx, s) (some (vv, j0, l0))
          | some 1 => .ok (.nx, s) (some (i0, vv, l0))
          | some 2 => .ok (.nx, s) (some (i0, j0, vv))
          | _ => .no) := h4
        cases ej : L2.ixN 3 kk with
        | none => rw [ej] at h4; exact h4.elim
        | some j =>
          rw [ej] at h4
          refine ⟨p, _, kk, j, rfl, rfl, h5, ej, ?_⟩
          rcases j with _ | _ | _ | j
          · exact fin _ h4
          · exact fin _ h4
          · exact fin _ h4
          · exact h4.elim
theorem rd_seti {i : Nat} {x e : ME} (h : rdS c N0 W (exS cf (.seti i x e)) D σ H) : tAsg (rd c (pE c) W (evE cf e)) (gSub (tVar i) (rd c (pW c) W (evE cf x)) rSetL) D σ H := by
  obtain ⟨s, b, R, B, h⟩ := h
  refine ⟨N0, s, b, R, B, Out.mono (OutS.bd (Rp := fun H' => pE c H H' N0 (Nof N0 σ s)) h) fun v H1 ⟨d, b1, k1, B1, r1, h1⟩ => ?_⟩
  cases ei : s[i]? with
  | none => rw [ei] at h1; exact h1.elim
  | some z =>
    rw [ei] at h1
    cases z with
    | no => exact h1.elim
    | vl _ => exact h1.elim
    | ow l =>
      cases l <;> first | exact h1.elim | skip
      rename_i ds
      obtain ⟨a, hσ, ⟨xs, hx, q⟩, n0⟩ := R.ow i _ ei
      refine ⟨.ref a, hσ, N0, s, b1, R.keep k1, B1, Out.mono (OutS.bdK (Rp := fun H' => pW c H1 H' N0 (Nof N0 σ s)) h1 k1) fun y H2 ⟨kd, b2, k2, B2, r2, h2⟩ => ?_⟩
      obtain ⟨kk, ek, h3⟩ := h2.ofObd
      obtain ⟨j, ej, h4⟩ := h3.ofObd
      cases kd <;> first | (cases ek; done) | skip
      cases ek
      rw [show y = V.int kk from r2]
      have k12 := k1.trans k2
      have R2 := R.keep k12
      have ba : c.β ≠ some a := fun z => n0 (R.bet a z)
      have ha2 : H2 a = some (.lst xs) := k12.kp a _ ba hx
      have q2 := q.keep k12 R.betN
      obtain ⟨R3, own⟩ := R2.write ei hσ (RepL.set j q2 (r1.keep k2 R.betN))
      refine ⟨a, xs, kk, j, rfl, rfl, ha2, by rw [← q.length]; exact ej, h4 σ _ R3 ?_ ⟨⟨fun y o hb hn e => ?_, fun y e => ?_⟩, fun y z => .inl (own y z)⟩⟩
      · cases b2 with
        | none => trivial
        | some p =>
          obtain ⟨i1, i2, i3⟩ := p
          obtain ⟨y, z1, z2⟩ := B2
          exact ⟨y, z1, by rw [upd_ne (fun z => ba (by rw [← z]; exact z1))]; exact z2⟩
      · rw [upd_ne (fun z => hn (by rw [z]; exact ⟨i, _, ei, hσ⟩))]
        exact k12.kp y o hb e
      · by_cases ey : y = a
        · rw [ey, upd_same] at e; cases e
        · rw [upd_ne ey] at e
          exact k12.fr y e
end
end Mi
namespace Mi
open PySem PySem.Spec PyProof.Rows L2
/-- what is wanted behind a suite whose name goes -/
def endsAs (D : Ends) : Option Nat → Ends
  | none => D
  | some i => { nx := fun σ H => D.nx (σ.set i none) H, rt := D.rt, bk := fun σ H => D.bk (σ.set i none) H, ct := fun σ H => D.ct (σ.set i none) H }
def slotAs (a : Addr) (σ : L2.St) : Option Nat → L2.St
  | none => σ
  | some i => σ.set i (some (.ref a))
abbrev Cls : Type := Value × Option Nat × (Addr → Value → Option Addr → TS)
/-- what the clauses wish of an exception, one behind the other -/
def wHs (K : PySem.W.Frag) (Wo : WX) (D : Ends) : List Cls → WX
  | [] => Wo
  | (c, i, ts) :: r => fun cls d σ H => ∃ b, PySem.W.exmOne K cls c = some b ∧ (b = true → ∀ a, H a = none → ts a cls d (endsAs D i) (slotAs a σ i) H) ∧ (b = false → wHs K Wo D r cls d σ H)
abbrev SuiteOk (X : Cx) (b : Stmt) (bs : List Stmt) (ts : Addr → Value → Option Addr → TS) : Prop := ∀ (a : Addr) (oe : Obj) (cls : Value) (d : Option Addr) (pn : List (Addr × Obj)), Zc cls d oe → (∃ vs, oe.data = .fields vs) → PSs (X.suite a ((a, oe) :: pn)) (b :: bs) (ts a cls d)
inductive HsOk (X : Cx) : List ExceptHandler → List Cls → Prop
  | nil : HsOk X [] []
  | bare {x : Str} {c : Value} {ts : Addr → Value → Option Addr → TS} {b : Stmt} {bs : List Stmt} {p q : Pos} {hs : List ExceptHandler} {l : List Cls} (hc : Names X x c) (ok : SuiteOk X b bs ts) (r : HsOk X hs l) : HsOk X (.ExceptHandler (some (.Name x p)) none (b :: bs) q :: hs) ((c, none, ts) :: l)
  | named {x y : Str} {i : Nat} {c : Value} {ts : Addr → Value → Option Addr → TS} {b : Stmt} {bs : List Stmt} {p q : Pos} {hs : List ExceptHandler} {l : List Cls} (hc : Names X x c) (hi : X.N[i]? = some y) (hl : X.env.kindOf y = some .local) (ok : SuiteOk X b bs ts) (r : HsOk X hs l) : HsOk X (.ExceptHandler (some (.Name x p)) (some y) (b :: bs) q :: hs) ((c, some i, ts) :: l)
section
variable {X : Cx} {body : List Stmt} {h₀ : ExceptHandler} {hds : List ExceptHandler} {l : List Cls} {pos : Pos} {tb : WX → TS} {Wo : WX}
theorem ps_try_hs (hst : X.stack = X.env :: X.outer) (hfm : X.env.frame = some X.env.locals) (nd : X.N.Nodup) (tk : Takes X Wo)
    (hbd : ∀ (W : WX) (pn : List (Addr × Obj)) (xe : Value → Shared → Prop), Takes (X.tr pn xe) W → PassesOwn (model X.prog X.w) X.A X.env xe → PSs (X.tr pn xe) body (tb W)) (hh : HsOk X (h₀ :: hds) l) :
    PS X (.Try body (h₀ :: hds) [] [] pos) (fun D σ H => tb (wHs X.K Wo D l) D σ H) := by
  refine ⟨fun pins s σ H D I hw => ?_⟩
  have ok := I.ok
  have frm : X.A.frames = some (X.env :: X.outer) := ok.frames.trans (by rw [hst])
  have run := (hbd (wHs X.K Wo D l) (X.pn ++ pins) (fun e t1 => wpAny (model X.prog X.w) X.A (noteFrame e X.env) (fun _ t2 => wpAny (model X.prog X.w) X.A (setFlight e none) (fun _ t3 => wpAny (model X.prog X.w) X.A (handleBy e X.env (h₀ :: hds)) (SP X pins D) X.xe t3) X.xe t2) X.xe t1) (fun u t xx => ?_) PassesOwn.looking).run [] s σ H D (I.toTry _) hw
  · refine wpAny_Try_except (wpAny_mono run (fun fl t hsp => ?_) fun e t he => he)
    cases fl with
    | ret u =>
      obtain ⟨v, σ', H', J, r, q⟩ := hsp
      exact ⟨v, σ', H', J.ofTry ok, r, q⟩
    | next =>
      obtain ⟨σ', H', J, q⟩ := hsp
      exact wpAny_execs_nil ⟨σ', H', J.ofTry ok, q⟩
    | brk => exact let ⟨σ', H', J, q⟩ := hsp; ⟨σ', H', J.ofTry ok, q⟩
    | cont => exact let ⟨σ', H', J, q⟩ := hsp; ⟨σ', H', J.ofTry ok, q⟩
  · obtain ⟨a, B, sI, pins', σ', H', cls, d, rfl, J', nb, up, sky, na, os, ag, w⟩ := xx
    have J : Inv X pins σ' H' sI := J'.ofTry ok
    have sky2 : Sky B (X.env :: X.outer) a (Zc cls d) X.env.locals t.heap := hst ▸ sky
    refine Sky.land Zc.steady frm hfm sky2 fun h3 fl3 up3 => ?_
    have J3 : Inv X pins σ' H' { t with heap := h3 } := J.landed nb fl3.1 (up.trans up3) os ag
    obtain ⟨o3, v3, e3, z3, d3⟩ := fl3.there
    have apart : ∀ {h : Heap} {o : Obj} {vs : Array Value}, h.FunFrames B (X.env :: X.outer) → h.get? a = some o → o.data = .fields vs → a ∉ frs (X.env :: X.outer) := fun ff e dd hm => by
      obtain ⟨_, o', e', hnf⟩ := ff.mem hm
      rw [e] at e'
      cases e'
      exact hnf _ dd
    have nfr := apart fl3.2.2.1 e3 d3
    have nL : a ≠ X.env.locals := fun z => nfr (List.mem_filterMap.mpr ⟨X.env, List.mem_cons_self .., by rw [hfm, z]⟩)
    have nF : a ∉ X.fs := fun hm => by
      obtain ⟨e, he, q⟩ := List.mem_filterMap.mp hm
      exact nfr (List.mem_filterMap.mpr ⟨e, List.mem_cons_of_mem _ he, q⟩)
    have S3 := J3.suite e3 d3 na nL nF
    have tyL : ∀ {c : Value} {b : Bool}, PySem.W.exmOne X.K cls c = some b → _ := fun {c b} hb => PySem.W.exm_one (M := model X.prog X.w) (J3.kIn) (fun A Q E s k q => wpAny_typeOf_ref (k _ _ e3) (by rw [z3.1]; exact q) : PySem.W.Looks (model X.prog X.w) h3 (typeOf (.ref a)) cls) hb
    have look : ∀ {x : Str} {c : Value} {p : Pos} {Q : Value → Shared → Prop} {E : Value → Shared → Prop}, Names X x c → Q c { t with heap := h3 } → wpAny (model X.prog X.w) (X.A.mark (some (.ref a))) (eval (.Name x p) X.env) Q E { t with heap := h3 } := fun {x c p Q E} hc q => by
      obtain ⟨hg, hdbg, hm | ⟨hm, hv, hnn⟩⟩ := hc
      · exact ld_glob (X := X.suite a ((a, o3) :: (X.pn ++ pins))) S3 hg hm q hdbg
      · exact ld_blt (X := X.suite a ((a, o3) :: (X.pn ++ pins))) S3 hg hm hv q hnn hdbg
    have go : ∀ {hs : List ExceptHandler} {m : List Cls}, HsOk X hs m → wHs X.K Wo D m cls d σ' H' → wpAny (model X.prog X.w) X.A (handleBy (.ref a) X.env hs) (SP X pins D) X.xe { t with heap := h3 } := by
      intro hs m hk
      induction hk with
      | nil =>
        intro w
        refine wpAny_handleBy_nil ?_
        obtain ⟨_, _, _, oe, vs, T, oT, _, he, hz, hd, h1, _⟩ := id fl3
        have fin : wpAny (model X.prog X.w) X.A (setFlight (.ref a) X.env.frame) (fun _ t4 => wpAny (model X.prog X.w) X.A (throw (.ref a) : Sem PySem.Flow) (SP X pins D) X.xe t4) X.xe { t with heap := h3 } := by
          rw [hfm]
          exact HandSPX.setFlight_upZ fl3 fun h4 hh4 up4 => wpAny_throw (tk _ _ ⟨a, B, sI, pins, σ', H', cls, d, rfl, J, nb, (up.trans up3).trans up4, .inr (.inr (by rw [hst]; exact hh4)), na, os, ag, w⟩)
        unfold PySem.passOn
        refine wpAny_bind (wpAny_field he hd h1 ?_)
        rw [if_neg (show ¬ ((Value.ref T == Value.none) = true) by simp)]
        first
          | exact wpAny_bind (wpAny_pure (wpAny_bind fin))
          | exact wpAny_bind fin
      | @bare x c ts b bs p q hs2 m2 hc sok r ih =>
        intro w
        obtain ⟨yes, hb, w1, w2⟩ := w
        refine wpAny_handleBy_cons (codeAny_handlers_test (look hc ((tyL hb).here ?_))) (fun q => by cases q)
        cases yes with
        | false => exact ih (w2 rfl)
        | true =>
          refine codeAny_handlers_suite (HandSPX.lands_againZ fl3 fun h4 fl4 up4 => ?_)
          have J4 : Inv X pins σ' H' { t with heap := h4 } := J.landed nb fl4.1 ((up.trans up3).trans up4) os ag
          obtain ⟨o4, v4, e4, z4, d4⟩ := fl4.there
          refine wpAny_mono ((sok a o4 cls d (X.pn ++ pins) z4 ⟨_, d4⟩).run [] _ _ H' _ (J4.suite e4 d4 na nL nF) (w1 rfl a na)) (fun fl t6 hsp => ?_) (fun _ _ z => False.elim z)
          cases fl with
          | ret u => exact let ⟨v6, σ6, H6, S6, r6, q6⟩ := hsp; ⟨v6, σ6, H6, S6.unsuite ok, r6, q6⟩
          | next => exact let ⟨σ6, H6, S6, q6⟩ := hsp; ⟨σ6, H6, S6.unsuite ok, q6⟩
          | brk => exact let ⟨σ6, H6, S6, q6⟩ := hsp; ⟨σ6, H6, S6.unsuite ok, q6⟩
          | cont => exact let ⟨σ6, H6, S6, q6⟩ := hsp; ⟨σ6, H6, S6.unsuite ok, q6⟩
      | @named x y i c ts b bs p q hs2 m2 hc hi hl sok r ih =>
        intro w
        obtain ⟨yes, hb, w1, w2⟩ := w
        refine wpAny_handleBy_cons (codeAny_handlers_test (look hc ((tyL hb).here ?_))) (fun q => by cases q)
        cases yes with
        | false => exact ih (w2 rfl)
        | true =>
          refine codeAny_handlers_suite_as (HandSPX.lands_againZ fl3 fun h4 fl4 up4 => ?_)
          have J4 : Inv X pins σ' H' { t with heap := h4 } := J.landed nb fl4.1 ((up.trans up3).trans up4) os ag
          obtain ⟨o4, v4, e4, z4, d4⟩ := fl4.there
          refine store_ok (X := X.suite a ((a, o4) :: (X.pn ++ pins))) (v := .ref a) (J4.suite e4 d4 na nL nF) nd hi (.inl hl) rfl (fun t5 S5 => ?_) (.inr hl)
          refine wpAny_mono ((sok a o4 cls d (X.pn ++ pins) z4 ⟨_, d4⟩).run [] t5 _ H' _ S5 (w1 rfl a na)) (fun fl t6 hsp => ?_) (fun _ _ z => False.elim z)
          have gone : ∀ {σ6 : L2.St} {H6 : Hp} {Q : Shared → Prop}, Inv (X.suite a ((a, o4) :: (X.pn ++ pins))) [] σ6 H6 t6 → (∀ t7, Inv X pins (σ6.set i none) H6 t7 → Q t7) →
              wpAny (model X.prog X.w) X.A (do bindName X.env y .none; unbindBehindTheSuite X.env y q) (fun _ t7 => Q t7) X.xe t6 := fun S6 hq => gone_ok (S6.unsuite ok) nd hi hl hq
          cases fl with
          | ret u => exact let ⟨v6, σ6, H6, S6, r6, q6⟩ := hsp; gone S6 fun t7 J7 => ⟨v6, _, H6, J7, r6, q6⟩
          | next => exact let ⟨σ6, H6, S6, q6⟩ := hsp; gone S6 fun t7 J7 => ⟨_, H6, J7, q6⟩
          | brk => exact let ⟨σ6, H6, S6, q6⟩ := hsp; gone S6 fun t7 J7 => ⟨_, H6, J7, q6⟩
          | cont => exact let ⟨σ6, H6, S6, q6⟩ := hsp; gone S6 fun t7 J7 => ⟨_, H6, J7, q6⟩
    exact go hh w
end
end Mi
namespace Mi
open PySem
section
variable {α β γ : Type}
theorem bd_ret (a : α) (f : α → M β) : (M.ret a).bd f = f a := rfl
theorem bd_no (f : α → M β) : (M.no (α := α)).bd f = M.no := rfl
theorem ofO_some (a : α) : M.ofO (some a) = M.ret a := rfl
theorem ofO_none : M.ofO (none (α := α)) = M.no := rfl
theorem nex_ret (a : α) : (M.ret a).nex = M.ret a := rfl
theorem bd_assoc (m : M α) (f : α → M β) (g : β → M γ) : (m.bd f).bd g = m.bd fun a => (f a).bd g := by
  funext b
  simp only [M.bd]
  cases m b <;> rfl
theorem bd_ite {c : Prop} [Decidable c] (m n : M α) (f : α → M β) : (if c then m else n).bd f = if c then m.bd f else n.bd f := by
  split <;> rfl
theorem ret_inj {a b : α} (h : (M.ret a : M α) = M.ret b) : a = b := by
  have := congrFun h none
  cases this
  rfl
theorem bd_id (m : M α) : m.bd M.ret = m := by
  funext b
  simp only [M.bd]
  cases m b <;> rfl
theorem compGo_ret {f : D → M (Option D)} {g : D → Option D} : ∀ {ds : List D}, (∀ d ∈ ds, f d = M.ret (g d)) → compGo f ds = M.ret (ds.filterMap g)
  | [], _ => rfl
  | d :: ds, h => by
    rw [compGo, h d (List.mem_cons_self ..), bd_ret, compGo_ret fun x hx => h x (List.mem_cons_of_mem _ hx), bd_ret, List.filterMap_cons]
    cases g d <;> rfl
theorem compGo_map {f : D → M (Option D)} {g : D → D} {ds : List D} (h : ∀ d ∈ ds, f d = M.ret (some (g d))) : compGo f ds = M.ret (ds.map g) := by
  rw [compGo_ret h, List.filterMap_eq_map']
theorem bools_map (g : β → Bool) : ∀ (ds : List β), bools (ds.map fun d => .bl (g d)) = some (ds.map g)
  | [] => rfl
  | d :: ds => by simp [bools, bools_map g ds]
end
/-- what a def gives -/
def rtM (q : Flow × Env) : M D := match q.1 with
  | .rt v => M.ret v
  | .nx => M.ret .non
  | _ => M.no
theorem rtM_rt (v : D) (s : Env) : rtM (.rt v, s) = M.ret v := rfl
theorem rtM_nx (s : Env) : rtM (.nx, s) = M.ret .non := rfl
theorem asB_ret (d : D) : (M.ret d).asB = M.ofO (asB d) := rfl
theorem asB_no : (M.no (α := D)).asB = M.no := rfl
theorem truth_non : truth .non = some false := rfl
theorem truth_bl (b : Bool) : truth (.bl b) = some b := rfl
theorem truth_int (i : Int) : truth (.int i) = some (i != 0) := rfl
theorem truth_lst (xs : List D) : truth (.lst xs) = some (!xs.isEmpty) := rfl
theorem truth_tup (xs : List D) : truth (.tup xs) = some (!xs.isEmpty) := rfl
theorem asB_bl (b : Bool) : asB (.bl b) = some b := rfl
theorem asI_int (b : Int) : asI (.int b) = some b := rfl
theorem walk_lst (xs : List D) : walkOf (.lst xs) = some xs := rfl
theorem walk_tup (xs : List D) : walkOf (.tup xs) = some xs := rfl
theorem walk_str (x : Str) : walkOf (.str x) = some (strItems x) := rfl
theorem items_lst (xs : List D) : itemsOf (.lst xs) = some xs := rfl
theorem items_tup (xs : List D) : itemsOf (.tup xs) = some xs := rfl
theorem len_lst (xs : List D) : evBi .len (.lst xs) = some (.int xs.length) := rfl
theorem len_tup (xs : List D) : evBi .len (.tup xs) = some (.int xs.length) := rfl
theorem len_str (x : Str) : evBi .len (.str x) = some (.int x.cps.size) := rfl
theorem int_int (i : Int) : evBi .int (.int i) = some (.int i) := rfl
theorem int_bl (b : Bool) : evBi .int (.bl b) = some (.int (if b then 1 else 0)) := rfl
theorem abs_int (i : Int) : evBi .abs (.int i) = some (.int (if i < 0 then -i else i)) := rfl
theorem list_lst (xs : List D) : evBi .list (.lst xs) = some (.lst xs) := rfl
theorem list_tup (xs : List D) : evBi .list (.tup xs) = some (.lst xs) := rfl
theorem tuple_lst (xs : List D) : evBi .tuple (.lst xs) = some (.tup xs) := rfl
theorem tuple_tup (xs : List D) : evBi .tuple (.tup xs) = some (.tup xs) := rfl
theorem all_lst (xs : List D) : evBi .all (.lst xs) = (bools xs).map fun bs => .bl (bs.all id) := rfl
theorem any_lst (xs : List D) : evBi .any (.lst xs) = (bools xs).map fun bs => .bl (bs.any id) := rfl
theorem lt_int (i j : Int) : evOp .lt (.int i) (.int j) = some (.bl (decide (i < j))) := rfl
theorem le_int (i j : Int) : evOp .le (.int i) (.int j) = some (.bl (decide (i ≤ j))) := rfl
theorem gt_int (i j : Int) : evOp .gt (.int i) (.int j) = some (.bl (decide (j < i))) := rfl
theorem ge_int (i j : Int) : evOp .ge (.int i) (.int j) = some (.bl (decide (j ≤ i))) := rfl
theorem add_int (i j : Int) : evOp .add (.int i) (.int j) = some (.int (i + j)) := rfl
theorem sub_int (i j : Int) : evOp .sub (.int i) (.int j) = some (.int (i - j)) := rfl
theorem eq_int (i j : Int) : evOp .eq (.int i) (.int j) = some (.bl (i == j)) := rfl
theorem ne_int (i j : Int) : evOp .ne (.int i) (.int j) = some (.bl (!(i == j))) := rfl
theorem ix_lst (xs : List D) (i : Int) : ixM (.lst xs) (.int i) = M.ofO (L2.atI xs i) := rfl
theorem ix_tup (xs : List D) (i : Int) : ixM (.tup xs) (.int i) = M.ofO (L2.atI xs i) := rfl
theorem sl_lst (ns : List Int) (xs : List D) (l h : Option Int) : evSl ns (.lst xs) l h = some (.lst (cut xs l h)) := rfl
theorem sl_tup (ns : List Int) (xs : List D) (l h : Option Int) : evSl ns (.tup xs) l h = some (.tup (cut xs l h)) := rfl
theorem rev_tup (xs : List D) : evRev (.tup xs) = some (.tup xs.reverse) := rfl
theorem rev_lst (xs : List D) : evRev (.lst xs) = some (.lst xs.reverse) := rfl
theorem atI_nat {α : Type} (xs : List α) (k : Nat) : L2.atI xs (k : Int) = xs[k]? := by
  unfold L2.atI L2.ixN
  rw [if_pos (by omega)]
  by_cases h : (k : Int) < xs.length
  · rw [if_pos h]; rfl
  · rw [if_neg h, List.getElem?_eq_none (by omega)]; rfl
theorem at0 (x : D) (xs : List D) : L2.atI (x :: xs) 0 = some x := atI_nat _ 0
theorem at1 (x y : D) (xs : List D) : L2.atI (x :: y :: xs) 1 = some y := atI_nat _ 1
theorem at2 (x y z : D) (xs : List D) : L2.atI (x :: y :: z :: xs) 2 = some z := atI_nat _ 2
theorem isOw_vl (d : D) : (Sl.vl d).isOw = false := rfl
theorem isOw_ow (d : D) : (Sl.ow d).isOw = true := rfl
theorem isOw_no : Sl.no.isOw = false := rfl
theorem slOf_lst (b : Bool) (xs : List D) : slOf b (.lst xs) = if b then .ow (.lst xs) else .vl (.lst xs) := rfl
theorem slOf_tup (b : Bool) (xs : List D) : slOf b (.tup xs) = .vl (.tup xs) := rfl
theorem slOf_int (b : Bool) (i : Int) : slOf b (.int i) = .vl (.int i) := rfl
theorem slOf_bl (b : Bool) (i : Bool) : slOf b (.bl i) = .vl (.bl i) := rfl
theorem slOf_str (b : Bool) (i : Str) : slOf b (.str i) = .vl (.str i) := rfl
theorem slOf_non (b : Bool) : slOf b .non = .vl .non := rfl
theorem slOf_f (d : D) : slOf false d = .vl d := by cases d <;> rfl
theorem evs_nil (c : Cfg) (s : Env) : evTs c .nil s = M.ret true := rfl
section
variable {β : Type}
theorem comp_mapD {f : D → M (Option D)} {g : D → D} {ds : List D} {K : D → M β} (h : ∀ d ∈ ds, f d = M.ret (some (g d))) (hl : ds.length ≤ lineMax) :
    ((compGo f ds).nex.bd fun r => (if r.length ≤ lineMax then M.ret (D.lst r) else M.no).bd K) = K (.lst (ds.map g)) := by
  rw [compGo_map h, nex_ret, bd_ret, if_pos (by rw [List.length_map]; exact hl), bd_ret]
theorem comp_flt {f : D → M (Option D)} {g : D → Option D} {ds : List D} {K : D → M β} (h : ∀ d ∈ ds, f d = M.ret (g d)) (hl : ds.length ≤ lineMax) :
    ((compGo f ds).nex.bd fun r => (if r.length ≤ lineMax then M.ret (D.lst r) else M.no).bd K) = K (.lst (ds.filterMap g)) := by
  rw [compGo_ret h, nex_ret, bd_ret, if_pos (Nat.le_trans (List.length_filterMap_le _ _) hl), bd_ret]
theorem bools_all {p : D → Bool} (ds : List D) : bools (ds.map fun d => .bl (p d)) = some (ds.map p) := bools_map p ds
theorem all_comp {f : D → M (Option D)} {p : D → Bool} {ds : List D} {K : D → M β} (h : ∀ d ∈ ds, f d = M.ret (some (.bl (p d)))) (hl : ds.length ≤ lineMax) :
    ((compGo f ds).nex.bd fun r => (if r.length ≤ lineMax then M.ret (D.lst r) else M.no).bd fun a => (M.ofO (evBi .all a)).bd K) = K (.bl (ds.all p)) := by
  rw [comp_mapD (g := fun d => .bl (p d)) h hl]
  show (M.ofO ((bools (ds.map fun d => .bl (p d))).map fun bs => D.bl (bs.all id))).bd K = _
  rw [bools_all]
  show K (.bl ((ds.map p).all id)) = _
  rw [List.all_map]
  rfl
theorem all_comp' {f : D → M (Option D)} {p : D → Bool} {ds : List D} (h : ∀ d ∈ ds, f d = M.ret (some (.bl (p d)))) (hl : ds.length ≤ lineMax) :
    ((compGo f ds).nex.bd fun r => (if r.length ≤ lineMax then M.ret (D.lst r) else M.no).bd fun a => M.ofO (evBi .all a)) = M.ret (.bl (ds.all p)) := by
  have := all_comp (K := M.ret) h hl
  simp only [bd_id] at this
  exact this
end
theorem eqv_str (x y : Str) : D.eqv (.str x) (.str y) = decide (x = y) := rfl
theorem pyL_strs : ∀ xs : List Str, D.pyL (xs.map .str) = true
  | [] => rfl
  | x :: xs => by simp [D.pyL, D.py, pyL_strs xs]
theorem any_strs (x : Str) (xs : List Str) : ((xs.map D.str).any fun y => D.eqv y (.str x)) = decide (x ∈ xs) := by
  induction xs with
  | nil => rfl
  | cons y ys ih =>
    rw [List.map_cons, List.any_cons, ih, eqv_str, Bool.eq_iff_iff]
    simp only [Bool.or_eq_true, decide_eq_true_eq, List.mem_cons]
    exact ⟨fun h => h.imp Eq.symm id, fun h => h.imp Eq.symm id⟩
theorem in_tup (x : Str) (xs : List Str) : evOp .inn (.str x) (.tup (xs.map .str)) = some (.bl (decide (x ∈ xs))) := by
  show (if D.py (.str x) && D.pyL (xs.map .str) && decide (D.dep (.str x) ≤ 60) then some (D.bl (xor false ((xs.map D.str).any fun y => D.eqv y (.str x)))) else none) = _
  rw [pyL_strs, any_strs]
  simp [D.py, D.dep]
theorem nin_tup (x : Str) (xs : List Str) : evOp .nin (.str x) (.tup (xs.map .str)) = some (.bl (!decide (x ∈ xs))) := by
  show (if D.py (.str x) && D.pyL (xs.map .str) && decide (D.dep (.str x) ≤ 60) then some (D.bl (xor true ((xs.map D.str).any fun y => D.eqv y (.str x)))) else none) = _
  rw [pyL_strs, any_strs]
  simp [D.py, D.dep]
theorem in_lst (x : Str) (xs : List Str) : evOp .inn (.str x) (.lst (xs.map .str)) = some (.bl (decide (x ∈ xs))) := in_tup x xs
theorem nin_lst (x : Str) (xs : List Str) : evOp .nin (.str x) (.lst (xs.map .str)) = some (.bl (!decide (x ∈ xs))) := nin_tup x xs
theorem lt_str (x y : Str) : evOp .lt (.str x) (.str y) = some (.bl (decide (x.cps.toList < y.cps.toList))) := rfl
theorem le_str (x y : Str) : evOp .le (.str x) (.str y) = some (.bl (!decide (y.cps.toList < x.cps.toList))) := rfl
theorem cut_from {α : Type} (xs : List α) (k : Nat) : cut xs (some (k : Int)) none = xs.drop k := by
  unfold cut
  rw [HT.sIx_nat, HT.sIx_none]
  rcases Nat.le_total k xs.length with h | h
  · rw [Nat.min_eq_left h]
    exact List.take_of_length_le (by rw [List.length_drop]; omega)
  · rw [Nat.min_eq_right h, List.drop_of_length_le h, List.drop_of_length_le (Nat.le_refl _)]
    simp
theorem cut_to {α : Type} (xs : List α) (k : Nat) : cut xs none (some (k : Int)) = xs.take k := by
  unfold cut
  rw [HT.sIx_nat, HT.sIx_none]
  rcases Nat.le_total k xs.length with h | h
  · rw [Nat.min_eq_left h]; simp
  · rw [Nat.min_eq_right h, List.take_of_length_le h]; simp
theorem cut1 {α : Type} (xs : List α) : cut xs (some 1) none = xs.drop 1 := cut_from xs 1
theorem zipD_map {α β : Type} (f : α → D) (g : β → D) : ∀ (xs : List α) (ys : List β), zipD (xs.map f) (ys.map g) = (xs.zip ys).map fun p => .tup [f p.1, g p.2]
  | [], _ => by simp [zipD]
  | x :: xs, [] => by simp [zipD]
  | x :: xs, y :: ys => by simp [zipD, zipD_map f g xs ys]
theorem enumD_map {α : Type} (f : α → D) : ∀ (xs : List α) (k : Nat), enumD k (xs.map f) = (xs.zipIdx k).map fun p => .tup [.int (p.2 : Int), f p.1]
  | [], _ => rfl
  | x :: xs, k => by simp [enumD, enumD_map f xs (k + 1)]
theorem nodup_idx (xs : List Str) : (xs.zipIdx.all fun p => !decide (p.1 ∈ xs.take p.2)) = decide xs.Nodup := by
  rw [Bool.eq_iff_iff, List.all_eq_true, decide_eq_true_eq]
  constructor
  · intro h
    refine List.pairwise_iff_getElem.mpr fun i j hi hj hij e => ?_
    have h1 := h (xs[j], j) (List.mem_zipIdx_iff_getElem?.mpr (by simp [hj]))
    simp only [Bool.not_eq_true', decide_eq_false_iff_not] at h1
    exact h1 (by rw [← e]; exact List.mem_take_iff_getElem.mpr ⟨i, by omega, rfl⟩)
  · rintro h ⟨x, j⟩ hm
    have hj := List.mem_zipIdx_iff_getElem?.mp hm
    simp only [Bool.not_eq_true', decide_eq_false_iff_not]
    intro hx
    obtain ⟨hj1, hj2⟩ := List.getElem?_eq_some_iff.mp hj
    obtain ⟨i, hi, e⟩ := List.mem_take_iff_getElem.mp hx
    exact List.pairwise_iff_getElem.mp h i j (by omega) hj1 (by omega) (e.trans hj2.symm)
theorem pure_bl (b : Bool) : D.pure (.bl b) = true := rfl
theorem pure_int (b : Int) : D.pure (.int b) = true := rfl
theorem pure_str (b : Str) : D.pure (.str b) = true := rfl
theorem forGo_nil (t : MT) (dead : List Nat) (body : Env → M (Flow × Env)) (s : Env) : forGo t dead body [] s = M.ret (.nx, s) := rfl
theorem forGo_cons (t : MT) (dead : List Nat) (body : Env → M (Flow × Env)) (d : D) (ds : List D) (s : Env) : forGo t dead body (d :: ds) s = (M.ofO (bindT t d s)).bd fun s1 => (body s1).bd fun p => (match p.1 with
    | .nx => forGo t dead body ds (p.2.kill dead)
    | .ct => forGo t dead body ds (p.2.kill dead)
    | .bk => M.ret (.nx, p.2)
    | .rt v => M.ret (.rt v, p.2)) := rfl
theorem dep_strs : ∀ xs : List Str, D.depL (xs.map .str) = 0
  | [] => rfl
  | x :: xs => by simp [D.depL, D.dep, dep_strs xs]
theorem eqvL_strs : ∀ xs ys : List Str, D.eqvL (xs.map .str) (ys.map .str) = decide (xs = ys)
  | [], [] => by simp [D.eqvL]
  | [], _ :: _ => by simp [D.eqvL]
  | _ :: _, [] => by simp [D.eqvL]
  | x :: xs, y :: ys => by
    simp only [List.map_cons, D.eqvL, eqvL_strs xs ys, eqv_str]
    rw [Bool.eq_iff_iff]
    simp
theorem eq_strs (xs ys : List Str) : evOp .eq (.lst (xs.map .str)) (.lst (ys.map .str)) = some (.bl (decide (xs = ys))) := by
  show (if D.cmp (.lst (xs.map .str)) (.lst (ys.map .str)) then some (D.bl (D.eqv (.lst (xs.map .str)) (.lst (ys.map .str)))) else none) = _
  rw [if_pos (by simp [D.cmp, D.py, D.dep, pyL_strs, dep_strs]), D.eqv, eqvL_strs]
theorem ne_strs (xs ys : List Str) : evOp .ne (.lst (xs.map .str)) (.lst (ys.map .str)) = some (.bl (!decide (xs = ys))) := by
  show (if D.cmp (.lst (xs.map .str)) (.lst (ys.map .str)) then some (D.bl (!D.eqv (.lst (xs.map .str)) (.lst (ys.map .str)))) else none) = _
  rw [if_pos (by simp [D.cmp, D.py, D.dep, pyL_strs, dep_strs]), D.eqv, eqvL_strs]
theorem eq_nil {xs : List D} (h : D.pyL xs = true) : evOp .eq (.lst xs) (.lst []) = some (.bl xs.isEmpty) := by
  show (if D.cmp (.lst xs) (.lst []) then some (D.bl (D.eqv (.lst xs) (.lst []))) else none) = _
  rw [if_pos (by simp [D.cmp, D.py, D.pyL, h, D.dep, D.depL]), D.eqv]
  cases xs <;> rfl
theorem ne_nil {xs : List D} (h : D.pyL xs = true) : evOp .ne (.lst xs) (.lst []) = some (.bl (!xs.isEmpty)) := by
  show (if D.cmp (.lst xs) (.lst []) then some (D.bl (!D.eqv (.lst xs) (.lst []))) else none) = _
  rw [if_pos (by simp [D.cmp, D.py, D.pyL, h, D.dep, D.depL]), D.eqv]
  cases xs <;> rfl
theorem strsD_map : ∀ xs : List Str, strsD (xs.map .str) = some xs
  | [] => rfl
  | x :: xs => by simp [strsD, strsD_map xs]
theorem sortSet_strs {xs : List Str} (h : xs.length < 4000) : evBi .sortSet (.lst (xs.map .str)) = some (.lst (((dedup xs).mergeSort leStr).map .str)) := by
  show (sortSet (xs.map .str)).map D.lst = _
  unfold sortSet
  rw [if_pos (by rw [List.length_map]; exact h), strsD_map, ← srt_eq]
  rfl
theorem lenSet_tup {xs : List Str} (h : xs.length < 4000) : evBi .lenSet (.tup (xs.map .str)) = some (.int (dedup xs).length) := by
  show (lenSet (xs.map .str)).map (fun n => D.int n) = _
  unfold lenSet
  rw [if_pos (by rw [List.length_map]; exact h), strsD_map]
  rfl
theorem fm_if {α : Type} (p : α → Bool) (xs : List α) : (xs.filterMap fun x => if p x then some x else none) = xs.filter p := by
  induction xs with
  | nil => rfl
  | cons x xs ih =>
    rw [List.filterMap_cons, List.filter_cons]
    cases p x <;> simp [ih]
theorem pyL_of : ∀ {ds : List D}, (∀ d ∈ ds, D.py d = true) → D.pyL ds = true
  | [], _ => rfl
  | d :: ds, h => by
    simp only [D.pyL, Bool.and_eq_true]
    exact ⟨h d (List.mem_cons_self ..), pyL_of fun x hx => h x (List.mem_cons_of_mem _ hx)⟩
section
variable {c : Cfg} {r : MSs} {s : Env}
theorem sq_asg {i : Nat} {e : ME} (h : i < s.length) : exSs c (.cons (.asg false (.slot i) e) r) s = (evE c e s).bd fun x => exSs c r (s.set i (.vl x)) := by
  rw [exSs, exS, bd_assoc]
  congr 1
  funext x
  simp only [setOwn]
  rw [if_pos h, slOf_f]
  rfl
theorem sq_asgO {i : Nat} {e : ME} (h : i < s.length) : exSs c (.cons (.asg true (.slot i) e) r) s = (evE c e s).bd fun x => exSs c r (s.set i (slOf true x)) := by
  rw [exSs, exS, bd_assoc]
  congr 1
  funext x
  simp only [setOwn]
  rw [if_pos h]
  rfl
theorem sq_ret {e : ME} : exSs c (.cons (.ret e) r) s = (evE c e s).bd fun x => M.ret (.rt x, s) := by
  rw [exSs, exS, bd_assoc]
  rfl
theorem sq_guard {t e : ME} {q : MSs} : exSs c (.cons (.ite t (.cons (.ret e) q) .nil) r) s = (evT c t s).bd fun k => if k then (evE c e s).bd fun x => M.ret (.rt x, s) else exSs c r s := by
  rw [exSs, exS, bd_assoc]
  congr 1
  funext k
  cases k
  · rfl
  · simp only [if_true]
    rw [sq_ret, bd_assoc]
    rfl
theorem sq_ite {t : ME} {a b : MSs} : exSs c (.cons (.ite t a b) r) s = (evT c t s).bd fun k => (if k then exSs c a s else exSs c b s).bd fun p => (match p.1 with
    | .nx => exSs c r p.2
    | _ => M.ret p) := by
  rw [exSs, exS, bd_assoc] <;> rfl
theorem sq_nil : exSs c .nil s = M.ret (.nx, s) := rfl
theorem sq_for {t : MT} {q : MSrc} {dead : List Nat} {b : MSs} : exSs c (.cons (.for_ t q dead b) r) s = (evSrc c q s).bd fun ds => (forGo t dead (exSs c b) ds s).bd fun p => (match p.1 with
    | .nx => exSs c r p.2
    | _ => M.ret p) := by
  rw [exSs, exS, bd_assoc] <;> rfl
theorem sq_app {i : Nat} {e : ME} {xs : List D} (h : s[i]? = some (.ow (.lst xs))) : exSs c (.cons (.app i e) r) s = (evE c e s).bd fun v => if xs.length < lineMax then exSs c r (s.set i (.ow (.lst (xs ++ [v])))) else M.no := by
  rw [exSs, exS, h]
  simp only [bd_assoc]
  congr 1
  funext v
  split <;> rfl
theorem sq_share {i : Nat} {d : D} (h : s[i]? = some (.ow d)) : exSs c (.cons (.share i) r) s = exSs c r (s.set i (.vl d)) := by
  rw [exSs, exS, h]
  rfl
theorem sq_shareV {i : Nat} {d : D} (h : s[i]? = some (.vl d)) : exSs c (.cons (.share i) r) s = exSs c r s := by
  rw [exSs, exS, h]
  rfl
theorem sq_bset {i : Nat} {x e : ME} (h : s[i]? = some (.vl .box)) : exSs c (.cons (.bset i x e) r) s = (evE c e s).bd fun v => (evE c x s).bd fun k => (M.ofO (asI k)).bd fun k => (M.ofO (asI v)).bd fun v => (bsetM () k v).bd fun _ => exSs c r s := by
  rw [exSs, exS]
  simp only [bd_assoc, h]
  congr 1
  funext v
  congr 1
  funext k
  congr 1
  funext k
  congr 1
  funext v
  funext b
  simp only [M.bd, bsetM]
  rcases b with _ | ⟨i, j, l⟩
  · rfl
  · cases e : L2.ixN 3 k with
    | none => rfl
    | some n =>
      match n with
      | 0 => rfl
      | 1 => rfl
      | 2 => rfl
      | _ + 3 => rfl
theorem sq_seti {i : Nat} {x e : ME} {xs : List D} (h : s[i]? = some (.ow (.lst xs))) : exSs c (.cons (.seti i x e) r) s = (evE c e s).bd fun v => (evE c x s).bd fun k => (M.ofO (asI k)).bd fun k => (M.ofO (L2.ixN xs.length k)).bd fun j => exSs c r (s.set i (.ow (.lst (xs.set j v)))) := by
  rw [exSs, exS]
  simp only [bd_assoc, h]
  rfl
theorem sq_par {i j : Nat} {oi oj : Bool} {x y : ME} (hi : i < s.length) (hj : j < s.length) : exSs c (.cons (.par i j oi oj x y) r) s = (evE c x s).bd fun x => (evE c y s).bd fun y => exSs c r ((s.set i (slOf oi x)).set j (slOf oj y)) := by
  rw [exSs, exS]
  simp only [bd_assoc, setOwn]
  congr 1
  funext x
  congr 1
  funext y
  rw [if_pos hi, ofO_some, bd_ret, if_pos (by rw [List.length_set]; exact hj)]
  rfl
end
theorem add_lst {x y : List D} (h : x.length + y.length ≤ lineMax) : evOp .add (.lst x) (.lst y) = some (.lst (x ++ y)) := by
  show (if x.length + y.length ≤ lineMax then some (D.lst (x ++ y)) else none) = _
  rw [if_pos h]
theorem add_tup {x y : List D} (h : x.length + y.length ≤ lineMax) : evOp .add (.tup x) (.tup y) = some (.tup (x ++ y)) := by
  show (if x.length + y.length ≤ lineMax then some (D.tup (x ++ y)) else none) = _
  rw [if_pos h]
theorem upTo_len (n : Nat) : (upTo 0 n).length = n := by unfold upTo; simp
theorem range_n {n : Nat} (h : n < 1000000) : evRange 0 (n : Int) = some (upTo 0 n) := by
  unfold evRange
  rw [if_pos (by omega)]
  congr 2
theorem srcR {c : Cfg} {s : Env} {a : ME} {n : Nat} (h : evE c a s = M.ret (.int n)) (hn : n < 1000000) : evSrc c (.range a) s = M.ret (upTo 0 n) := by
  rw [evSrc, show (evP c a s).1 = M.ret (.int n) from h, bd_ret, asI_int, ofO_some, bd_ret, range_n hn, ofO_some]
end Mi
namespace Mi
open PySem L2
section
variable {c : Cc} {cf : Cfg} {W : WX} {σ σ' σ1 σ2 : L2.St} {H H1 H2 H' : Hp} {N N0 : Addr → Prop} {s s' s1 s2 : Env} {b : Bx} {D : Ends}
/-- how a text ends whose exceptions fly where the slots are as they were -/
def OutT (c : Cc) (N0 : Addr → Prop) (W : WX) (D : Ends) (σ : L2.St) (H : Hp) (s : Env) : Res (Flow × Env) → Prop
  | .ex k as b => ∀ cls dd H', Keep c H H' → BoxAt c H' b → c.exAt k as cls dd H' → W cls dd σ H'
  | r => OutS c N0 W D σ H s r
def rdT (c : Cc) (N0 : Addr → Prop) (W : WX) (m : Env → M (Flow × Env)) : TS := fun D σ H => ∃ s b, Rel c H N0 σ s ∧ BoxAt c H b ∧ OutT c N0 W D σ H s (m s b)
theorem OutT.later {r : Res (Flow × Env)} (h : OutT c N0 W D σ H s r) (k : Keep c H H1) : OutT c N0 W D σ H1 s r := by
  cases r with
  | ex k' as b => exact fun cls dd H' g B e => h cls dd H' (k.trans g) B e
  | ok p b => exact OutS.later (r := .ok p b) h k.frl
  | no => exact h
theorem OutT.bd {α γ : Type} {Rp : Hp → α → γ → Prop} {m : M α} {f : α → M (Flow × Env)} (h : OutT c N0 W D σ H s ((m.bd f) b)) :
    Out c Rp σ H W (fun v H1 => ∃ x b1, Keep c H H1 ∧ BoxAt c H1 b1 ∧ Rp H1 x v ∧ OutT c N0 W D σ H s (f x b1)) (m b) := by
  unfold M.bd at h
  cases e : m b with
  | ok x b1 =>
    rw [e] at h
    exact fun v H1 k B r => ⟨x, b1, k, B, r, h⟩
  | ex k as b1 =>
    rw [e] at h
    exact h
  | no =>
    rw [e] at h
    exact h
theorem OutT.ofObd {α : Type} {o : Option α} {f : α → M (Flow × Env)} (h : OutT c N0 W D σ H s ((M.bd (M.ofO o) f) b)) : ∃ x, o = some x ∧ OutT c N0 W D σ H s (f x b) := by
  cases o with
  | some x => exact ⟨x, rfl, h⟩
  | none => exact h.elim
theorem rdT_ret {e : ME} (h : rdT c N0 W (exS cf (.ret e)) D σ H) : tRet (rd c (pE c) W (evE cf e)) D σ H := by
  obtain ⟨s, b, R, B, h⟩ := h
  refine ⟨N0, s, b, R, B, Out.mono (OutT.bd (Rp := fun H' => pE c H H' N0 (Nof N0 σ s)) h) fun v H1 ⟨x, b1, k1, B1, r1, h1⟩ => ?_⟩
  exact h1 v H1 k1.frk B1 (r1.sub fun _ => .inl)
theorem rdT_if {t : ME} {a b : MSs} (h : rdT c N0 W (exS cf (.ite t a b)) D σ H) : tIfS (rd c (pX (α := Bool)) W (evT cf t)) (rdT c N0 W (exSs cf a)) (rdT c N0 W (exSs cf b)) D σ H := by
  obtain ⟨s, b, R, B, h⟩ := h
  refine ⟨N0, s, b, R, B, Out.mono (OutT.bd (Rp := fun H' => pX (α := Bool) H H' N0 (Nof N0 σ s)) h) fun v H1 ⟨x, b1, k1, B1, r1, h1⟩ => ?_⟩
  obtain rfl : x = v := r1
  cases x with
  | true => exact ⟨s, b1, R.keep k1, B1, OutT.later h1 k1⟩
  | false => exact ⟨s, b1, R.keep k1, B1, OutT.later h1 k1⟩
theorem rdT_expr {e : ME} (h : rdT c N0 W (exS cf (.expr e)) D σ H) : tDrop (rd c (pE c) W (evE cf e)) D σ H := by
  obtain ⟨s, b, R, B, h⟩ := h
  refine ⟨N0, s, b, R, B, Out.mono (OutT.bd (Rp := fun H' => pE c H H' N0 (Nof N0 σ s)) h) fun v H1 ⟨x, b1, k1, B1, r1, h1⟩ => ?_⟩
  exact h1 σ H1 (R.keep k1) B1 k1.frl
theorem rdT_asg {t : MT} {e : ME} (h : rdT c N0 W (exS cf (.asg false t e)) D σ H) : tAsg (rd c (pE c) W (evE cf e)) (rdG c t) D σ H := by
  obtain ⟨s, b, R, B, h⟩ := h
  refine ⟨N0, s, b, R, B, Out.mono (OutT.bd (Rp := fun H' => pE c H H' N0 (Nof N0 σ s)) h) fun v H1 ⟨x, b1, k1, B1, r1, h1⟩ => ?_⟩
  obtain ⟨s', e1, h2⟩ := h1.ofObd
  have e1 : bindT t x s = some s' := (asg_eq t x s).symm.trans e1
  have R1 := R.keep k1
  refine ⟨N0, s, x, s', R1, r1.j, e1, fun σ' R' hl hs hn => h2 σ' H1 R' B1 ⟨k1.frk, fun a z => ?_⟩⟩
  exact (hn a (.inr z)).elim (fun z2 => absurd z2 (own_not0 R' z)) .inl
/-- the guard of a block: if t: return e -/
theorem rdT_guard {t e : ME} {q : MSs} {r : MSs} (h : rdT c N0 W (exSs cf (.cons (.ite t (.cons (.ret e) q) .nil) r)) D σ H) :
    tSeq (tIfS (rd c (pX (α := Bool)) W (evT cf t)) (rdT c N0 W (exSs cf (.cons (.ret e) .nil))) tNext) (rdT c N0 W (exSs cf r)) D σ H := by
  obtain ⟨s, b, R, B, h⟩ := h
  have e0 : exSs cf (.cons (.ite t (.cons (.ret e) q) .nil) r) s = (evT cf t s).bd fun k => if k then (evE cf e s).bd fun x => M.ret (.rt x, s) else exSs cf r s := sq_guard
  rw [e0] at h
  refine ⟨N0, s, b, R, B, Out.mono (OutT.bd (Rp := fun H' => pX (α := Bool) H H' N0 (Nof N0 σ s)) h) fun v H1 ⟨x, b1, k1, B1, r1, h1⟩ => ?_⟩
  obtain rfl : x = v := r1
  cases x with
  | true =>
    refine ⟨s, b1, R.keep k1, B1, ?_⟩
    have h2 := OutT.later h1 k1
    rw [sq_ret]
    rw [if_pos rfl] at h2
    unfold M.bd at h2 ⊢
    cases q : evE cf e s b1 <;> rw [q] at h2 <;> exact h2
  | false => exact ⟨s, b1, R.keep k1, B1, OutT.later h1 k1⟩
theorem evs1 {e : ME} {s : Env} : evEs cf (.cons false e .nil) s = (evE cf e s).bd fun d => M.ret [d] := by
  funext b
  show M.bd (evP cf e s).1 _ b = M.bd (evP cf e s).1 _ b
  unfold M.bd
  cases (evP cf e s).1 b <;> rfl
theorem rdT_raise {j : Nat} {f : Str} {e : ME} {C : Addr} {K : PySem.W.Frag} {mg : Str → Option Value} (hf : excFld j = some f) (G : MkR K mg c j C) (h : rdT c N0 W (exS cf (.raise j (.cons false e .nil))) D σ H) :
    tMkX C f (tCons (rd c (pE c) W (evE cf e)) tNil) σ H fun cls d H' => W cls d σ H' := by
  obtain ⟨s, b, R, B, h⟩ := h
  have e0 : exS cf (.raise j (.cons false e .nil)) s = (evE cf e s).bd fun d => if Mi.D.flat d then M.raise j [d] else M.no := by
    show (evEs cf (.cons false e .nil) s).bd _ = _
    rw [evs1]
    funext b
    unfold M.bd
    cases evE cf e s b with
    | ok d b1 =>
      show (match mkExc j [d] with | some _ => if [d].all Mi.D.flat then M.raise j [d] else M.no | none => M.no) b1 = _
      unfold mkExc
      rw [hf]
      simp
    | ex _ _ _ => rfl
    | no => rfl
  rw [e0] at h
  refine ⟨N0, s, b, R, B, Out.mono (OutT.bd (Rp := fun H' => pE c H H' N0 (Nof N0 σ s)) h) fun v H1 ⟨x, b1, k1, B1, r1, h1⟩ => ⟨v, rfl, fun dx hd => ?_⟩⟩
  by_cases hx : x.flat = true
  · rw [if_pos hx] at h1
    refine (OutT.later h1 k1) (.ref C) (some dx) _ (.laid hd) (B1.same (same_laid hd)) (G.at_ _ _ _ ?_)
    unfold ExFl
    rw [hf]
    exact ⟨dx, v, x, rfl, rfl, upd_same, flatR.of r1 hx⟩
  · rw [if_neg hx] at h1
    exact h1.elim
theorem rdT_raise0 {j : Nat} {C : Addr} {K : PySem.W.Frag} {mg : Str → Option Value} (hf : excFld j = none) (G : MkR K mg c j C) (h : rdT c N0 W (exS cf (.raise j .nil)) D σ H) : W (.ref C) none σ H := by
  obtain ⟨s, b, R, B, h⟩ := h
  have e0 : exS cf (.raise j .nil) s = M.raise j [] := by
    funext b
    show (match mkExc j ([] : List Mi.D) with | some _ => if ([] : List Mi.D).all Mi.D.flat then M.raise j [] else M.no | none => M.no) b = _
    unfold mkExc
    rw [hf]
    rfl
  rw [e0] at h
  refine h (.ref C) none H .refl B (G.at_ _ _ _ ?_)
  unfold ExFl
  rw [hf]
  exact ⟨rfl, rfl⟩
theorem rdS.t {m : Env → M (Flow × Env)} (h : rdS c N0 W m D σ H) : rdT c N0 W m D σ H := by
  obtain ⟨s, b, R, B, h⟩ := h
  refine ⟨s, b, R, B, ?_⟩
  cases e : m s b with
  | ex k as b1 =>
    rw [e] at h
    exact fun cls dd H' k B x => h cls dd σ H' k.frk B x
  | ok p b1 => rw [e] at h; exact h
  | no => rw [e] at h; exact h
/-- behind an except suite -/
theorem set_as {σ : L2.St} {i j : Nat} {u v w : Option V} (h : i ≠ j) : ((σ.set i u).set j v).set i w = (σ.set j v).set i w := by
  refine List.ext_getElem? fun k => ?_
  simp only [List.getElem?_set, List.length_set]
  by_cases h1 : i = k
  · simp [h1]
  · by_cases h2 : j = k
    · simp [h1, h2]
    · simp [h1, h2]
/-- the suite's own reading: a value, then a slot or the end -/
def tSuite (h : Hd) (tv : Addr → Value → Option Addr → TE) : Addr → Value → Option Addr → TS := fun a cls d D σ H => if h.ret then tRet (tv a cls d) D σ H else tAsg (tv a cls d) (gName h.tgt) D σ H
/-- what the suite's value asks: the name's slot, then the value -/
def tVal (c : Cc) (h : Hd) : Addr → Value → Option Addr → TE := fun a cls dd σ H Q => (∀ i, h.nm = some i → i < σ.length → σ[i]? = some (some (.ref a))) ∧ ∃ k ds d, c.exAt k ds cls dd H ∧ h.e.ev k ds = some d ∧ (∃ N : Addr → Prop, (∀ x, N x → H x ≠ none) ∧ (∀ x, c.β = some x → N x)) ∧ ∀ v H', Keep c H H' → (∀ x o, H x = some o → H' x = some o) → (∀ N : Addr → Prop, (∀ x, N x → H x ≠ none) → (∀ x, c.β = some x → N x) → Rep c H' N d v) → Q v H'
/-- the clauses fit the handlers -/
inductive HsR (K : PySem.W.Frag) (mg : Str → Option Value) (cls : List Str) (c : Cc) : List Hd → List Cls → Prop
  | nil : HsR K mg cls c [] []
  | cons {h : Hd} {C : Addr} {hs : List Hd} {l : List Cls} (hn : excName h.k ∈ cls) (hC : mg (excName h.k) = some (.ref C)) (hne : ∀ i, h.nm = some i → i ≠ h.tgt ∨ h.ret = true) (r : HsR K mg cls c hs l) : HsR K mg cls c (h :: hs) ((.ref C, h.nm, tSuite h (tVal c h)) :: l)
theorem hs_go {K : PySem.W.Frag} {mg : Str → Option Value} {cls : List Str} {k : Nat} {ds : List Mi.D} {cv : Value} {dd : Option Addr} {C0 : Addr} (F : ExF K mg cls k ds cv dd H1 C0) (hx : c.exAt k ds cv dd H1) (R : Rel c H1 N0 σ s) (B : BoxAt c H1 b) (k1 : Keep c H H1) :
    ∀ {hs : List Hd} {l : List Cls}, HsR K mg cls c hs l → OutS c N0 W D σ H s (hdGo s k ds hs b) → wHs K W D l cv dd σ H1 := by
  intro hs l hr
  induction hr with
  | nil => exact fun h => h cv dd σ H1 k1.frk B hx
  | @cons h C hs l hn hC hne r ih =>
    intro ho
    refine ⟨decide (h.k = k), by rw [F.eq]; exact F.em h.k C hn hC, fun e a na => ?_, fun e => ?_⟩
    · have e := of_decide_eq_true e
      have ho : OutS c N0 W D σ H s (((M.ofO (h.e.ev k ds)).bd fun d => if h.ret then M.ret (.rt d, s) else if h.tgt < s.length then M.ret (.nx, noSlot (s.set h.tgt (.vl d)) h.nm) else M.no) b) := by
        have ho' : OutS c N0 W D σ H s ((if h.k = k then (M.ofO (h.e.ev k ds)).bd fun d => if h.ret then M.ret (.rt d, s) else if h.tgt < s.length then M.ret (.nx, noSlot (s.set h.tgt (.vl d)) h.nm) else M.no else hdGo s k ds hs) b) := ho
        rw [if_pos e] at ho'
        exact ho'
      obtain ⟨d, e1, ho⟩ := ho.ofObd
      have slot : ∀ i, h.nm = some i → i < (slotAs a σ h.nm).length → (slotAs a σ h.nm)[i]? = some (some (.ref a)) := fun i hi hl => by
        rw [hi] at hl ⊢
        exact List.getElem?_set_self (by simpa [slotAs] using hl)
      have box : ∀ {H'}, (∀ x o, H1 x = some o → H' x = some o) → BoxAt c H' b := fun k => B.same k
      show tSuite h (tVal c h) a cv dd _ _ H1
      unfold tSuite
      by_cases hret : h.ret = true
      · rw [if_pos hret] at ho ⊢
        refine ⟨slot, k, ds, d, hx, e1, ⟨N0, R.dom, R.bet⟩, fun v H' k2 ks rp => ?_⟩
        have z := ho v H' (k1.trans k2).frk (box ks) (rp N0 R.dom R.bet)
        cases h.nm <;> exact z
      · rw [if_neg hret] at ho ⊢
        refine ⟨slot, k, ds, d, hx, e1, ⟨N0, R.dom, R.bet⟩, fun v H' k2 ks rp => ?_⟩
        by_cases hl : h.tgt < s.length
        · rw [if_pos hl] at ho
          have RV : Rel c H' N0 (σ.set h.tgt (some v)) (s.set h.tgt (.vl d)) := (R.keep k2).setVl (rp _ (fun x => R.domN) R.betN) h.tgt hl
          have own : ∀ {σ'' : L2.St} {s'' : Env}, (∀ x, IsOwn σ'' s'' x → IsOwn (σ.set h.tgt (some v)) (s.set h.tgt (.vl d)) x) → ∀ x, IsOwn σ'' s'' x → IsOwn σ s x ∨ H x = none := fun hh x z => .inl (own_set (y := .vl _) (fun _ z => nomatch z) (hh x z))
          cases hnm : h.nm with
          | none =>
            rw [hnm] at ho
            show D.nx (σ.set h.tgt (some v)) H'
            exact ho _ H' RV (box ks) ⟨(k1.trans k2).frk, own fun x z => z⟩
          | some i =>
            rw [hnm] at ho
            have hit : i ≠ h.tgt := (hne i hnm).resolve_right hret
            show D.nx (((σ.set i (some (.ref a))).set h.tgt (some v)).set i none) H'
            rw [set_as hit]
            exact ho _ H' (RV.setNo i) (box ks) ⟨(k1.trans k2).frk, own fun x z => own_set (y := .no) (fun _ z => nomatch z) z⟩
        · rw [if_neg hl] at ho
          exact ho.elim
    · have e := of_decide_eq_false e
      refine ih ?_
      have ho' : OutS c N0 W D σ H s ((if h.k = k then (M.ofO (h.e.ev k ds)).bd fun d => if h.ret then M.ret (.rt d, s) else if h.tgt < s.length then M.ret (.nx, noSlot (s.set h.tgt (.vl d)) h.nm) else M.no else hdGo s k ds hs) b) := ho
      rw [if_neg e] at ho'
      exact ho'
theorem rd_try {K : PySem.W.Frag} {mg : Str → Option Value} {cls : List Str} {bd : MSs} {hs : List Hd} {l : List Cls} (hF : ∀ j ds cv dd H, c.exAt j ds cv dd H → ∃ C, ExF K mg cls j ds cv dd H C) (hr : HsR K mg cls c hs l) (h : rdS c N0 W (exS cf (.try_ bd hs)) D σ H) :
    rdT c N0 (wHs K W D l) (exSs cf bd) D σ H := by
  obtain ⟨s, b, R, B, h⟩ := h
  have h : OutS c N0 W D σ H s ((exSs cf bd s).catch (fun k ds => hdGo s k ds hs) b) := h
  unfold M.catch at h
  refine ⟨s, b, R, B, ?_⟩
  cases e : exSs cf bd s b with
  | ok p b1 =>
    rw [e] at h
    obtain ⟨fl, s'⟩ := p
    cases fl <;> exact h
  | no => rw [e] at h; exact h
  | ex k ds b1 =>
    rw [e] at h
    intro cv dd H1 k1 B1 hx
    obtain ⟨C0, F⟩ := hF k ds cv dd H1 hx
    exact hs_go F hx (R.keep k1) B1 k1 hr h
end
end Mi
namespace Mi
open PySem L2
def ckSA (k : Ck) (ny : Option Str) : SA → Expr → Bool
  | .cst d, .Constant a _ _ => ckCst d a
  | .fld f, .Attribute (.Name y _) g _ => decide (f = g) && decide (ny = some y) && k.vis y
  | .isi t, .Call (.Name x _) [.Name y _, .Name z _] [] _ => decide (x = ("isinstance" : Str)) && k.blt x && decide (ny = some y) && k.vis y && (match tyName t with
    | some w => decide (z = w) && k.blt z
    | none => false)
  | _, _ => false
def ckSL (k : Ck) (ny : Option Str) : List SA → List Expr → Bool
  | [], [] => true
  | a :: l, e :: es => !isStar e && ckSA k ny a e && ckSL k ny l es
  | _, _ => false
def isLc : Expr → Bool
  | .ListComp _ _ _ _ => true
  | .SetComp _ _ _ _ => true
  | .DictComp _ _ _ _ _ => true
  | _ => false
theorem sw_name {x : Expr} {y : Str} {py : Pos} {n : Nat} {env : PySem.Env} (h : isLc x = false) : swapsWith x (some (.Name y py)) n env = pure false := by
  cases x <;> first | rfl | cases h
theorem sa_lc {k : Ck} {ny : Option Str} {v : SA} {e : Expr} (h : ckSA k ny v e = true) : isLc e = false := by
  cases v <;> cases e <;> first | rfl | cases h
def isIsi : SA → Bool
  | .isi _ => true
  | _ => false
def ckSE (k : Ck) (ny : Option Str) : SE → Expr → Bool
  | .one a, e => ckSA k ny a e
  | .lst l, .List es _ => ckSL k ny l es && decide (l.length ≤ 1000)
  | .ite a b d, .IfExp x y z _ => isIsi a && ckSA k ny a x && ckSE k ny b y && ckSE k ny d z
  | _, _ => false
theorem se_lc {k : Ck} {ny : Option Str} {v : SE} {e : Expr} (h : ckSE k ny v e = true) : isLc e = false := by
  cases v with
  | one v => exact sa_lc (show ckSA k ny v e = true from h)
  | lst l => cases e <;> first | rfl | cases h
  | ite a b d => cases e <;> first | rfl | cases h
section
variable {X : Cx} {c : Cc} {cf : Cfg} {k : Ck} {W : WX} {a : Addr} {oe : Obj} {cv : Value} {dd : Option Addr} {pn : List (Addr × Obj)} {nm : Option Nat} {ny : Option Str}
/-- the name's slot holds the exception -/
def AsAt (nm : Option Nat) (a : Addr) (σ : L2.St) : Prop := ∀ i, nm = some i → i < σ.length → σ[i]? = some (some (.ref a))
def tSA (c : Cc) (a : Addr) (cv : Value) (dd : Option Addr) (nm : Option Nat) (v : SA) : TE := fun σ H Q => AsAt nm a σ ∧ ∃ j ds x, c.exAt j ds cv dd H ∧ v.ev j ds = some x ∧ ∀ u, flatR x u → Q u H
theorem pin_inst {C : Addr} {Y : Cx} {pins : List (Addr × Obj)} {σ : L2.St} {H : Hp} {s : Shared} (I : Inv (Y.suite a ((a, oe) :: pn)) pins σ H s) (z : Zc (.ref C) dd oe) (hf : ∃ vs, oe.data = .fields vs) (hd : ∀ e, dd = some e → ∃ u, H e = some u) :
    ∃ od, PySem.W.InstAt s.heap a oe C od ∧ (∀ e, dd = some e → ∃ o, s.heap.get? e = some o ∧ od = some o) := by
  obtain ⟨vs, hv⟩ := hf
  obtain ⟨h1, _⟩ := I.pin (a, oe) (List.mem_append_left _ (List.mem_cons_self ..))
  have nc : PySem.W.notCls oe = true := by unfold PySem.W.notCls; rw [hv] <;> rfl
  cases dd with
  | none => exact ⟨none, ⟨h1, z.1, nc, by rw [z.2]; trivial⟩, fun e q => nomatch q⟩
  | some e =>
    obtain ⟨u, hu⟩ := hd e rfl
    obtain ⟨o, ho⟩ := objOk_get (I.hok e u hu)
    exact ⟨some o, ⟨h1, z.1, nc, by rw [z.2]; exact ho⟩, fun e' q => by cases q; exact ⟨o, ho, rfl⟩⟩
def rIsiP (K : PySem.W.Frag) (a C : Addr) (dd : Option Addr) : List V → Hp → VK → Prop := fun xs H Q => ∃ (x : V) (u : Value) (b : Bool), xs = [.ref a, x] ∧ ClsV x u ∧ PySem.W.kitOne K (.ref C) u = some b ∧ (∀ e, dd = some e → ∃ u, H e = some u) ∧ Q (.bl b) H
theorem call_isiP {C : Addr} {Y : Cx} (T : ClsX Y.K C) (z : Zc (.ref C) dd oe) (hf : ∃ vs, oe.data = .fields vs) : CallR (Y.suite a ((a, oe) :: pn)) (.builtin "isinstance") (rIsiP Y.K a C dd) := by
  intro pins s σ H xs us Q I r h
  obtain ⟨x, u, b, rfl, k, e, hd, q⟩ := h
  obtain ⟨u1, u2, rfl, r1, r2⟩ := vals2 r
  have e2 := k.eq r2
  subst e2
  obtain rfl : u1 = Value.ref a := r1
  obtain ⟨od, J, _⟩ := pin_inst I z hf hd
  exact PySem.W.kia_one (PySem.W.kitx_exc T.cl T.ga T.gt T.su T.ca T.sp T.tk T.mo) I.kIn J e (fun z => nomatch z) fun tk => ⟨.bl b, H, I.tok tk, rfl, q⟩
theorem exfl_some {j : Nat} {ds : List Mi.D} {H : Hp} (h : ExFl j ds dd H) : ∀ e, dd = some e → ∃ u, H e = some u := by
  intro e he
  unfold ExFl at h
  split at h
  · rw [h.2] at he; cases he
  · obtain ⟨e', v, d, _, h2, h3, _⟩ := h
    rw [h2] at he
    cases he
    exact ⟨_, h3⟩
theorem sa_ok (G : GX X c cf k W) (z : Zc cv dd oe) (hf : ∃ vs, oe.data = .fields vs) (hn : ∀ y, ny = some y → ∃ i, nm = some i ∧ X.N[i]? = some y) : ∀ {v : SA} {e : Expr}, ckSA k ny v e = true → PE (X.suite a ((a, oe) :: pn)) e (tSA c a cv dd nm v) := by
  intro v e h
  cases v with
  | cst d =>
    cases e <;> first | (cases h; done) | skip
    rename_i a' j p
    replace h : ckCst d a' = true := h
    cases d <;> cases a' <;> first | (cases h; done) | skip
    · refine PE.imp pe_non fun σ H Q ⟨_, _, _, x, _, e, q⟩ => ?_
      cases e
      exact q _ rfl
    · rename_i b1 b2
      have e : b1 = b2 := eq_of_beq h
      subst e
      refine PE.imp pe_bl fun σ H Q ⟨_, _, _, x, _, e, q⟩ => ?_
      cases e
      exact q _ rfl
    · rename_i b1 b2
      have e : b1 = b2 := of_decide_eq_true h
      subst e
      refine PE.imp pe_int fun σ H Q ⟨_, _, _, x, _, e, q⟩ => ?_
      cases e
      exact q _ rfl
    · rename_i b1 b2
      obtain ⟨e, h2⟩ := and2 (show (decide (b1 = b2) && strFits b1) = true from h)
      have e : b1 = b2 := of_decide_eq_true e
      subst e
      refine PE.imp pe_str fun σ H Q ⟨_, _, _, x, _, e, q⟩ => ?_
      cases e
      exact q _ ⟨rfl, h2⟩
  | fld f =>
    cases e <;> first | (cases h; done) | skip
    rename_i o g p
    cases o <;> first | (cases h; done) | skip
    rename_i y yp
    obtain ⟨h, h3⟩ := and2 (show (decide (f = g) && decide (ny = some y) && k.vis y) = true from h)
    obtain ⟨h1, h2⟩ := and2 h
    have h1 := of_decide_eq_true h1
    subst h1
    obtain ⟨i, hi, hN⟩ := hn y (of_decide_eq_true h2)
    obtain ⟨hv, hp⟩ := vis_of G h3
    refine ⟨fun pins s σ H Q I hq => ?_⟩
    obtain ⟨as, j, ds, x, hx, ev, q⟩ := hq
    have hl : i < σ.length := by
      rw [I.len]
      exact (List.getElem?_eq_some_iff.mp hN).1
    refine attr_of rfl (thn ((pe_var (X := X.suite a ((a, oe) :: pn)) (i := i) (pos := yp) hN hv (plain_db hp) (plain_cd hp)).run pins s σ H (fun x H1 => x = .ref a ∧ H1 = H) I ⟨_, as i hi hl, rfl, rfl⟩) fun u s1 ⟨x1, H1, I1, rx, ex, eH⟩ => ?_)
    subst ex eH
    obtain rfl : u = Value.ref a := rx
    obtain ⟨C, F⟩ := G.exf j ds cv dd H1 hx
    have hcv := F.eq
    subst hcv
    have hds : ∃ d, ds = [d] ∧ excFld j = some f ∧ x = d := by
      have ev : evAttr f (.exc j ds) = some x := ev
      rcases ds with _ | ⟨d, _ | ⟨_, _⟩⟩ <;> first | (cases ev; done) | skip
      have ev : (if excFld j = some f then some d else none) = some x := ev
      split at ev
      · cases ev
        exact ⟨_, rfl, by assumption, rfl⟩
      · cases ev
    obtain ⟨d, rfl, hfl, rfl⟩ := hds
    have fl := F.fl
    have hsome := exfl_some fl
    unfold ExFl at fl
    rw [hfl] at fl
    obtain ⟨e, v, d', e1, e2, e3, e4⟩ := fl
    cases e1
    subst e2
    obtain ⟨od, J, hod⟩ := pin_inst I1 z hf hsome
    have hx : ObjOk X.prog X.w H1 s1.heap e (.xd [(f, v)]) := I1.hok e _ e3
    obtain ⟨mA, hns, hr⟩ := hx
    obtain ⟨o, ho, hlk'⟩ := lookIn_ns hns
    obtain ⟨o2, h2', rfl⟩ := hod e rfl
    rw [ho] at h2'
    cases h2'
    have hlk : ([(f, v)] : List (Str × V)).lookup f = some v := by simp [List.lookup]
    obtain ⟨u, hu, ru⟩ := RelO.some_of (v := v) (o := mA f) (by rw [← hlk]; exact hr f)
    have T := F.cx
    rw [G.K] at T
    have hno := F.fi f hfl
    rw [G.K] at hno
    exact HandSPX.exc_get I1.kIn J T.ga T.gt T.su (PySem.W.findObj_own T.hd hno rfl (by rw [hlk', hu])) (handed_of ru) ⟨v, H1, I1.tok _, ru, q v e4⟩
  | isi t =>
    cases e <;> first | (cases h; done) | skip
    rename_i g es ks pos
    cases g <;> first | (cases h; done) | skip
    rename_i x p
    rcases es with _ | ⟨e1, _ | ⟨e2, _ | ⟨_, _⟩⟩⟩
    · cases h
    · cases e1 <;> cases h
    rotate_left
    · cases e1 <;> first | (cases h; done) | (cases e2 <;> cases h)
    cases e1 <;> first | (cases h; done) | skip
    cases e2 <;> first | (cases h; done) | skip
    cases ks <;> first | (cases h; done) | skip
    rename_i y yp w wp
    obtain ⟨h, h5⟩ := and2 (show (decide (x = ("isinstance" : Str)) && k.blt x && decide (ny = some y) && k.vis y && (match tyName t with | some w' => decide (w = w') && k.blt w | none => false)) = true from h)
    obtain ⟨h, h4⟩ := and2 h
    obtain ⟨h, h3⟩ := and2 h
    obtain ⟨h1, h2⟩ := and2 h
    have h1 := of_decide_eq_true h1
    subst h1
    cases et : tyName t with
    | none => rw [et] at h5; cases h5
    | some w' =>
      rw [et] at h5
      obtain ⟨h6, h7⟩ := and2 h5
      have h6 := of_decide_eq_true h6
      subst h6
      obtain ⟨i, hi, hN⟩ := hn y (of_decide_eq_true h3)
      obtain ⟨hv, hp⟩ := vis_of G h4
      obtain ⟨y', t1, t2⟩ := boot_ty et
      obtain ⟨hg, hpn, hm⟩ := blt_of G h7
      obtain ⟨hg0, _, hm0⟩ := blt_of G h2
      refine ⟨fun pins s σ H Q I hq => ?_⟩
      obtain ⟨as, j, ds, x, hx, ev, q⟩ := hq
      have hl : i < σ.length := by
        rw [I.len]
        exact (List.getElem?_eq_some_iff.mp hN).1
      obtain ⟨C, F⟩ := G.exf j ds cv dd H hx
      have hcv := F.eq
      subst hcv
      obtain ⟨b, hb, rfl⟩ := Option.map_eq_some_iff.mp (show (D.isTy (.exc j ds) t).map D.bl = some x from ev)
      have hb0 : D.isTy (.exc j []) t = some b := by rw [← hb]; cases t <;> rfl
      have ki := F.ki t (.ty y') (.type y') b (.inl ⟨y', t1, rfl, rfl⟩) hb0
      have T := F.cx
      rw [G.K] at T ki
      have hA : PA (X.suite a ((a, oe) :: pn)) [.Name y yp, .Name w wp] (tCons (tVar i) (tCons (tC (.ty y')) tNil)) := pa_cons (pe_var (X := X.suite a ((a, oe) :: pn)) (i := i) hN hv (plain_db hp) (plain_cd hp)) (pa_cons (pe_bltn (X := X.suite a ((a, oe) :: pn)) hg hm t2 rfl (plain_nm hpn) (plain_db hpn)) pa_nil rfl) rfl
      have pr := pe_callB (X := X.suite a ((a, oe) :: pn)) (p := p) (pos := pos) (call_isiP (pn := pn) (a := a) T z hf) hg0 hm0 PyProof.Rows.boot_isinstance hA (by decide +kernel) (by decide +kernel) rfl rfl
      exact pr.run pins s σ H Q I ⟨.ref a, as i hi hl, .ty y', .type y', b, rfl, .ty y', ki, exfl_some F.fl, q _ rfl⟩
def tSL (c : Cc) (a : Addr) (cv : Value) (dd : Option Addr) (nm : Option Nat) (l : List SA) : TA := fun σ H Q => AsAt nm a σ ∧ ∃ j ds xs, c.exAt j ds cv dd H ∧ saL j ds l = some xs ∧ ∀ us, Paired flatR xs us → Q us H
theorem sl_ok (G : GX X c cf k W) (z : Zc cv dd oe) (hf : ∃ vs, oe.data = .fields vs) (hn : ∀ y, ny = some y → ∃ i, nm = some i ∧ X.N[i]? = some y) : ∀ {l : List SA} {es : List Expr}, ckSL k ny l es = true → PA (X.suite a ((a, oe) :: pn)) es (tSL c a cv dd nm l)
  | [], [], _ => PA.imp pa_nil fun σ H Q ⟨_, _, _, xs, _, e, q⟩ => by
    cases e
    exact q [] .nil
  | [], _ :: _, h => by cases h
  | _ :: _, [], h => by cases h
  | v :: l, e :: es, h => by
    obtain ⟨h, h3⟩ := and2 (show (!isStar e && ckSA k ny v e && ckSL k ny l es) = true from h)
    obtain ⟨h1, h2⟩ := and2 h
    refine PA.imp (pa_cons (sa_ok G z hf hn h2) (sl_ok G z hf hn h3) (star_ns (not1 h1))) fun σ H Q ⟨as, j, ds, xs, hx, e, q⟩ => ?_
    unfold saL at e
    split at e
    · rename_i x y e1 e2
      cases e
      exact ⟨as, j, ds, x, hx, e1, fun u hu => ⟨as, j, ds, y, hx, e2, fun us hus => q _ (.cons hu hus)⟩⟩
    · cases e
theorem repL_flat {c : Cc} {H : Hp} {N : Addr → Prop} : ∀ {xs : List Mi.D} {us : List V}, Paired flatR xs us → RepL c H N xs us
  | _, _, .nil => rfl
  | _, _, .cons h t => ⟨_, _, rfl, h.rep, repL_flat t⟩
/-- the value of a suite -/
def tSE (c : Cc) (a : Addr) (cv : Value) (dd : Option Addr) (nm : Option Nat) (v : SE) : TE := fun σ H Q => AsAt nm a σ ∧ ∃ j ds x, c.exAt j ds cv dd H ∧ v.ev j ds = some x ∧ (∃ N : Addr → Prop, (∀ x, N x → H x ≠ none) ∧ (∀ x, c.β = some x → N x)) ∧
  ∀ u H', Keep c H H' → (∀ x o, H x = some o → H' x = some o) → (∀ N : Addr → Prop, (∀ x, N x → H x ≠ none) → (∀ x, c.β = some x → N x) → Rep c H' N x u) → Q u H'
theorem paired_len {α β : Type} {R : α → β → Prop} : ∀ {xs : List α} {us : List β}, Paired R xs us → xs.length = us.length
  | _, _, .nil => rfl
  | _, _, .cons _ t => by rw [List.length_cons, List.length_cons, paired_len t]
theorem saL_len {j : Nat} {ds : List Mi.D} : ∀ {l : List SA} {xs : List Mi.D}, saL j ds l = some xs → xs.length = l.length
  | [], _, h => by cases h; rfl
  | v :: l, xs, h => by
    unfold saL at h
    split at h
    · rename_i x y e1 e2
      cases h
      rw [List.length_cons, List.length_cons, saL_len e2]
    · cases h
theorem se_ok (G : GX X c cf k W) (z : Zc cv dd oe) (hf : ∃ vs, oe.data = .fields vs) (hn : ∀ y, ny = some y → ∃ i, nm = some i ∧ X.N[i]? = some y) : ∀ {v : SE} {e : Expr}, ckSE k ny v e = true → PE (X.suite a ((a, oe) :: pn)) e (tSE c a cv dd nm v)
  | .one v, e, h => PE.imp (sa_ok G z hf hn (show ckSA k ny v e = true from h)) fun σ H Q ⟨as, j, ds, x, hx, e, ⟨N, h1, h2⟩, q⟩ => ⟨as, j, ds, x, hx, e, fun u hu => q u H .refl (fun _ _ h => h) fun N _ _ => hu.rep⟩
  | .lst l, e, h => by
    cases e <;> first | (cases h; done) | skip
    rename_i es p
    obtain ⟨h1, h2⟩ := and2 (show (ckSL k ny l es && decide (l.length ≤ 1000)) = true from h)
    have h2 := of_decide_eq_true h2
    refine PE.imp (pe_lst (sl_ok G z hf hn h1)) fun σ H Q ⟨as, j, ds, x, hx, e, ⟨N, hN1, hN2⟩, q⟩ => ?_
    obtain ⟨xs, e1, rfl⟩ := Option.map_eq_some_iff.mp (show (saL j ds l).map D.lst = some x from e)
    refine ⟨as, j, ds, xs, hx, e1, fun us hu => ⟨?_, fun p hp => q _ _ (.laid hp) (same_laid hp) fun N hN hb => ?_⟩⟩
    · rw [← paired_len hu, saL_len e1, sizeLine_eq]; omega
    · obtain ⟨a', xs', e2, _, e3, r⟩ := newLst (c := c) (ds := xs) hp (repL_flat (N := N) hu) hb
      cases e2
      exact ⟨p, xs', rfl, fun z => hN p z hp, e3, RepL.anti (fun b z => .inl (.inl z)) _ _ r⟩
  | .ite v b d, e, h => by
    cases e <;> first | (cases h; done) | skip
    rename_i x y w p
    obtain ⟨h, h4⟩ := and2 (show (isIsi v && ckSA k ny v x && ckSE k ny b y && ckSE k ny d w) = true from h)
    obtain ⟨h, h3⟩ := and2 h
    obtain ⟨h1, h2⟩ := and2 h
    have hx0 : ∀ {env : PySem.Env} (whole : Sem Value), isTrue x env whole = (do let v ← whole; standAt x.pos; holding [v] (truthy v)) := by
      intro env whole
      cases v <;> first | (cases h1; done) | skip
      cases x <;> first | (cases h2; done) | rfl
    refine PE.imp (pe_ifExp (pt_truth (sa_ok (pn := pn) (a := a) G z hf hn h2) fun whole => hx0 whole) (se_ok G z hf hn h3) (se_ok G z hf hn h4)) fun σ H Q ⟨as, j, ds, x, hx, e, hN, q⟩ => ?_
    have e : (match v.ev j ds with | some (.bl true) => b.ev j ds | some (.bl false) => d.ev j ds | _ => none) = some x := e
    split at e
    · rename_i ev
      refine ⟨as, j, ds, _, hx, ev, fun u hu => ⟨true, ?_, as, j, ds, x, hx, e, hN, q⟩⟩
      rw [show u = .bl true from hu]
      rfl
    · rename_i ev
      refine ⟨as, j, ds, _, hx, ev, fun u hu => ⟨false, ?_, as, j, ds, x, hx, e, hN, q⟩⟩
      rw [show u = .bl false from hu]
      rfl
    · cases e
/-- a clause's suite -/
def ckSuite (k : Ck) (h : Hd) (ny : Option Str) : List Stmt → Bool
  | [.Assign [.Name y _] e _] => !h.ret && decide (k.N[h.tgt]? = some y) && decide (k.sc.names.lookup y = some .local) && ckSE k ny h.e e
  | [.Return (some e) _] => h.ret && ckSE k ny h.e e
  | _ => false
def ckNm (k : Ck) (h : Hd) : Option Nat → Option Str → Bool
  | none, none => true
  | some i, some y => decide (k.N[i]? = some y) && decide (k.sc.names.lookup y = some .local) && (h.ret || decide (i ≠ h.tgt))
  | _, _ => false
def ckHd (k : Ck) (h : Hd) : ExceptHandler → Bool
  | .ExceptHandler (some (.Name x _)) ny suite _ => k.own h.k x && ckNm k h h.nm ny && ckSuite k h ny suite
  | _ => false
def ckHds (k : Ck) : List Hd → List ExceptHandler → Bool
  | [], [] => true
  | h :: hs, x :: xs => ckHd k h x && ckHds k hs xs
  | _, _ => false
theorem suite_ok (G : GX X c cf k W) {h : Hd} {suite : List Stmt} (hn : ∀ y, ny = some y → ∃ i, h.nm = some i ∧ X.N[i]? = some y) (hs : ckSuite k h ny suite = true) : ∃ b bs, suite = b :: bs ∧ SuiteOk X b bs (tSuite h (tVal c h)) := by
  have imp : ∀ {a : Addr} {cv : Value} {dd : Option Addr} {σ : L2.St} {H : Hp} {Q : VK}, tVal c h a cv dd σ H Q → tSE c a cv dd h.nm h.e σ H Q := fun ⟨as, j, ds, x, hx, e, hN, q⟩ => ⟨as, j, ds, x, hx, e, hN, q⟩
  unfold ckSuite at hs
  split at hs
  · rename_i y p1 e p2
    obtain ⟨hs, h4⟩ := and2 hs
    obtain ⟨hs, h3⟩ := and2 hs
    obtain ⟨h1, h2⟩ := and2 hs
    have h1 := not1 h1
    have h2 := of_decide_eq_true h2
    have h3 := of_decide_eq_true h3
    rw [← G.N] at h2
    rw [← G.sc] at h3
    refine ⟨_, _, rfl, fun a oe cls d pn z hf => ?_⟩
    have p := ps_set (X := X.suite a ((a, oe) :: pn)) (i := h.tgt) (pos := p2) (pos' := p1) G.nd h2 (.inl h3) (se_ok G z hf hn h4) (sw_name (se_lc h4)) (.inr h3)
    refine PSs.imp (pss_cons p pss_nil) fun D σ H hh => ?_
    unfold tSuite at hh
    rw [h1, if_neg (by decide)] at hh
    exact imp hh
  · rename_i e p2
    obtain ⟨h1, h4⟩ := and2 hs
    refine ⟨_, _, rfl, fun a oe cls d pn z hf => ?_⟩
    refine PSs.imp (pss_cons (ps_ret (pos := p2) (se_ok G z hf hn h4)) pss_nil) fun D σ H hh => ?_
    unfold tSuite at hh
    rw [if_pos h1] at hh
    exact imp hh
  · cases hs
theorem hds_ok (G : GX X c cf k W) : ∀ {hs : List Hd} {xs : List ExceptHandler}, ckHds k hs xs = true → ∃ l, HsOk X xs l ∧ HsR X.K X.mg k.cls c hs l
  | [], [], _ => ⟨[], .nil, .nil⟩
  | [], _ :: _, h => by cases h
  | _ :: _, [], h => by cases h
  | h :: hs, x :: xs, hc => by
    obtain ⟨h1, h2⟩ := and2 (show (ckHd k h x && ckHds k hs xs) = true from hc)
    obtain ⟨l, ok, r⟩ := hds_ok G h2
    obtain ⟨ty, ny, suite, q⟩ := x
    cases ty with
    | none => cases h1
    | some ty =>
      cases ty <;> first | (cases h1; done) | skip
      rename_i w p
      obtain ⟨h1, h3⟩ := and2 (show (k.own h.k w && ckNm k h h.nm ny && ckSuite k h ny suite) = true from h1)
      obtain ⟨h1, h4⟩ := and2 h1
      obtain ⟨n1, n2, n3, n4⟩ := own_of G h1
      obtain ⟨C, hC⟩ := G.own h.k n4
      have nms : Names X w (.ref C) := ⟨n2, plain_db n3, .inl (by rw [n1]; exact hC)⟩
      cases hnm : h.nm with
      | none =>
        cases ny with
        | some _ => rw [hnm] at h4; cases h4
        | none =>
          obtain ⟨b, bs, rfl, so⟩ := suite_ok G (fun y z => by cases z) h3
          have := HsR.cons (K := X.K) n4 hC (fun i z => by rw [hnm] at z; cases z) r
          rw [hnm] at this
          exact ⟨_, .bare nms so ok, this⟩
      | some i =>
        cases ny with
        | none => rw [hnm] at h4; cases h4
        | some y =>
          rw [hnm] at h4
          obtain ⟨h4, h6⟩ := and2 (show (decide (k.N[i]? = some y) && decide (k.sc.names.lookup y = some .local) && (h.ret || decide (i ≠ h.tgt))) = true from h4)
          obtain ⟨h4, h5⟩ := and2 h4
          have h4 := of_decide_eq_true h4
          have h5 := of_decide_eq_true h5
          rw [← G.N] at h4
          rw [← G.sc] at h5
          obtain ⟨b, bs, rfl, so⟩ := suite_ok G (fun y' z => ⟨i, hnm, by cases z; exact h4⟩) h3
          have := HsR.cons (K := X.K) n4 hC (fun j z => by
            rw [hnm] at z
            cases z
            rw [Bool.or_eq_true] at h6
            exact h6.symm.imp of_decide_eq_true id) r
          rw [hnm] at this
          exact ⟨_, .named nms h4 h5 so ok, this⟩
end
end Mi
namespace Mi
open PySem L2
section
variable {c : Cc} {cf : Cfg} {W : WX} {σ σ' σ1 σ2 : L2.St} {H H1 H2 H' : Hp} {N N0 : Addr → Prop} {s s' s1 s2 : Env} {b : Bx} {D : Ends}
/-- where an own list is written -/
theorem own_frame {i : Nat} {ds : List Mi.D} {a : Addr} {o : HO} {b1 : Bx} (R : Rel c H N0 σ s) (k1 : Keep c H H1) (ei : s[i]? = some (.ow (.lst ds))) (ea : σ[i]? = some (some (.ref a))) (n0 : ¬ N0 a) (B1 : BoxAt c H1 b1) (h1 : H1 a ≠ none) :
    BoxAt c (upd H1 a o) b1 ∧ FrK c H σ s (upd H1 a o) := by
  have ba : c.β ≠ some a := fun z => n0 (R.bet a z)
  refine ⟨?_, fun y u hb hn e => ?_, fun y e => ?_⟩
  · cases b1 with
    | none => trivial
    | some p =>
      obtain ⟨i1, i2, i3⟩ := p
      obtain ⟨y, z1, z2⟩ := B1
      exact ⟨y, z1, by rw [upd_ne (fun z => ba (by rw [← z]; exact z1))]; exact z2⟩
  · rw [upd_ne (fun z => hn (by rw [z]; exact ⟨i, _, ei, ea⟩))]
    exact k1.kp y u hb e
  · by_cases ey : y = a
    · rw [ey, upd_same] at e; cases e
    · rw [upd_ne ey] at e
      exact k1.fr y e
theorem rd_ext {i : Nat} {e : ME} (h : rdS c N0 W (exS cf (.ext i e)) D σ H) : tDrop (tBM c.K "list" rExtend (tVar i) (tCons (rd c (pE c) W (evE cf e)) tNil)) D σ H := by
  obtain ⟨s, b, R, B, h⟩ := h
  have e0 : exS cf (.ext i e) s = (match s[i]? with
    | some (.ow (.lst xs)) => (evE cf e s).bd fun v => (match v with
      | .lst ys => if xs.length + ys.length ≤ lineMax then M.ret (.nx, s.set i (.ow (.lst (xs ++ ys)))) else M.no
      | _ => M.no)
    | _ => M.no) := rfl
  rw [e0] at h
  cases ei : s[i]? with
  | none => rw [ei] at h; exact h.elim
  | some x =>
    rw [ei] at h
    cases x with
    | no => exact h.elim
    | vl d => exact h.elim
    | ow d =>
      cases d <;> first | exact h.elim | skip
      rename_i ds
      obtain ⟨a, h1, ⟨xs, h2, q⟩, n0⟩ := R.ow i _ ei
      refine ⟨.ref a, h1, .inl ⟨rfl, xs, .inl (.of h2)⟩, N0, s, b, R, B, Out.mono (OutS.bd (Rp := fun H' => pE c H H' N0 (Nof N0 σ s)) h) fun v H1 ⟨x, b1, k1, B1, r1, h3⟩ => ?_⟩
      have R1 := R.keep k1
      have ha1 : H1 a = some (.lst xs) := k1.kp a _ (fun z => n0 (R.bet a z)) h2
      cases x <;> first | exact h3.elim | skip
      rename_i ys
      obtain ⟨p, vs, rfl, np, hp, q2⟩ := r1
      have hl : ds.length + ys.length ≤ lineMax := Classical.byContradiction fun z => by
        have h3 : OutS c N0 W D σ H s ((if ds.length + ys.length ≤ lineMax then M.ret (Flow.nx, s.set i (.ow (.lst (ds ++ ys)))) else M.no) b1) := h3
        rw [if_neg z] at h3
        exact h3.elim
      have h3 : OutS c N0 W D σ H s ((if ds.length + ys.length ≤ lineMax then M.ret (Flow.nx, s.set i (.ow (.lst (ds ++ ys)))) else M.no) b1) := h3
      rw [if_pos hl] at h3
      obtain ⟨R2, own⟩ := R1.write ei h1 (RepL.append (q.keep k1 R.betN) q2)
      obtain ⟨B2, F⟩ := own_frame (o := .lst (xs ++ vs)) R k1 ei h1 n0 B1 (by rw [ha1]; exact fun z => nomatch z)
      refine ⟨a, p, xs, vs, rfl, rfl, ha1, hp, ?_, h3 σ _ R2 B2 ⟨F, fun y z => .inl (own y z)⟩⟩
      have := q.length
      have := q2.length
      have := line_ok hl
      omega
theorem rd_pop {t i : Nat} {fst : Bool} (h : rdS c N0 W (exS cf (.pop t i fst)) D σ H) :
    (fst = true → tAsg (tBM c.K "list" rPopAt (tVar i) (tCons (tC (.int 0)) tNil)) (gName t) D σ H) ∧ (fst = false → tAsg (tBM0 c.K "list" rPop (tVar i)) (gName t) D σ H) := by
  obtain ⟨s, b, R, B, h⟩ := h
  have e0 : exS cf (.pop t i fst) s = (match s[i]? with
    | some (.ow (.lst xs)) => if t < s.length ∧ t ≠ i then (if fst then (match xs with
        | x :: r => M.ret (.nx, (s.set i (.ow (.lst r))).set t (.vl x))
        | [] => M.no)
      else (match xs[xs.length - 1]? with
        | some x => M.ret (.nx, (s.set i (.ow (.lst xs.dropLast))).set t (.vl x))
        | none => M.no)) else M.no
    | _ => M.no) := rfl
  rw [e0] at h
  cases ei : s[i]? with
  | none => rw [ei] at h; exact h.elim
  | some x =>
    rw [ei] at h
    cases x with
    | no => exact h.elim
    | vl d => exact h.elim
    | ow d =>
      cases d <;> first | exact h.elim | skip
      rename_i ds
      obtain ⟨a, h1, ⟨xs, h2, q⟩, n0⟩ := R.ow i _ ei
      have h : OutS c N0 W D σ H s ((if t < s.length ∧ t ≠ i then (if fst then (match (generalizing := false) ds with
        | x :: r => M.ret (Flow.nx, (s.set i (.ow (.lst r))).set t (.vl x))
        | [] => M.no)
      else (match ds[ds.length - 1]? with
        | some x => M.ret (Flow.nx, (s.set i (.ow (.lst ds.dropLast))).set t (.vl x))
        | none => M.no)) else M.no) b) := h
      have ht : t < s.length ∧ t ≠ i := Classical.byContradiction fun z => by rw [if_neg z] at h; exact h.elim
      rw [if_pos ht] at h
      have fin : ∀ {ds' : List Mi.D} {ys : List V} {x : Mi.D} {v : V}, RepL c H (Nof N0 σ s) ds' ys → Rep c H (Nof N0 σ s) x v → OutS c N0 W D σ H s (M.ret (Flow.nx, (s.set i (.ow (.lst ds'))).set t (.vl x)) b) → D.nx (σ.set t (some v)) (upd H a (.lst ys)) := by
        intro ds' ys x v q' rx hh
        obtain ⟨R2, own⟩ := R.write ei h1 q'
        obtain ⟨B2, F⟩ := own_frame (o := .lst ys) R Keep.refl ei h1 n0 B (by rw [h2]; exact fun z => nomatch z)
        have rx2 : Rep c (upd H a (.lst ys)) (Nof N0 σ (s.set i (.ow (.lst ds')))) x v := by
          have k : KeepN (Nof N0 σ s) H (upd H a (.lst ys)) := fun y o n h => by rw [upd_ne (fun z => n (by rw [z]; exact .inr ⟨i, _, ei, h1⟩))]; exact h
          exact (Rep.keepN k _ _ rx).sub fun y z => z.imp id fun z => own y z
        exact hh _ _ (R2.setVl rx2 t (by rw [List.length_set]; exact ht.1)) B2 ⟨F, fun y z => .inl (own y (own_set (y := .vl _) (fun _ z => nomatch z) z))⟩
      refine ⟨fun e => ?_, fun e => ?_⟩
      · subst e
        rw [if_pos rfl] at h
        cases ds with
        | nil => exact h.elim
        | cons x r =>
          obtain ⟨v, vs, rfl, rx, qr⟩ := id q
          exact ⟨.ref a, h1, .inl ⟨rfl, _, .inl (.of h2)⟩, a, v :: vs, 0, 0, v, rfl, rfl, h2, by decide, by decide, by
            unfold seqIndex?
            simp, rfl, fin qr rx h⟩
      · subst e
        rw [if_neg (by decide)] at h
        cases hx : ds[ds.length - 1]? with
        | none => rw [hx] at h; exact h.elim
        | some x =>
          rw [hx] at h
          obtain ⟨v, hv, rx⟩ := q.get hx
          have ql := q.length
          refine ⟨.ref a, h1, .inl ⟨rfl, _, .inl (.of h2)⟩, a, xs, v, rfl, rfl, h2, by rw [← ql]; exact hv, ?_⟩
          refine fin ?_ rx h
          rw [List.dropLast_eq_take, List.dropLast_eq_take, ← ql]
          exact q.take _
theorem rd_while {t : ME} {dead : List Nat} {bd : MSs} (h : rdS c N0 W (exS cf (.while_ t dead bd)) D σ H) : tWhile (rd c (pX (α := Bool)) W (evT cf t)) (rdS c N0 W (exSs cf bd)) D σ H := by
  obtain ⟨s, b, R, B, h⟩ := h
  have h : OutS c N0 W D σ H s (whileGo dead (evT cf t) (exSs cf bd) fuelW s b) := h
  refine ⟨fun m σi Hi => ∃ si bi, Rel c Hi N0 σi si ∧ BoxAt c Hi bi ∧ Fr c H σ s Hi σi si ∧ OutS c N0 W D σ H s (whileGo dead (evT cf t) (exSs cf bd) m si bi), ⟨fuelW, s, b, R, B, .refl, h⟩, ?_⟩
  rintro m σi Hi ⟨si, bi, Ri, Bi, f, h⟩
  cases m with
  | zero => exact h.elim
  | succ m =>
    have h : OutS c N0 W D σ H s (((evT cf t si).bd fun k => if k then (exSs cf bd si).bd fun p => (match p.1 with
      | .nx => whileGo dead (evT cf t) (exSs cf bd) m (p.2.kill dead)
      | .ct => whileGo dead (evT cf t) (exSs cf bd) m (p.2.kill dead)
      | .bk => M.ret (.nx, p.2)
      | .rt v => M.ret (.rt v, p.2)) else M.ret (.nx, si)) bi) := h
    refine ⟨N0, si, bi, Ri, Bi, ?_⟩
    unfold M.bd at h
    cases et : evT cf t si bi with
    | no => rw [et] at h; exact h
    | ex k as b1 =>
      rw [et] at h
      exact fun cls dd H' g B x => h cls dd σi H' (f.transK g.frk) B x
    | ok kk b1 =>
      rw [et] at h
      intro v H1 K1 B1 ev
      obtain rfl : kk = v := ev
      have f1 : Fr c H σ s H1 σi si := f.trans K1.frl
      have R1 := Ri.keep K1
      cases kk with
      | false => exact h σi H1 R1 B1 f1
      | true =>
        rw [if_pos rfl]
        refine ⟨fun σ' H' => ∃ si bi, Rel c H' N0 σ' si ∧ BoxAt c H' bi ∧ Fr c H σ s H' σ' si ∧ OutS c N0 W D σ H s (whileGo dead (evT cf t) (exSs cf bd) m si bi), fun σ' H' z => ⟨m, Nat.lt_succ_self m, z⟩, si, b1, R1, B1, ?_⟩
        simp only [if_true] at h
        cases eb : exSs cf bd si b1 with
        | no => rw [eb] at h; exact h
        | ex k as b2 =>
          rw [eb] at h
          exact fun cls dd σ' H' g B x => h cls dd σ' H' (f1.transK g) B x
        | ok p b2 =>
          rw [eb] at h
          obtain ⟨fl, s2⟩ := p
          have go : OutS c N0 W D σ H s (whileGo dead (evT cf t) (exSs cf bd) m (s2.kill dead) b2) → ∀ σ' H', Rel c H' N0 σ' s2 → BoxAt c H' b2 → Fr c H1 σi si H' σ' s2 →
              ∃ si bi, Rel c H' N0 σ' si ∧ BoxAt c H' bi ∧ Fr c H σ s H' σ' si ∧ OutS c N0 W D σ H s (whileGo dead (evT cf t) (exSs cf bd) m si bi) := fun h4 σ' H' R' B' g => by
            obtain ⟨R3, own⟩ := R'.drops dead
            have f3 := f1.trans g
            exact ⟨_, b2, R3, B', ⟨f3.toFrK, fun a z => f3.ow a (own a z)⟩, h4⟩
          cases fl with
          | nx => exact go h
          | ct => exact go h
          | rt d => exact fun v H' g B r => h v H' (f1.transK g) B r
          | bk => exact fun σ' H' R' B' g => h σ' H' R' B' (f1.trans g)
end
end Mi
namespace Mi
open PySem L2
def isFr0 : ME → Bool
  | .lst _ => true
  | .comp _ _ _ _ _ => true
  | .comp2 _ _ _ _ _ _ _ => true
  | .op .add _ _ => true
  | .op .mul _ _ => true
  | .sl _ _ _ => true
  | .bi .list _ => true
  | .bi .sortSet _ => true
  | .bi .sort _ => true
  | _ => false
def isFr (e : ME) : Bool := isFr0 e || (match e with
  | .orE (.cons false a (.cons false b .nil)) => isFr0 a && isFr0 b
  | _ => false)
def isNameE : Expr → Bool
  | .Name _ _ => true
  | _ => false
/-- a name that is no plain local one -/
def noLoc (sc : Scope) : Expr → Bool
  | .Name x _ => !(sc.names.lookup x == some .local)
  | _ => true
/-- a tuple of targets is not stored from the right -/
def ckSw (sc : Scope) : Expr → Expr → Bool
  | .Tuple ts _ _, .Tuple vs _ _ => vs.all (foldedForSure 8) || ts.any (noLoc sc)
  | .List _ _, _ => false
  | _, _ => true
def isSlotT : MT → Bool
  | .slot _ => true
  | _ => false
def isCompM : ME → Bool
  | .comp _ _ _ _ _ => true
  | .comp2 _ _ _ _ _ _ _ => true
  | _ => false
mutual
/-- exceptions fly where the slots are as they were -/
def straight1 : MS → Bool
  | .ret _ => true
  | .expr _ => true
  | .asg false (.slot _) e => !isCompM e
  | .raise _ _ => true
  | .ite _ a b => straight a && straight b
  | _ => false
def straight : MSs → Bool
  | .nil => true
  | .cons m r => match r with
    | .nil => straight1 m
    | .cons _ _ => (match m with
      | .ite _ (.cons (.ret _) .nil) .nil => straight r
      | _ => false)
end
mutual
def ckS (k : Ck) : MS → Stmt → Bool
  | .asg own t e, .Assign [tg] x _ => ckE k false e x && !isStar tg && ckT k t tg && ckSw k.sc tg x && (!own || (isFr e && isSlotT t))
  | .par i j oi oj a b, .Assign [.Tuple [.Name x px, .Name y py] _ _] (.Tuple [u, v] _ _) _ => decide (k.N[i]? = some x) && decide (k.N[j]? = some y) && decide (i ≠ j) && decide (x ≠ y) && decide (k.sc.names.lookup x = some .local) && decide (k.sc.names.lookup y = some .local) &&
      ckE k false a u && ckE k false b v && (!oi || isFr a) && (!oj || isFr b) && !isStar u && !isStar v && (px.line == py.line) && !(foldedForSure 8 u && foldedForSure 8 v) && !(constantsAlone 8 u && constantsAlone 8 v)
  | .app i e, .Expr (.Call (.Attribute (.Name x _) m ap) [y] [] cp) _ => decide (m = ("append" : Str)) && decide (k.N[i]? = some x) && k.vis x && ckE k false e y && !isStar y && (ap.endLine == cp.line)
  | .bset i a e, .Assign [.Subscript (.Name y _) z _] x _ => decide (k.N[i]? = some y) && k.vis y && ckE k true a z && ckE k false e x && !isSlice z
  | .seti i a e, .Assign [.Subscript (.Name y _) z _] x _ => decide (k.N[i]? = some y) && k.vis y && ckE k true a z && ckE k false e x && !isSlice z
  | .ret e, .Return (some x) _ => ckE k false e x
  | .retN, .Return none _ => true
  | .ite t a b, .If c p q _ => ckE k true t c && ckSs k a p && ckSs k b q
  | .for_ t r _ b, .For tg it body [] _ => ckSrc k false r it tg && !isSetE it && ckT k t tg && ckSs k b body
  | .expr e, .Expr x _ => ckE k false e x && !isLc x
  | .pass, .Pass _ => true
  | .pass, .Expr (.Constant (.str _) _ _) _ => true
  | .stuck, _ => true
  | .raise j es, .Raise (some (.Call (.Name y _) zs [] _)) none _ => k.own j y && (match es, zs with
    | .cons false e .nil, [z] => (excFld j).isSome && ckE k false e z && !isStar z
    | .nil, [] => (excFld j).isNone
    | _, _ => false)
  | .try_ b hs, .Try body xs [] [] _ => straight b && ckSs k b body && ckHds k hs xs && !xs.isEmpty
  | .ext i e, .Expr (.Call (.Attribute (.Name x _) m ap) [y] [] cp) _ => decide (m = ("extend" : Str)) && decide (k.N[i]? = some x) && k.vis x && ckE k false e y && !isStar y && (ap.endLine == cp.line)
  | .pop t i fst, .Assign [.Name y _] (.Call (.Attribute (.Name x _) m ap) zs [] cp) _ => decide (m = ("pop" : Str)) && decide (k.N[i]? = some x) && k.vis x && decide (k.N[t]? = some y) && decide (k.sc.names.lookup y = some .local) && (ap.endLine == cp.line) && (match fst, zs with
    | true, [.Constant (.int j) _ _] => decide (j = 0)
    | false, [] => true
    | _, _ => false)
  | .while_ t _ b, .While x body [] _ => ckE k true t x && ckSs k b body
  | .brk, .Break _ => true
  | .cont, .Continue _ => true
  | _, _ => false
def ckSs (k : Ck) : MSs → List Stmt → Bool
  | .nil, ss => ss.isEmpty
  | .cons s r, ss => match s with
    | .share _ => ckSs k r ss
    | s => match ss with
      | [] => false
      | x :: xs => ckS k s x && ckSs k r xs
end
section
variable {X : Cx} {c : Cc} {cf : Cfg} {k : Ck} {W : WX} {N0 : Addr → Prop} {x : Expr}
structure GS (X : Cx) (c : Cc) (cf : Cfg) (k : Ck) (W : WX) : Prop extends GX X c cf k W where
  po : PassesOwn (model X.prog X.w) X.A X.env X.xe
  stk : X.stack = X.env :: X.outer
  frm : X.env.frame = some X.env.locals
  blk : X.env.blockKind = .function
theorem RepW.e' {H : Hp} {N : Addr → Prop} {d : Mi.D} {v : V} (r : Rep c H N d v) : RepW c H N N d v := by
  cases d <;> exact r
theorem sF0 {e : ME} (G : GX X c cf k W) (hf : isFr0 e = true) (h : ckE k false e x = true) : PE X x (rd c (pF c) W (evE cf e)) := by
  cases e <;> first | (cases hf; done) | skip
  · exact (nd_lst G (sEs _ X k W G) h).f
  · exact (nd_op G (sE _ X k W G) (sE _ X k W G) h).f
  · exact (nd_sl G (sE _ X k W G) (sO _ X k W G) (sO _ X k W G) h).f
  · exact (nd_bi G (sE _ X k W G) h).f
  · exact (nd_comp G (sSrc _ X k W G true) (sE _) (sTs' _) h).1.f
  · exact (nd_comp2 G (sSrc _ X k W G true) (fun X k W G => sSrc _ X k W G true) (sE _) (sTs' _) h).1.f
/-- or of two new ones -/
theorem rd_orF {a b : ME} {Q : VK} {σ : L2.St} {H : Hp} (h : rd c (pF c) W (evE cf (.orE (.cons false a (.cons false b .nil)))) σ H Q) :
    tOrT c.K (rd c (pF c) W (evE cf a)) (rd c (pF c) W (evE cf b)) σ H Q := by
  obtain ⟨N0, s, bx, R, B, h⟩ := h
  refine ⟨N0, s, bx, R, B, Out.mono (Out.bd0 (Rp := fun H' => pF c H H' N0 (Nof N0 σ s)) h) fun vx H1 ⟨x, b1, k1, B1, r1, h1⟩ => ?_⟩
  have R1 := R.keep k1
  have rw1 : RepW c H1 (Nof N0 σ s) (Nof N0 σ s) x vx := RepW.e' (RepF.rep r1 fun a z => R.domN z)
  obtain ⟨t, e, h2⟩ := h1.ofObd
  refine ⟨t, tru_of rw1 e, ?_⟩
  cases t with
  | true => exact h2 _ _ k1 B1 r1
  | false =>
    have h3 := Out.later h2 k1
    exact ⟨N0, s, b1, R1, B1, h3.rp fun H' d v kk q => q.base k1⟩
theorem sF (e : ME) {x : Expr} (G : GX X c cf k W) (hf : isFr e = true) (h : ckE k false e x = true) : PE X x (rd c (pF c) W (evE cf e)) := by
  by_cases h0 : isFr0 e = true
  · exact sF0 G h0 h
  have inv : ∃ a b, e = .orE (.cons false a (.cons false b .nil)) ∧ isFr0 a = true ∧ isFr0 b = true := by
    unfold isFr at hf
    rw [Bool.or_eq_true] at hf
    rcases hf with hf | hf
    · exact absurd hf h0
    · split at hf
      · exact ⟨_, _, rfl, (and2 hf).1, (and2 hf).2⟩
      · cases hf
  obtain ⟨a, b, rfl, f1, f2⟩ := inv
  cases x <;> first | (cases h; done) | skip
  rename_i o xs p
  cases o <;> first | (cases h; done) | skip
  obtain ⟨h1, h2⟩ := and2 (show (ckBs k false (.cons false a (.cons false b .nil)) xs && !xs.isEmpty) = true from h)
  rcases xs with _ | ⟨x1, _ | ⟨x2, _ | ⟨_, _⟩⟩⟩
  · cases h1
  · obtain ⟨_, h3⟩ := and2 (show (ckE k false a x1 && ckBs k false (.cons false b .nil) []) = true from h1)
    cases h3
  · obtain ⟨h3, h4⟩ := and2 (show (ckE k false a x1 && (ckE k false b x2 && ckBs k false .nil [])) = true from h1)
    obtain ⟨h4, _⟩ := and2 h4
    exact PE.imp (pe_orT (sF0 G f1 h3) (pe_one (sF0 G f2 h4))) fun σ H Q h => by
      have h := rd_orF h
      rw [G.K] at h
      exact h
  · obtain ⟨_, h4⟩ := and2 (show (ckE k false a x1 && (ckE k false b x2 && ckBs k false .nil _)) = true from h1)
    obtain ⟨_, h4⟩ := and2 h4
    cases h4
theorem sFo {o : Bool} (e : ME) {x : Expr} (G : GX X c cf k W) (hf : (!o || isFr e) = true) (h : ckE k false e x = true) : PE X x (rd c (pO c o) W (evE cf e)) := by
  cases o with
  | true => exact PE.imp (sF e G hf h) fun σ H Q ⟨N0, s, b, R, B, h⟩ => ⟨N0, s, b, R, B, h⟩
  | false => exact PE.imp (PE.v0 (sE e X k W G false x h).v) fun σ H Q ⟨N0, s, b, R, B, h⟩ => ⟨N0, s, b, R, B, h⟩
theorem sw_tup {es : List Expr} {j : Nat} {py : Pos} {n : Nat} {env : PySem.Env} : swapsWith x (some (.Tuple es j py)) n env = pure false := by
  cases x <;> rfl
theorem ss_name {y : Str} {py : Pos} {env : PySem.Env} : swappedStores [.Name y py] x env = pure none := by
  cases x <;> rfl
theorem flt_ne {α β : Type} {f : α → Option β} : ∀ {xs : List α}, (∃ a ∈ xs, f a = none) → (xs.filterMap f).length ≠ xs.length
  | [], ⟨_, h, _⟩ => nomatch h
  | x :: xs, ⟨a, h, e⟩ => by
    have le := List.length_filterMap_le f xs
    rcases List.mem_cons.mp h with rfl | h
    · rw [List.filterMap_cons_none e, List.length_cons]
      omega
    · cases hx : f x with
      | none =>
        rw [List.filterMap_cons_none hx, List.length_cons]
        omega
      | some b =>
        have := flt_ne (f := f) ⟨a, h, e⟩
        rw [List.filterMap_cons_some hx, List.length_cons, List.length_cons]
        omega
theorem ss_tup {ts : List Expr} {j : Nat} {py : Pos} {env : PySem.Env} {sc : Scope} (hsc : env.scope = sc) (h : ckSw sc (.Tuple ts j py) x = true) : swappedStores [.Tuple ts j py] x env = pure none := by
  cases x <;> first | rfl | skip
  rename_i vs j2 p2
  rcases (Bool.or_eq_true _ _).mp (show (vs.all (foldedForSure 8) || ts.any (noLoc sc)) = true from h) with h | h
  · unfold swappedStores
    simp only [h, if_true]
    repeat' split
    all_goals rfl
  · obtain ⟨a, ha, hn⟩ := List.any_eq_true.mp h
    unfold swappedStores
    dsimp only
    have key : ∀ line : Nat, ((ts.filterMap fun
        | .Name id pos => if env.kindOf id == some .local && pos.line == line then some id else none
        | _ => none).length != ts.length) = true := fun line => by
      refine bne_iff_ne.mpr (flt_ne ⟨a, ha, ?_⟩)
      cases a <;> first | rfl | skip
      rename_i id pos
      have hn : (!(sc.names.lookup id == some .local)) = true := hn
      show (if env.kindOf id == some .local && pos.line == line then some id else none) = none
      unfold Env.kindOf
      rw [hsc, (Bool.not_eq_true' _).mp hn]
      rfl
    have kk := key ((ts.head?.map fun x => x.pos.line).getD 0)
    split
    · rfl
    · split
      · rfl
      · split
        · rfl
        · rename_i hx
          exact absurd ((Bool.or_eq_true _ _).mpr (.inl kk)) hx
theorem asg1 {tg : Expr} {env : PySem.Env} (h : isStar tg = false) : (assignEach [tg] env).map (·.2) = [assign tg env] := by
  rw [assign_ns h]
  rfl
abbrev St_ (X : Cx) (c : Cc) (cf : Cfg) (N0 : Addr → Prop) (W : WX) (m : MS) (st : Stmt) : Prop := PS X st (rdS c N0 W (exS cf m))
theorem sole {tg : Expr} {n : Nat} {env : PySem.Env} : swapsWithSole [tg] x n env = swapsWith x (some tg) n env := rfl
/-- a name stored: what is new -/
theorem st_slot {i : Nat} {e : ME} {y : Str} {py pos : Pos} {t' : TS} (G : GS X c cf k W) (hf : PE X x (rd c (pF c) W (evE cf e))) (hlc : isLc x = false) (hN : k.N[i]? = some y) (hl : k.loc y = true)
    (h : ∀ D σ H, t' D σ H → tAsg (rd c (pF c) W (evE cf e)) (gName i) D σ H) : PS X (.Assign [.Name y py] x pos) t' := by
  have hl' : L2.Loc X.env.scope y ∧ (X.fn y = true ∨ X.env.scope.names.lookup y = some .local) := by
    unfold Ck.loc at hl
    unfold L2.Loc
    rw [G.sc]
    split at hl
    · rename_i e; exact ⟨.inl e, .inr e⟩
    · rename_i e; exact ⟨.inr e, .inl (G.fn y hl)⟩
    · cases hl
  exact PS.imp (ps_set (i := i) G.nd (by rw [G.N]; exact hN) hl'.1 hf (sw_name hlc) hl'.2) h
theorem st_lc {i : Nat} {e : ME} {y : Str} {py pos : Pos} {t' : TS} (G : GS X c cf k W) (hq : isCompM e = true) (h1 : ckE k false e x = true) (hN : k.N[i]? = some y) (hl : k.loc y = true)
    (h : ∀ D σ H, t' D σ H → tAsg (rd c (pF c) W (evE cf e)) (gName i) D σ H) : PS X (.Assign [.Name y py] x pos) t' := by
  have hl' : L2.Loc X.env.scope y ∧ (X.fn y = true ∨ X.env.scope.names.lookup y = some .local) := by
    unfold Ck.loc at hl
    unfold L2.Loc
    rw [G.sc]
    split at hl
    · rename_i e; exact ⟨.inl e, .inr e⟩
    · rename_i e; exact ⟨.inr e, .inl (G.fn y hl)⟩
    · cases hl
  have key : Okf X c cf W false e x ∧ (∃ elt gs scope lp, x = .ListComp elt gs scope lp) ∧
      ∀ (i : Nat) (y : Str) (py spos : Pos), X.N[i]? = some y → X.env.scope.names.lookup y = some .local → swapsWith x (some (.Name y py)) spos.line X.env = pure true → PS X (.Assign [.Name y py] x spos) (tAsg (rd c (pF c) W (evE cf e)) (gName i)) := by
    cases e <;> first | (cases hq; done) | skip
    · obtain ⟨z, elt, tg, iter, cs, scope, lp, rfl, hsw⟩ := nd_comp G.toGX (sSrc _ X k W G.toGX true) (sE _) (sTs' _) h1
      exact ⟨z, ⟨_, _, _, _, rfl⟩, hsw⟩
    · obtain ⟨elt, tg, iter, tg2, iter2, cs, scope, lp, rfl⟩ := inv_comp2 h1
      obtain ⟨z, hsw⟩ := nd_comp2 G.toGX (sSrc _ X k W G.toGX true) (fun X k W G => sSrc _ X k W G true) (sE _) (sTs' _) h1
      exact ⟨z, ⟨_, _, _, _, rfl⟩, hsw⟩
  obtain ⟨z, ⟨elt, gs, scope, lp, rfl⟩, hsw⟩ := key
  have e0 : swapsWith (.ListComp elt gs scope lp) (some (.Name y py)) pos.line X.env = pure (X.env.blockKind == .function && X.env.kindOf y == some .local && py.line == lp.line && !(scope.names.any fun (n, k) => n == y && (k == .local || k == .cell))) := rfl
  cases eb : (X.env.blockKind == .function && X.env.kindOf y == some .local && py.line == lp.line && !(scope.names.any fun (n, k) => n == y && (k == .local || k == .cell))) with
  | false =>
    rw [eb] at e0
    exact PS.imp (ps_set (i := i) G.nd (by rw [G.N]; exact hN) hl'.1 z.f e0 hl'.2) h
  | true =>
    rw [eb] at e0
    obtain ⟨eb, _⟩ := and2 eb
    obtain ⟨eb, _⟩ := and2 eb
    obtain ⟨_, eb⟩ := and2 eb
    have hloc : X.env.scope.names.lookup y = some .local := by
      have eb : (X.env.scope.names.lookup y == some .local) = true := eb
      cases q : X.env.scope.names.lookup y with
      | none => rw [q] at eb; cases eb
      | some kd => rw [q] at eb; cases kd <;> first | rfl | cases eb
    exact PS.imp (hsw i y py pos (by rw [G.N]; exact hN) hloc e0) h
theorem lc_comp {w : Bool} {e : ME} (h : ckE k w e x = true) (hc : isCompM e = false) : isLc x = false := by
  cases x <;> first | rfl | skip
  all_goals
    exfalso
    cases e <;> first | (cases h; done) | (cases hc; done) | skip
    · rename_i a o ts
      cases o <;> (rcases ts with _ | ⟨_, _ | ⟨_, _⟩⟩ <;> cases h)
    · rename_i f es
      rcases es with _ | ⟨st, e, _ | ⟨_, _, _⟩⟩ <;> first | (cases h; done) | (cases st <;> cases h)
    · rename_i f e
      cases e <;> cases h
theorem st_asg {own : Bool} {t : MT} {e : ME} {st : Stmt} (G : GS X c cf k W) (h : ckS k (.asg own t e) st = true) : St_ X c cf N0 W (.asg own t e) st := by
  cases st <;> first | (cases h; done) | skip
  rename_i tgs x pos
  rcases tgs with _ | ⟨tg, _ | ⟨_, _⟩⟩ <;> first | (cases h; done) | skip
  obtain ⟨h, h5⟩ := and2 (show (ckE k false e x && !isStar tg && ckT k t tg && ckSw k.sc tg x && (!own || (isFr e && isSlotT t))) = true from h)
  obtain ⟨h, h4⟩ := and2 h
  obtain ⟨h, h3⟩ := and2 h
  obtain ⟨h1, h2⟩ := and2 h
  cases t with
  | slot i =>
    have hn : ∃ y py, tg = .Name y py := by cases tg <;> first | exact ⟨_, _, rfl⟩ | cases h3
    obtain ⟨y, py, rfl⟩ := hn
    obtain ⟨h6, h7⟩ := and2 (show (decide (k.N[i]? = some y) && k.loc y) = true from h3)
    have h6 := of_decide_eq_true h6
    cases own with
    | true =>
      obtain ⟨h8, _⟩ := and2 (show (isFr e && true) = true from h5)
      cases hc : isCompM e with
      | true => exact st_lc G hc h1 h6 h7 fun D σ H h => rd_asgO h
      | false =>
        have hlc : isLc x = false := lc_comp h1 hc
        exact st_slot G (sF e G.toGX h8 h1) hlc h6 h7 fun D σ H h => rd_asgO h
    | false =>
      cases hc : isCompM e with
      | true => exact st_lc G hc h1 h6 h7 fun D σ H h => rd_asgC h
      | false =>
        have hlc : isLc x = false := lc_comp h1 hc
        exact PS.imp (ps_asg (PE.v0 (sE e X k W G.toGX false x h1).v) (sT G.toGX (.slot i) _ h3) (sw_name (n := pos.line) hlc) ss_name (asg1 rfl)) fun D σ H h => rd_asg h
  | tup ts =>
    cases own with
    | true =>
      obtain ⟨_, h8⟩ := and2 (show (isFr e && false) = true from h5)
      cases h8
    | false =>
      have hn : ∃ es j p, tg = .Tuple es j p := by cases tg <;> first | exact ⟨_, _, _, rfl⟩ | cases h3
      obtain ⟨es, j, p, rfl⟩ := hn
      exact PS.imp (ps_asg (PE.v0 (sE e X k W G.toGX false x h1).v) (sT G.toGX (.tup ts) _ h3) (sw_tup (x := x) (es := es) (j := j) (py := p) (n := pos.line) (env := X.env)) (ss_tup G.sc h4) (asg1 rfl)) fun D σ H h => rd_asg h
theorem not_star {u : Expr} (h : isStar u = false) : (match u with | .Starred .. => true | _ => false) = false := by
  cases u <;> first | rfl | cases h
theorem ss_par {x y : Str} {p1 p2 pt pt2 : Pos} {kt k2} {u v : Expr} {env : PySem.Env} (hb : env.blockKind = .function) (hx : env.scope.names.lookup x = some .local) (hy : env.scope.names.lookup y = some .local) (hxy : x ≠ y)
    (hu : isStar u = false) (hv : isStar v = false) (hl : p1.line = p2.line) (hf : (foldedForSure 8 u && foldedForSure 8 v) = false) (hc : (constantsAlone 8 u && constantsAlone 8 v) = false) :
    swappedStores [.Tuple [.Name x p1, .Name y p2] kt pt] (.Tuple [u, v] k2 pt2) env = pure (some [x, y]) := by
  have ex : (env.kindOf x == some .local) = true := by
    show (env.scope.names.lookup x == some .local) = true
    rw [hx]; rfl
  have ey : (env.kindOf y == some .local) = true := by
    show (env.scope.names.lookup y == some .local) = true
    rw [hy]; rfl
  have eb : (env.blockKind != .function) = false := by rw [hb]; rfl
  have hne : (x == y) = false := beq_eq_false_iff_ne.mpr hxy
  have hne2 : (y == x) = false := beq_eq_false_iff_ne.mpr (Ne.symm hxy)
  have lx : (Expr.Name x p1).pos = p1 := rfl
  unfold swappedStores
  simp [ex, ey, eb, hl, hf, hc, lx, List.eraseDups_cons, hne, hne2, List.filterMap_cons, hx, hy]
  rw [if_neg (by
    rintro (q | q)
    · revert q; cases u <;> first | (intro q; cases q; done) | cases hu
    · revert q; cases v <;> first | (intro q; cases q; done) | cases hv)]
  have kx : env.kindOf x = some NameKind.local := hx
  have ky : env.kindOf y = some NameKind.local := hy
  rw [if_pos kx, if_pos ky]
  have ed : ([x, y] : List Str).eraseDups = [x, y] := by
    simp [List.eraseDups_cons, hne, hne2]
  show (if ¬ ([x, y] : List Str).length = 2 ∨ ¬ ([x, y] : List Str).eraseDups.length = ([x, y] : List Str).length then pure none else pure (some [x, y])) = _
  rw [ed]
  rfl
theorem inv_par {i j : Nat} {oi oj : Bool} {a b : ME} {st : Stmt} (h : ckS k (.par i j oi oj a b) st = true) : ∃ y1 p1 y2 p2 kt pt u v k2 pt2 pos, st = .Assign [.Tuple [.Name y1 p1, .Name y2 p2] kt pt] (.Tuple [u, v] k2 pt2) pos := by
  revert h
  unfold ckS
  split <;> first | (intro _; exact ⟨_, _, _, _, _, _, _, _, _, _, _, rfl⟩) | (intro h; simp_all)
theorem st_par {i j : Nat} {oi oj : Bool} {a b : ME} {st : Stmt} (G : GS X c cf k W) (h : ckS k (.par i j oi oj a b) st = true) : St_ X c cf N0 W (.par i j oi oj a b) st := by
  obtain ⟨y1, p1, y2, p2, kt, pt, u, v, k2, pt2, pos, rfl⟩ := inv_par h
  obtain ⟨h, h15⟩ := and2 (show (decide (k.N[i]? = some y1) && decide (k.N[j]? = some y2) && decide (i ≠ j) && decide (y1 ≠ y2) && decide (k.sc.names.lookup y1 = some .local) && decide (k.sc.names.lookup y2 = some .local) &&
    ckE k false a u && ckE k false b v && (!oi || isFr a) && (!oj || isFr b) && !isStar u && !isStar v && (p1.line == p2.line) && !(foldedForSure 8 u && foldedForSure 8 v) && !(constantsAlone 8 u && constantsAlone 8 v)) = true from h)
  obtain ⟨h, h14⟩ := and2 h
  obtain ⟨h, h13⟩ := and2 h
  obtain ⟨h, h12⟩ := and2 h
  obtain ⟨h, h11⟩ := and2 h
  obtain ⟨h, h10⟩ := and2 h
  obtain ⟨h, h9⟩ := and2 h
  obtain ⟨h, h8⟩ := and2 h
  obtain ⟨h, h7⟩ := and2 h
  obtain ⟨h, h6⟩ := and2 h
  obtain ⟨h, h5⟩ := and2 h
  obtain ⟨h, h4⟩ := and2 h
  obtain ⟨h, h3⟩ := and2 h
  obtain ⟨h1, h2⟩ := and2 h
  have h1 := of_decide_eq_true h1
  have h2 := of_decide_eq_true h2
  have h3 := of_decide_eq_true h3
  have h4 := of_decide_eq_true h4
  have h5 := of_decide_eq_true h5
  have h6 := of_decide_eq_true h6
  rw [← G.sc] at h5 h6
  rw [← G.N] at h1 h2
  have hA : PA X [u, v] (tCons (rd c (pO c oi) W (evE cf a)) (tCons (rd c (pO c oj) W (evE cf b)) tNil)) := pa_cons (sFo a G.toGX h9 h7) (pa_cons (sFo b G.toGX h10 h8) pa_nil (star_ns (not1 h12))) (star_ns (not1 h11))
  refine PS.imp (ps_par (kt := kt) (k2 := k2) G.calm G.nd h1 h2 h3 h5 h6 hA ?_ (sw_tup (x := .Tuple [u, v] k2 pt2) (es := [.Name y1 p1, .Name y2 p2]) (j := kt) (py := pt) (n := pos.line) (env := X.env))) fun D σ H h => rd_par h
  exact ss_par (x := y1) (y := y2) G.blk h5 h6 h4 (not1 h11) (not1 h12) (eq_of_beq h13) (not1 h14) (not1 h15)
theorem st_app {i : Nat} {e : ME} {st : Stmt} (G : GS X c cf k W) (h : ckS k (.app i e) st = true) : St_ X c cf N0 W (.app i e) st := by
  cases st <;> first | (cases h; done) | skip
  rename_i x pos
  cases x <;> first | (cases h; done) | skip
  rename_i f es ks cp
  cases f <;> first | (cases h; done) | skip
  rename_i o m ap
  cases o <;> first | (cases h; done) | skip
  rename_i y yp
  rcases es with _ | ⟨z, _ | ⟨_, _⟩⟩ <;> first | (cases h; done) | skip
  cases ks <;> first | (cases h; done) | skip
  obtain ⟨h, h6⟩ := and2 (show (decide (m = ("append" : Str)) && decide (k.N[i]? = some y) && k.vis y && ckE k false e z && !isStar z && (ap.endLine == cp.line)) = true from h)
  obtain ⟨h, h5⟩ := and2 h
  obtain ⟨h, h4⟩ := and2 h
  obtain ⟨h, h3⟩ := and2 h
  obtain ⟨h1, h2⟩ := and2 h
  have h1 := of_decide_eq_true h1
  subst h1
  have h2 := of_decide_eq_true h2
  obtain ⟨hv, hp⟩ := vis_of G.toGX h3
  have e1 := star_ns (env := X.env) (r := []) (not1 h5)
  have p := pe_bm (X := X) (cpos := cp) (apos := ap) PySem.F.plainAttrs_list PySem.F.slot_list_append PySem.F.type_list_append mt_append (pe_var (i := i) (pos := yp) (by rw [G.N]; exact h2) hv (plain_db hp) (plain_cd hp)) (pa_cons (PE.v0 (sE e X k W G.toGX false z h4).v) pa_nil e1) rfl (by rw [e1]; rfl) h6 e1 rfl
  refine PS.imp (ps_expr p rfl) fun D σ H h => ?_
  have h := rd_app h
  rw [G.K] at h
  exact h
theorem sw_sub {o i : Expr} {py : Pos} {n : Nat} {env : PySem.Env} : swapsWith x (some (.Subscript o i py)) n env = pure false := by
  cases x <;> rfl
theorem ss_sub {o i : Expr} {py : Pos} {env : PySem.Env} : swappedStores [.Subscript o i py] x env = pure none := by
  cases x <;> rfl
theorem st_put {i : Nat} {a e : ME} {y : Str} {p1 p2 pos : Pos} {z : Expr} {t' : TS} (G : GS X c cf k W) (h : (decide (k.N[i]? = some y) && k.vis y && ckE k true a z && ckE k false e x && !isSlice z) = true)
    (hr : ∀ D σ H, t' D σ H → tAsg (rd c (pE c) W (evE cf e)) (gSub (tVar i) (rd c (pW c) W (evE cf a)) rSetL) D σ H) : PS X (.Assign [.Subscript (.Name y p1) z p2] x pos) t' := by
  obtain ⟨h, h5⟩ := and2 h
  have h5 := not1 h5
  obtain ⟨h, h4⟩ := and2 h
  obtain ⟨h, h3⟩ := and2 h
  obtain ⟨h1, h2⟩ := and2 h
  obtain ⟨hv, hp⟩ := vis_of G.toGX h2
  have g : PG X (.Subscript (.Name y p1) z p2) (gSub (tVar i) (rd c (pW c) W (evE cf a)) rSetL) := pg_sub (pe_var (i := i) (by rw [G.N]; exact of_decide_eq_true h1) hv (plain_db hp) (plain_cd hp)) (PE.v1 (sE a X k W G.toGX true z h3).v) set_list (fun v => by clear hr h3; cases z <;> first | rfl | cases h5)
  exact PS.imp (ps_asg (PE.v0 (sE e X k W G.toGX false x h4).v) g (sw_sub (x := x) (o := .Name y p1) (i := z) (py := p2) (n := pos.line) (env := X.env)) ss_sub (asg1 rfl)) hr
theorem st_ext {i : Nat} {e : ME} {st : Stmt} (G : GS X c cf k W) (h : ckS k (.ext i e) st = true) : St_ X c cf N0 W (.ext i e) st := by
  cases st <;> first | (cases h; done) | skip
  rename_i x pos
  cases x <;> first | (cases h; done) | skip
  rename_i f es ks cp
  cases f <;> first | (cases h; done) | skip
  rename_i o m ap
  cases o <;> first | (cases h; done) | skip
  rename_i y yp
  rcases es with _ | ⟨z, _ | ⟨_, _⟩⟩ <;> first | (cases h; done) | skip
  cases ks <;> first | (cases h; done) | skip
  obtain ⟨h, h6⟩ := and2 (show (decide (m = ("extend" : Str)) && decide (k.N[i]? = some y) && k.vis y && ckE k false e z && !isStar z && (ap.endLine == cp.line)) = true from h)
  obtain ⟨h, h5⟩ := and2 h
  obtain ⟨h, h4⟩ := and2 h
  obtain ⟨h, h3⟩ := and2 h
  obtain ⟨h1, h2⟩ := and2 h
  have h1 := of_decide_eq_true h1
  subst h1
  have h2 := of_decide_eq_true h2
  obtain ⟨hv, hp⟩ := vis_of G.toGX h3
  have e1 := star_ns (env := X.env) (r := []) (not1 h5)
  have p := pe_bm (X := X) (cpos := cp) (apos := ap) PySem.F.plainAttrs_list PySem.F.slot_list_extend PySem.F.type_list_extend mt_extend (pe_var (i := i) (pos := yp) (by rw [G.N]; exact h2) hv (plain_db hp) (plain_cd hp)) (pa_cons (PE.v0 (sE e X k W G.toGX false z h4).v) pa_nil e1) rfl (by rw [e1]; rfl) h6 e1 rfl
  refine PS.imp (ps_expr p rfl) fun D σ H h => ?_
  have h := rd_ext h
  rw [G.K] at h
  exact h
theorem st_pop {t i : Nat} {fst : Bool} {st : Stmt} (G : GS X c cf k W) (h : ckS k (.pop t i fst) st = true) : St_ X c cf N0 W (.pop t i fst) st := by
  cases st <;> first | (cases h; done) | skip
  rename_i tgs x pos
  rcases tgs with _ | ⟨tg, _ | ⟨_, _⟩⟩
  · cases h
  rotate_left
  · cases tg <;> cases h
  cases tg <;> first | (cases h; done) | skip
  rename_i y py
  cases x <;> first | (cases h; done) | skip
  rename_i f zs ks cp
  cases f <;> first | (cases h; done) | skip
  rename_i o m ap
  cases o <;> first | (cases h; done) | skip
  rename_i x xp
  cases ks <;> first | (cases h; done) | skip
  obtain ⟨h, h7⟩ := and2 (show (decide (m = ("pop" : Str)) && decide (k.N[i]? = some x) && k.vis x && decide (k.N[t]? = some y) && decide (k.sc.names.lookup y = some .local) && (ap.endLine == cp.line) && (match (generalizing := false) fst, zs with
    | true, [.Constant (.int j) _ _] => decide (j = 0)
    | false, [] => true
    | _, _ => false)) = true from h)
  obtain ⟨h, h6⟩ := and2 h
  obtain ⟨h, h5⟩ := and2 h
  obtain ⟨h, h4⟩ := and2 h
  obtain ⟨h, h3⟩ := and2 h
  obtain ⟨h1, h2⟩ := and2 h
  have h1 := of_decide_eq_true h1
  subst h1
  have h2 := of_decide_eq_true h2
  have h4 := of_decide_eq_true h4
  have h5 := of_decide_eq_true h5
  obtain ⟨hv, hp⟩ := vis_of G.toGX h3
  rw [← G.N] at h2 h4
  rw [← G.sc] at h5
  cases fst with
  | true =>
    rcases zs with _ | ⟨z, _ | ⟨_, _⟩⟩ <;> first | (cases h7; done) | skip
    · cases z <;> first | (cases h7; done) | skip
      rename_i a j zp
      cases a <;> first | (cases h7; done) | skip
      obtain rfl := of_decide_eq_true h7
      have pz : PE X (.Constant (.int 0) j zp) (tC (.int 0)) := pe_int
      have p := pe_bm (X := X) (cpos := cp) (apos := ap) PySem.F.plainAttrs_list PySem.F.slot_list_pop PySem.F.type_list_pop mt_popAt (pe_var (i := i) (pos := xp) h2 hv (plain_db hp) (plain_cd hp)) (pa_cons pz pa_nil rfl) rfl rfl h6 rfl rfl
      refine PS.imp (ps_set (i := t) G.nd h4 (.inl h5) p rfl (.inr h5)) fun D σ H h => ?_
      have h := (rd_pop h).1 rfl
      rw [G.K] at h
      exact h
    · cases z <;> first | (cases h7; done) | skip
      rename_i a _ _
      cases a <;> cases h7
  | false =>
    cases zs <;> first | (cases h7; done) | skip
    have p := pe_bm0 (X := X) (cpos := cp) (apos := ap) PySem.F.plainAttrs_list PySem.F.slot_list_pop PySem.F.type_list_pop mt_pop (pe_var (i := i) (pos := xp) h2 hv (plain_db hp) (plain_cd hp)) rfl h6
    refine PS.imp (ps_set (i := t) G.nd h4 (.inl h5) p rfl (.inr h5)) fun D σ H h => ?_
    have h := (rd_pop h).2 rfl
    rw [G.K] at h
    exact h
theorem st_raise {j : Nat} {es : MEs} {st : Stmt} (G : GS X c cf k W) (h : ckS k (.raise j es) st = true) : PS X st (rdT c N0 W (exS cf (.raise j es))) := by
  cases st <;> first | (cases h; done) | skip
  rename_i o o2 pos
  cases o <;> first | (cases h; done) | skip
  rename_i z
  cases o2 <;> first | (cases z <;> cases h; done) | skip
  rotate_left
  · cases z <;> first | (cases h; done) | skip
    rename_i f zs ks cp
    cases f <;> first | (cases h; done) | skip
    cases ks <;> cases h
  cases z <;> first | (cases h; done) | skip
  rename_i f zs ks cp
  cases f <;> first | (cases h; done) | skip
  rename_i y yp
  cases ks <;> first | (cases h; done) | skip
  obtain ⟨h1, h2⟩ := and2 (show (k.own j y && (match (generalizing := false) es, zs with
    | .cons false e .nil, [z] => (excFld j).isSome && ckE k false e z && !isStar z
    | .nil, [] => (excFld j).isNone
    | _, _ => false)) = true from h)
  obtain ⟨n1, n2, n3, n4⟩ := own_of G.toGX h1
  obtain ⟨C, R⟩ := G.mkr j n4
  have hC : X.mg y = some (.ref C) := by rw [n1]; exact R.nm
  cases es with
  | nil =>
    cases zs <;> first | (cases h2; done) | skip
    have hf : excFld j = none := Option.isNone_iff_eq_none.mp h2
    obtain ⟨B, newId, initId, bmB, F, q⟩ := R.b0 hf
    exact PS.imp (ps_raise G.calm G.tk (pmk_mk0 F q hC R.kp (R.rs X rfl) n2 (plain_db n3))) fun D σ H h => rdT_raise0 hf R h
  | cons st e r =>
    cases st with
    | true => cases h2
    | false =>
      cases r with
      | cons _ _ _ => cases h2
      | nil =>
        rcases zs with _ | ⟨z, _ | ⟨_, _⟩⟩ <;> first | (cases h2; done) | skip
        obtain ⟨h2, h5⟩ := and2 (show ((excFld j).isSome && ckE k false e z && !isStar z) = true from h2)
        obtain ⟨h3, h4⟩ := and2 h2
        obtain ⟨f, hf⟩ := Option.isSome_iff_exists.mp h3
        obtain ⟨C', fI, B, newId, initId, bmB, y2, x2, fd, T, hC', _⟩ := G.mks j f n4 hf
        have eC : C' = C := by
          have := hC'.symm.trans R.nm
          cases this
          rfl
        subst eC
        have e1 := star_ns (env := X.env) (r := []) (not1 h5)
        exact PS.imp (ps_raise G.calm G.tk (pmk_mk T (R.rs X rfl) G.dp n2 hC (pa_cons (PE.v0 (sE e X k W G.toGX false z h4).v) pa_nil e1) (plain_db n3) e1)) fun D σ H h => rdT_raise hf R h
theorem gs_tr {W' : WX} {pn : List (Addr × Obj)} {xe : Value → Shared → Prop} (G : GS X c cf k W) (tk : Takes (X.tr pn xe) W') (po : PassesOwn (model X.prog X.w) X.A X.env xe) : GS (X.tr pn xe) c cf k W' where
  N := G.N
  K := G.K
  nd := G.nd
  sc := G.sc
  fn := G.fn
  calm := G.calm
  un := G.un
  tk := tk
  ns := G.ns
  free := G.free
  gs := G.gs
  evs := G.evs
  att := G.att
  own := G.own
  exf := G.exf
  mkr := G.mkr
  dp := G.dp
  mks := fun j f h1 h2 => by
    obtain ⟨C, fI, B, newId, initId, bmB, y, x, fd, T, h⟩ := G.mks j f h1 h2
    exact ⟨C, fI, B, newId, initId, bmB, y, x, fd, ⟨T.ex, T.ini, T.iC, T.tI, T.na, T.kC, T.sup⟩, h⟩
  frs := G.frs
  fns := G.fns
  po := po
  stk := G.stk
  frm := G.frm
  blk := G.blk
theorem one_eq {m : MS} {s : Env} : exSs cf (.cons m .nil) s = exS cf m s := by
  funext b
  show M.bd (exS cf m s) _ b = _
  unfold M.bd
  cases exS cf m s b with
  | ok p b1 =>
    obtain ⟨fl, s'⟩ := p
    cases fl <;> rfl
  | _ => rfl
mutual
theorem sStr1 (N0 : Addr → Prop) (G : GS X c cf k W) : ∀ (m : MS), straight1 m = true → ∀ st, ckS k m st = true → PS X st (rdT c N0 W (exS cf m))
  | .ret e, _, st, h => by
    cases st <;> first | (cases h; done) | skip
    rename_i o p
    cases o <;> first | (cases h; done) | skip
    exact PS.imp (ps_ret (PE.v0 (sE e X k W G.toGX false _ h).v)) fun D σ H h => rdT_ret h
  | .expr e, _, st, h => by
    cases st <;> first | (cases h; done) | skip
    rename_i x p
    obtain ⟨h1, h2⟩ := and2 (show (ckE k false e x && !isLc x) = true from h)
    have hs : swapsWith x none p.line X.env = pure false := by
      have h2 := not1 h2
      clear h1 h
      cases x <;> first | rfl | cases h2
    exact PS.imp (ps_expr (PE.v0 (sE e X k W G.toGX false x h1).v) hs) fun D σ H h => rdT_expr h
  | .raise j es, _, st, h => st_raise G h
  | .ite t a b, hs, st, h => by
    cases st <;> first | (cases h; done) | skip
    rename_i x p q pos
    obtain ⟨s1, s2⟩ := and2 (show (straight a && straight b) = true from hs)
    obtain ⟨h, h3⟩ := and2 (show (ckE k true t x && ckSs k a p && ckSs k b q) = true from h)
    obtain ⟨h1, h2⟩ := and2 h
    exact PS.imp (ps_if (sE t X k W G.toGX true x h1).t (sStr N0 G a s1 p h2) (sStr N0 G b s2 q h3)) fun D σ H h => rdT_if h
  | .asg own t e, hs, st, h => by
    cases own with
    | true => cases t <;> cases hs
    | false =>
      cases t with
      | tup ts => cases hs
      | slot i =>
        have hc : isCompM e = false := not1 (show (!isCompM e) = true from hs)
        cases st <;> first | (cases h; done) | skip
        rename_i tgs x pos
        rcases tgs with _ | ⟨tg, _ | ⟨_, _⟩⟩ <;> first | (cases h; done) | skip
        obtain ⟨h, h5⟩ := and2 (show (ckE k false e x && !isStar tg && ckT k (.slot i) tg && ckSw k.sc tg x && (!false || (isFr e && isSlotT (.slot i)))) = true from h)
        obtain ⟨h, h4⟩ := and2 h
        obtain ⟨h, h3⟩ := and2 h
        obtain ⟨h1, h2⟩ := and2 h
        have hn : ∃ y py, tg = .Name y py := by cases tg <;> first | exact ⟨_, _, rfl⟩ | cases h3
        obtain ⟨y, py, rfl⟩ := hn
        have hlc : isLc x = false := lc_comp h1 hc
        exact PS.imp (ps_asg (PE.v0 (sE e X k W G.toGX false x h1).v) (sT G.toGX (.slot i) _ h3) (sw_name (n := pos.line) hlc) ss_name (asg1 rfl)) fun D σ H h => rdT_asg h
  | .par _ _ _ _ _ _, hs, _, _ => by cases hs
  | .aug _ _ _, hs, _, _ => by cases hs
  | .seti _ _ _, hs, _, _ => by cases hs
  | .bset _ _ _, hs, _, _ => by cases hs
  | .app _ _, hs, _, _ => by cases hs
  | .ext _ _, hs, _, _ => by cases hs
  | .share _, hs, _, _ => by cases hs
  | .retN, hs, _, _ => by cases hs
  | .for_ _ _ _ _, hs, _, _ => by cases hs
  | .while_ _ _ _, hs, _, _ => by cases hs
  | .pass, hs, _, _ => by cases hs
  | .brk, hs, _, _ => by cases hs
  | .cont, hs, _, _ => by cases hs
  | .stuck, hs, _, _ => by cases hs
  | .try_ _ _, hs, _, _ => by cases hs
  | .pop _ _ _, hs, _, _ => by cases hs
theorem sStr (N0 : Addr → Prop) (G : GS X c cf k W) : ∀ (m : MSs), straight m = true → ∀ ss, ckSs k m ss = true → PSs X ss (rdT c N0 W (exSs cf m))
  | .nil, _, ss, h => by
    cases ss with
    | nil => exact PSs.imp pss_nil fun D σ H ⟨s, b, R, B, h⟩ => h σ H R B .refl
    | cons _ _ => cases h
  | .cons m .nil, hs, ss, h => by
    have hs : straight1 m = true := hs
    have h' : ∃ st, ss = [st] ∧ ckS k m st = true := by
      cases ss with
      | nil => cases m <;> first | (cases h; done) | cases hs
      | cons x xs =>
        have h' : (ckS k m x && ckSs k .nil xs) = true := by
          cases m <;> first | exact h | cases hs
        obtain ⟨h1, h2⟩ := and2 h'
        cases xs with
        | nil => exact ⟨x, rfl, h1⟩
        | cons _ _ => cases h2
    obtain ⟨st, rfl, h1⟩ := h'
    refine PSs.imp (pss_one (sStr1 N0 G m hs st h1)) fun D σ H ⟨s, b, R, B, h⟩ => ?_
    rw [one_eq] at h
    exact ⟨s, b, R, B, h⟩
  | .cons m (.cons m2 r), hs, ss, h => by
    have inv : ∃ t e, m = .ite t (.cons (.ret e) .nil) .nil := by
      cases m <;> first | (cases hs; done) | skip
      rename_i t a b
      cases a <;> first | (cases hs; done) | skip
      rename_i m3 q
      cases m3 <;> first | (cases hs; done) | skip
      cases q <;> first | (cases hs; done) | skip
      cases b <;> first | (cases hs; done) | skip
      exact ⟨_, _, rfl⟩
    obtain ⟨t, e, rfl⟩ := inv
    have hs : straight (.cons m2 r) = true := hs
    cases ss with
    | nil => cases h
    | cons x xs =>
      obtain ⟨g1, g2⟩ := and2 (show (ckS k (.ite t (.cons (.ret e) .nil) .nil) x && ckSs k (.cons m2 r) xs) = true from h)
      cases x <;> first | (cases g1; done) | skip
      rename_i x p q2 pos
      obtain ⟨g3, g4⟩ := and2 (show (ckE k true t x && ckSs k (.cons (.ret e) .nil) p && ckSs k .nil q2) = true from g1)
      obtain ⟨g5, g6⟩ := and2 g3
      have eq2 : q2 = [] := by
        cases q2 with
        | nil => rfl
        | cons _ _ => cases g4
      subst eq2
      have ep : ∃ y, p = [y] ∧ ckS k (.ret e) y = true := by
        cases p with
        | nil => cases g6
        | cons y ys =>
          obtain ⟨g7, g8⟩ := and2 (show (ckS k (.ret e) y && ckSs k .nil ys) = true from g6)
          cases ys with
          | cons _ _ => cases g8
          | nil => exact ⟨y, rfl, g7⟩
      obtain ⟨y, rfl, g7⟩ := ep
      have pr : PSs X [y] (rdT c N0 W (exSs cf (.cons (.ret e) .nil))) := PSs.imp (pss_one (sStr1 N0 G (.ret e) rfl y g7)) fun D σ H ⟨s, b, R, B, h⟩ => by
        rw [one_eq] at h
        exact ⟨s, b, R, B, h⟩
      exact PSs.imp (pss_cons (ps_if (sE t X k W G.toGX true x g5).t pr pss_nil) (sStr N0 G (.cons m2 r) hs xs g2)) fun D σ H h => rdT_guard h
end
mutual
theorem sS (N0 : Addr → Prop) (G : GS X c cf k W) : ∀ (m : MS) (st : Stmt), ckS k m st = true → St_ X c cf N0 W m st
  | .asg own t e, st, h => st_asg G h
  | .par i j oi oj a b, st, h => st_par G h
  | .app i e, st, h => st_app G h
  | .aug o i e, st, h => by cases st <;> cases h
  | .seti i a e, st, h => by
    cases st <;> first | (cases h; done) | skip
    rename_i tgs x pos
    rcases tgs with _ | ⟨tg, _ | ⟨_, _⟩⟩
    · cases h
    rotate_left
    · cases tg <;> first | (cases h; done) | skip
      rename_i o z p
      cases o <;> cases h
    · cases tg <;> first | (cases h; done) | skip
      rename_i o z p
      cases o <;> first | (cases h; done) | skip
      exact st_put G h fun D σ H h => rd_seti h
  | .bset i a e, st, h => by
    cases st <;> first | (cases h; done) | skip
    rename_i tgs x pos
    rcases tgs with _ | ⟨tg, _ | ⟨_, _⟩⟩
    · cases h
    rotate_left
    · cases tg <;> first | (cases h; done) | skip
      rename_i o z p
      cases o <;> cases h
    · cases tg <;> first | (cases h; done) | skip
      rename_i o z p
      cases o <;> first | (cases h; done) | skip
      exact st_put G h fun D σ H h => rd_bset h
  | .ext i e, st, h => st_ext G h
  | .raise j es, st, h => PS.imp (st_raise (N0 := N0) G h) fun D σ H h => h.t
  | .pop t i f, st, h => st_pop G h
  | .try_ b hs, st, h => by
    cases st <;> first | (cases h; done) | skip
    rename_i body xs orelse fin pos
    cases orelse <;> first | (cases h; done) | skip
    cases fin <;> first | (cases h; done) | skip
    obtain ⟨h, h4⟩ := and2 (show (straight b && ckSs k b body && ckHds k hs xs && !xs.isEmpty) = true from h)
    obtain ⟨h, h3⟩ := and2 h
    obtain ⟨h1, h2⟩ := and2 h
    obtain ⟨l, ok, r⟩ := hds_ok G.toGX h3
    cases xs with
    | nil => cases h4
    | cons h0 xs =>
      refine PS.imp (ps_try_hs G.stk G.frm G.nd G.tk (tb := fun W => rdT c N0 W (exSs cf b)) (fun W' pn xe tk po => sStr N0 (gs_tr G tk po) b h1 body h2) ok) fun D σ H hh => ?_
      have hF : ∀ j ds cv dd H, c.exAt j ds cv dd H → ∃ C, ExF X.K X.mg k.cls j ds cv dd H C := fun j ds cv dd H hx => by
        obtain ⟨C, F⟩ := G.exf j ds cv dd H hx
        rw [G.K] at F
        exact ⟨C, F⟩
      exact rd_try hF r hh
  | .share i, st, h => by cases st <;> cases h
  | .while_ t d b, st, h => by
    cases st <;> first | (cases h; done) | skip
    rename_i x body orelse pos
    cases orelse <;> first | (cases h; done) | skip
    obtain ⟨h1, h2⟩ := and2 (show (ckE k true t x && ckSs k b body) = true from h)
    exact PS.imp (ps_while G.po (sE t X k W G.toGX true x h1).t (sSs N0 G b body h2)) fun D σ H h => rd_while h
  | .ret e, st, h => by
    cases st <;> first | (cases h; done) | skip
    rename_i o p
    cases o <;> first | (cases h; done) | skip
    exact PS.imp (ps_ret (PE.v0 (sE e X k W G.toGX false _ h).v)) fun D σ H h => rd_ret h
  | .retN, st, h => by
    cases st <;> first | (cases h; done) | skip
    rename_i o p
    cases o <;> first | (cases h; done) | skip
    exact PS.imp ps_retN fun D σ H h => rd_retN h
  | .ite t a b, st, h => by
    cases st <;> first | (cases h; done) | skip
    rename_i x p q pos
    obtain ⟨h, h3⟩ := and2 (show (ckE k true t x && ckSs k a p && ckSs k b q) = true from h)
    obtain ⟨h1, h2⟩ := and2 h
    exact PS.imp (ps_if (sE t X k W G.toGX true x h1).t (sSs N0 G a p h2) (sSs N0 G b q h3)) fun D σ H h => rd_if h
  | .for_ t r dead b, st, h => by
    cases st <;> first | (cases h; done) | skip
    rename_i tg it body orelse pos
    cases orelse <;> first | (cases h; done) | skip
    obtain ⟨h, h4⟩ := and2 (show (ckSrc k false r it tg && !isSetE it && ckT k t tg && ckSs k b body) = true from h)
    obtain ⟨h, h3⟩ := and2 h
    obtain ⟨h1, h2⟩ := and2 h
    exact PS.imp (ps_for G.po G.calm (sSrc r X k W G.toGX false it tg h1) (sT G.toGX t tg h3) (sSs N0 G b body h4) (folded (not1 h2))) fun D σ H h => rd_for (tup_fits h3) h
  | .expr e, st, h => by
    cases st <;> first | (cases h; done) | skip
    rename_i x p
    obtain ⟨h1, h2⟩ := and2 (show (ckE k false e x && !isLc x) = true from h)
    have hs : swapsWith x none p.line X.env = pure false := by
      have h2 := not1 h2
      clear h1 h
      cases x <;> first | rfl | cases h2
    exact PS.imp (ps_expr (PE.v0 (sE e X k W G.toGX false x h1).v) hs) fun D σ H h => rd_expr h
  | .pass, st, h => by
    cases st <;> first | (cases h; done) | skip
    · rename_i x p
      cases x <;> first | (cases h; done) | skip
      rename_i a j p2
      cases a <;> first | (cases h; done) | skip
      exact PS.imp ps_doc fun D σ H h => rd_pass h
    · exact PS.imp ps_pass fun D σ H h => rd_pass h
  | .stuck, st, h => ⟨fun pins s σ H D I ⟨_, _, _, _, z⟩ => False.elim z⟩
  | .brk, st, h => by
    cases st <;> first | (cases h; done) | skip
    exact PS.imp ps_break fun D σ H h => rd_brk h
  | .cont, st, h => by
    cases st <;> first | (cases h; done) | skip
    exact PS.imp ps_continue fun D σ H h => rd_cont h
theorem sSs (N0 : Addr → Prop) (G : GS X c cf k W) : ∀ (m : MSs) (ss : List Stmt), ckSs k m ss = true → PSs X ss (rdS c N0 W (exSs cf m))
  | .nil, ss, h => by
    cases ss with
    | nil => exact PSs.imp pss_nil fun D σ H h => rd_snil h
    | cons _ _ => cases h
  | .cons m r, ss, h => by
    by_cases hm : ∃ i, m = .share i
    · obtain ⟨i, rfl⟩ := hm
      exact PSs.imp (sSs N0 G r ss h) fun D σ H h => rd_share h
    · cases ss with
      | nil => exfalso; cases m <;> first | (cases h; done) | exact hm ⟨_, rfl⟩
      | cons x xs =>
        have h' : (ckS k m x && ckSs k r xs) = true := by
          cases m <;> first | exact h | exact absurd ⟨_, rfl⟩ hm
        obtain ⟨h1, h2⟩ := and2 h'
        exact PSs.imp (pss_cons (sS N0 G m x h1) (sSs N0 G r xs h2)) fun D σ H h => rd_seq h
end
end
end Mi
namespace Mi
open PySem L2
/-- a def's scope -/
def scB (N ps : List Str) (sc : Scope) : Bool :=
  (match sc.kind with | .function => true | _ => false) && !sc.isCoroutine && !sc.isGenerator && decide N.Nodup && decide (N.take ps.length = ps) &&
    (ps.all fun x => decide (sc.names.lookup x = some .local) || decide (sc.names.lookup x = some .cell)) && (sc.names.all fun y => match y.2 with | .free => false | _ => true)
theorem sc_ok {N ps : List Str} {sc : Scope} (h : scB N ps sc = true) : FnScope N ps sc := by
  unfold scB at h
  obtain ⟨h, h7⟩ := and2 h
  obtain ⟨h, h6⟩ := and2 h
  obtain ⟨h, h5⟩ := and2 h
  obtain ⟨h, h4⟩ := and2 h
  obtain ⟨h, h3⟩ := and2 h
  obtain ⟨h1, h2⟩ := and2 h
  refine ⟨?_, not1 h2, not1 h3, of_decide_eq_true h4, of_decide_eq_true h5, fun x hx => ?_, fun y hy e => ?_⟩
  · split at h1
    · assumption
    · cases h1
  · have := List.all_eq_true.mp h6 x hx
    rw [Bool.or_eq_true] at this
    exact this.imp of_decide_eq_true of_decide_eq_true
  · have := List.all_eq_true.mp h7 y hy
    rw [e] at this
    cases this
/-- a def fits its text -/
def ckDef (P : Prg) (free cls : List Str) (fd : FD) (body : List Stmt) (sc : Scope) : Bool := scB fd.N fd.ps sc && ckSs ⟨fd.N, sc, none, free, P, cls⟩ fd.body body
section
variable {Pg : Program} {w : World} {K : PySem.W.Frag} {mg : Str → Option Value} {base : Heap} {c : Cc} {P : Prg} {free cls : List Str} {T : Nat → Addr × FuncData}
/-- the module's facts -/
structure Mods (Pg : Program) (K : PySem.W.Frag) (mg : Str → Option Value) (c : Cc) (P : Prg) (free cls : List Str) : Prop where
  hK : c.K = K
  free : ∀ x, x ∈ free → mg x = none
  gs : ∀ g x, (P.gs[g]?).map (·.1) = some x → ∃ d v u, P.glob g = some d ∧ mg x = some u ∧ RelV v u ∧ ∀ β H N, Rep (c.at β) H N d v
  frs : ∀ f fd, P.fs[f]? = some fd → c.frs f = fd.fresh
  evs : ∀ j a dd o H, c.ev j a dd o → H a = some o → (∀ e, dd = some e → ∃ u, H e = some u) → ∃ tv, KitV c.K H (.ref a) tv ∧ ∀ t cv u b, TyIs mg cls t cv u → D.isTy (.exc j []) t = some b → PySem.W.kitOne c.K tv u = some b
  att : ∀ j a dd o, c.ev j a dd o → ∃ C, o = ExV C dd a ∧ ClsX c.K C ∧ ∀ f, excFld j = some f → PySem.W.findIn c.K (.ref C) f = some none
  mks : ∀ j f, excName j ∈ cls → excFld j = some f → ∃ C fI B newId initId bmB y x fd, (∀ X : Cx, X.K = K → X.prog = Pg → X.mg = mg → MkK X C fI B newId initId bmB y x f fd) ∧ mg (excName j) = some (.ref C) ∧ ∀ a d, c.ev j a (some d) (ExV C (some d) a)
  own : ∀ j, excName j ∈ cls → ∃ C, mg (excName j) = some (.ref C)
  exf : ∀ j ds cv dd H, c.exAt j ds cv dd H → ∃ C, ExF c.K mg cls j ds cv dd H C
  mkr : ∀ j, excName j ∈ cls → ∃ C, MkR K mg c j C
/-- def f at level lv -/
def OkAt (Pg : Program) (w : World) (K : PySem.W.Frag) (mg : Str → Option Value) (base : Heap) (c : Cc) (P : Prg) (T : Nat → Addr × FuncData) (lv f : Nat) (fd : FD) : Prop :=
  mg fd.name = some (.ref (T f).1) ∧ PySem.W.keepIn K (.ref (T f).1) = true ∧ (Binds K (T f).2 fd.ps [] ∧ KwOk (T f).2 fd.ps) ∧ FnOk Pg w K mg base (L2.CX Pg w) lv (T f).1 (T f).2 fd.ps (spF c (run P c.ns lv) f fd.ps.length)
theorem run_len {lv f : Nat} {fd : FD} (hf : P.fs[f]? = some fd) : ∀ ds b, ds.length ≠ fd.ps.length → run P c.ns lv f ds b = .no := by
  intro ds b h
  cases lv with
  | zero => rfl
  | succ k =>
    unfold run
    rw [hf]
    simp only
    rw [if_neg h]
    rfl
def vls (ds : List D) (n : Nat) : Env := ds.map .vl ++ List.replicate (n - ds.length) .no
theorem vls_get {ds : List D} {n i : Nat} {d : D} (h : (vls ds n)[i]? = some (.vl d)) : ds[i]? = some d := by
  unfold vls at h
  rw [List.getElem?_append] at h
  split at h
  · rename_i hi
    rw [List.getElem?_map] at h
    obtain ⟨x, e, h⟩ := Option.map_eq_some_iff.mp h
    cases h
    exact e
  · obtain ⟨_, h⟩ := List.getElem?_eq_some_iff.mp h
    simp at h
theorem vls_ow {ds : List D} {n i : Nat} {d : D} (h : (vls ds n)[i]? = some (.ow d)) : False := by
  unfold vls at h
  rw [List.getElem?_append] at h
  split at h
  · rw [List.getElem?_map] at h
    obtain ⟨x, e, h⟩ := Option.map_eq_some_iff.mp h
    cases h
  · obtain ⟨_, h⟩ := List.getElem?_eq_some_iff.mp h
    simp at h
theorem start_rel {c : Cc} {N0 : Addr → Prop} {H : Hp} {N : List Str} {ds : List D} {vs : List V} (r : RepL c H N0 ds vs) (hd : ∀ a, N0 a → H a ≠ none) (hb : ∀ a, c.β = some a → N0 a) :
    Rel c H N0 (start N vs) (vls ds N.length) ∧ ∀ a, ¬ IsOwn (start N vs) (vls ds N.length) a := by
  have no : ∀ a, ¬ IsOwn (start N vs) (vls ds N.length) a := fun a ⟨i, d, e, _⟩ => vls_ow e
  refine ⟨⟨?_, fun i d h => ?_, fun i d h => (vls_ow h).elim, fun i j d e a h => (vls_ow h).elim, hd, hb⟩, no⟩
  · unfold vls L2.start
    simp [r.length]
  · obtain ⟨v, h1, h2⟩ := r.get (vls_get h)
    refine ⟨v, ?_, h2.sub fun a z => z.elim id fun z => (no a z).elim⟩
    unfold L2.start
    rw [List.getElem?_append_left (by rw [List.length_map]; exact (List.getElem?_eq_some_iff.mp h1).1), List.getElem?_map, h1]
    rfl
theorem gs_of {lv : Nat} {fd : FD} {qual : Str} {sc : Scope} {a : Addr} {cdv : Value} {A : Around} {outer : List PySem.Env} {s : Shared} {H : Hp} {E : XK} {β : Option Addr} (Ms : Mods Pg K mg c P free cls) (hs : scB fd.N fd.ps sc = true)
    (ih : ∀ f fd, P.fs[f]? = some fd → OkAt Pg w K mg base c P T lv f fd) (hr : Room lv (A.deeper (PyProof.Rows.envOfC qual sc s.heap.objs.size a cdv))) :
    GS (cxOf (L2.CX Pg w) Pg w K mg base fd.N qual sc a cdv A outer s H E) (c.at β) ⟨run P c.ns lv, P.glob, c.ns⟩ ⟨fd.N, sc, none, free, P, cls⟩ (fun cls dd _ H' => E cls dd H') :=
    { N := rfl, K := Ms.hK, nd := (sc_ok hs).nd, sc := rfl, fn := fun _ _ => rfl, calm := rfl, un := hr.units, tk := takes_of rfl rfl rfl rfl, ns := rfl, free := Ms.free,
      gs := fun g x hx => by
        obtain ⟨d, v, u, e1, e2, e3, e4⟩ := Ms.gs g x hx
        exact ⟨d, v, u, e1, e2, e3, e4 β⟩
      evs := Ms.evs
      att := Ms.att
      own := Ms.own
      exf := Ms.exf
      mkr := fun j hj => let ⟨C, h⟩ := Ms.mkr j hj; ⟨C, h.nm, h.kp, h.rs, h.b0, h.at_⟩
      dp := by
        have := hr.dp
        show (A.deeper _).depth + 5 < _
        omega
      mks := fun j f h1 h2 => by
        obtain ⟨C, fI, B, newId, initId, bmB, y, x, fd, T, h⟩ := Ms.mks j f h1 h2
        exact ⟨C, fI, B, newId, initId, bmB, y, x, fd, T _ rfl rfl rfl, h⟩
      frs := Ms.frs
      fns := fun f' x hx => by
        cases e : P.fs[f']? with
        | none =>
          have hx : (P.fs[f']?).map (·.name) = some x := hx
          rw [e] at hx; cases hx
        | some fd' =>
          have hx : (P.fs[f']?).map (·.name) = some x := hx
          rw [e] at hx
          cases hx
          obtain ⟨e1, e2, ⟨e3, e3'⟩, e4⟩ := ih f' fd' e
          exact ⟨lv, _, _, fd'.ps, e1, e2, e3, ⟨e3', rfl⟩, hr, e4, run_len e⟩
      po := passes_of (K := fun e s'' => L2.CX Pg w outer H s E e s'') rfl
      stk := rfl
      frm := rfl
      blk := by
        show (if sc.kind.isAnnotationScope = true then ScopeKind.function else sc.kind) = .function
        rw [(sc_ok hs).kind]
        rfl }
theorem run_mini {lv f : Nat} {fd : FD} {ds : List D} (hf : P.fs[f]? = some fd) (hk : fd.kind = .mini) (len : ds.length = fd.ps.length) :
    run P c.ns (lv + 1) f ds = ((exSs ⟨run P c.ns lv, P.glob, c.ns⟩ fd.body (vls ds fd.N.length)).bd fun q => (match q.1 with | .rt v => M.ret v | .nx => M.ret .non | _ => M.no)) := by
  show (match P.fs[f]? with | none => M.no | some d => _) = _
  rw [hf]
  simp only
  rw [if_pos len, hk]
  rfl
theorem ok_mini {lv f : Nat} {fd : FD} {qual : Str} {params : Arguments} {body : List Stmt} {sc : Scope} {a : Addr} {fdd : FuncData} (Ms : Mods Pg K mg c P free cls) (hf : P.fs[f]? = some fd) (hk : fd.kind = .mini) (hfr : fd.fresh = false) (hc : ckDef P free cls fd body sc = true)
    (ih : ∀ f fd, P.fs[f]? = some fd → OkAt Pg w K mg base c P T lv f fd) (F : FunD K fd.name qual params body sc [] [] a fdd) :
    FnOk Pg w K mg base (L2.CX Pg w) (lv + 1) a fdd fd.ps (spF c (run P c.ns (lv + 1)) f fd.ps.length) := by
  obtain ⟨hs, hck⟩ := and2 hc
  refine F.ok (sc_ok hs) (fun vs H Q E h => h.1) fun cdv A outer s H vs Q E hr h => ?_
  obtain ⟨hl, β, N0, ds, b, r, hd, hb, B, h⟩ := h
  have G := gs_of (cls := cls) (outer := outer) (H := H) (E := E) (β := β) Ms hs ih hr
  have nf : c.frs f ≠ true := by
    rw [Ms.frs f fd hf, hfr]
    decide
  refine ⟨_, sSs N0 G fd.body body hck, vls ds fd.N.length, b, (start_rel r hd hb).1, B, ?_⟩
  have no := (start_rel (N := fd.N) r hd hb).2
  have len : ds.length = fd.ps.length := by rw [r.length]; exact hl
  have kp : ∀ {H'}, FrK (c.at β) H (start fd.N vs) (vls ds fd.N.length) H' → Keep (c.at β) H H' := fun {H'} f => ⟨fun a o hb h => f.kp a o hb (no a) h, f.fr⟩
  rw [run_mini hf hk len] at h
  unfold M.bd at h
  cases e : exSs ⟨run P c.ns lv, P.glob, c.ns⟩ fd.body (vls ds fd.N.length) b with
  | no => rw [e] at h; exact h
  | ex k as b1 =>
    rw [e] at h
    exact fun cls dd σ' H' f B x => h cls dd H' (kp f) B x
  | ok p b1 =>
    rw [e] at h
    obtain ⟨fl, s'⟩ := p
    cases fl with
    | nx => exact fun σ' H' R B f => h .non H' (kp f.toFrK) B ⟨rfl, fun z => absurd z nf⟩
    | rt d => exact fun v H' f B r => h v H' (kp f) B ⟨r, fun z => absurd z nf⟩
    | bk => exact h.elim
    | ct => exact h.elim
/-- a def of two rows, its result made anew -/
def ckNew (P : Prg) (free cls : List Str) (fd : FD) (body : List Stmt) (sc : Scope) : Bool := scB fd.N fd.ps sc && (match fd.body, body with
  | .cons (.asg o t e0) (.cons (.ret e) .nil), [st, .Return (some x) _] => ckS ⟨fd.N, sc, none, free, P, cls⟩ (.asg o t e0) st && ckE ⟨fd.N, sc, none, free, P, cls⟩ false e x && isFr e
  | _, _ => false)
theorem new_inv {fd : FD} {body : List Stmt} {sc : Scope} (h : ckNew P free cls fd body sc = true) : scB fd.N fd.ps sc = true ∧ ∃ o t e0 e st x pos, fd.body = .cons (.asg o t e0) (.cons (.ret e) .nil) ∧ body = [st, .Return (some x) pos] ∧
    ckS ⟨fd.N, sc, none, free, P, cls⟩ (.asg o t e0) st = true ∧ ckE ⟨fd.N, sc, none, free, P, cls⟩ false e x = true ∧ isFr e = true := by
  obtain ⟨hs, h⟩ := and2 h
  refine ⟨hs, ?_⟩
  split at h
  · rename_i o t e0 e st x pos hb _
    obtain ⟨h, h3⟩ := and2 h
    obtain ⟨h1, h2⟩ := and2 h
    exact ⟨o, t, e0, e, st, x, pos, hb, rfl, h1, h2, h3⟩
  · cases h
theorem RepF.back {c : Cc} {H H1 H' : Hp} {N N0 : Addr → Prop} {d : D} {v : V} (r : RepF c H1 H' N d v) (hs : ∀ a, N0 a → N a) (fr : ∀ a, H1 a = none → H a = none) : RepF c H H' N0 d v := by
  cases d with
  | lst ds =>
    obtain ⟨a, xs, e, h1, h2, q⟩ := r
    exact ⟨a, xs, e, fr a h1, h2, q.sub fun b z => z.imp (hs b) id⟩
  | _ => exact Rep.sub (N := N) r hs
theorem asg_nx {cf : Cfg} {o : Bool} {t : MT} {e0 : ME} {s : Env} {b b1 : Bx} {p : Flow × Env} (h : exS cf (.asg o t e0) s b = .ok p b1) : p.1 = .nx := by
  obtain ⟨x, b2, _, h⟩ := bd_ok (show ((evE cf e0 s).bd fun x => (M.ofO (match t with | .slot i => setOwn o i x s | t => if o then none else bindT t x s)).bd fun s' => M.ret (.nx, s')) b = .ok p b1 from by
    cases t <;> exact h)
  obtain ⟨y, b3, _, h⟩ := bd_ok h
  cases h
  rfl
theorem ok_new {lv f : Nat} {fd : FD} {qual : Str} {params : Arguments} {body : List Stmt} {sc : Scope} {a : Addr} {fdd : FuncData} (Ms : Mods Pg K mg c P free cls) (hf : P.fs[f]? = some fd) (hk : fd.kind = .mini) (hc : ckNew P free cls fd body sc = true)
    (ih : ∀ f fd, P.fs[f]? = some fd → OkAt Pg w K mg base c P T lv f fd) (F : FunD K fd.name qual params body sc [] [] a fdd) :
    FnOk Pg w K mg base (L2.CX Pg w) (lv + 1) a fdd fd.ps (spF c (run P c.ns (lv + 1)) f fd.ps.length) := by
  obtain ⟨hs, o, t, e0, e, st, x, pos, hfb, rfl, h1, h2, h3⟩ := new_inv hc
  refine F.ok (sc_ok hs) (fun vs H Q E h => h.1) fun cdv A outer s H vs Q E hr h => ?_
  obtain ⟨hl, β, N0, ds, b, r, hd, hb, B, h⟩ := h
  have G := gs_of (cls := cls) (outer := outer) (H := H) (E := E) (β := β) Ms hs ih hr
  refine ⟨_, pss_cons (sS N0 G (.asg o t e0) st h1) (pss_cons (ps_ret (sF e G.toGX h3 h2)) pss_nil), vls ds fd.N.length, b, (start_rel r hd hb).1, B, ?_⟩
  have no := (start_rel (N := fd.N) r hd hb).2
  have len : ds.length = fd.ps.length := by rw [r.length]; exact hl
  have kp : ∀ {H'}, FrK (c.at β) H (start fd.N vs) (vls ds fd.N.length) H' → Keep (c.at β) H H' := fun {H'} f => ⟨fun a o hb h => f.kp a o hb (no a) h, f.fr⟩
  rw [run_mini hf hk len, hfb] at h
  unfold M.bd at h
  have hb2 : exSs ⟨run P c.ns lv, P.glob, c.ns⟩ (.cons (.asg o t e0) (.cons (.ret e) .nil)) (vls ds fd.N.length) b = ((exS ⟨run P c.ns lv, P.glob, c.ns⟩ (.asg o t e0) (vls ds fd.N.length)).bd fun p => (match p.1 with | .nx => exSs ⟨run P c.ns lv, P.glob, c.ns⟩ (.cons (.ret e) .nil) p.2 | _ => M.ret p)) b := rfl
  unfold M.bd at hb2
  cases e1 : exS ⟨run P c.ns lv, P.glob, c.ns⟩ (.asg o t e0) (vls ds fd.N.length) b with
  | no => rw [hb2, e1] at h; exact h
  | ex k as b1 =>
    rw [hb2, e1] at h
    exact fun cls dd σ' H' f B x => h cls dd H' (kp f) B x
  | ok p b1 =>
    rw [hb2, e1] at h
    obtain ⟨fl, s1⟩ := p
    have hfl : fl = .nx := asg_nx e1
    subst hfl
    intro σ1 H1 R1 B1 f1
    refine ⟨N0, s1, b1, R1, B1, ?_⟩
    have hr2 : exSs ⟨run P c.ns lv, P.glob, c.ns⟩ (.cons (.ret e) .nil) s1 b1 = (match evE ⟨run P c.ns lv, P.glob, c.ns⟩ e s1 b1 with | .ok d b2 => .ok (.rt d, s1) b2 | .ex k d b2 => .ex k d b2 | .no => .no) := by
      show (M.bd (M.bd (evE ⟨run P c.ns lv, P.glob, c.ns⟩ e s1) fun x => M.ret (Flow.rt x, s1)) _) b1 = _
      unfold M.bd
      cases evE ⟨run P c.ns lv, P.glob, c.ns⟩ e s1 b1 <;> rfl
    simp only at h
    rw [hr2] at h
    cases e2 : evE ⟨run P c.ns lv, P.glob, c.ns⟩ e s1 b1 with
    | no => rw [e2] at h; exact h
    | ex k as b2 =>
      rw [e2] at h
      exact fun cls dd H' k2 B x => h cls dd H' ((kp f1.toFrK).trans k2) B x
    | ok d b2 =>
      rw [e2] at h
      intro v H' k2 B2 r2
      exact h v H' ((kp f1.toFrK).trans k2) B2 ⟨Rep.sub (RepF.rep r2 fun a => R1.domN) fun _ => .inl, fun _ => RepF.back r2 (fun _ => .inl) f1.fr⟩
/-- all defs at all levels: those that are not trees by hand -/
theorem all_ok (Ms : Mods Pg K mg c P free cls) (hd : ∀ f fd, P.fs[f]? = some fd → mg fd.name = some (.ref (T f).1) ∧ PySem.W.keepIn K (.ref (T f).1) = true ∧ (Binds K (T f).2 fd.ps [] ∧ KwOk (T f).2 fd.ps) ∧
      ((fd.kind = .mini ∧ ∃ qual params body sc, (if fd.fresh then ckNew P free cls fd body sc else ckDef P free cls fd body sc) = true ∧ FunD K fd.name qual params body sc [] [] (T f).1 (T f).2) ∨
        ∀ lv, FnOk Pg w K mg base (L2.CX Pg w) (lv + 1) (T f).1 (T f).2 fd.ps (spF c (run P c.ns (lv + 1)) f fd.ps.length))) :
    ∀ lv f fd, P.fs[f]? = some fd → OkAt Pg w K mg base c P T lv f fd
  | 0, f, fd, hf => by
    obtain ⟨h1, h2, h3, _⟩ := hd f fd hf
    exact ⟨h1, h2, h3, ⟨fun vs H Q E h => h.1, fun A outer s H args us vs Q E _ _ _ _ h => by
      obtain ⟨_, β, N0, ds, b, _, _, _, _, h⟩ := h
      exact h.elim⟩⟩
  | lv + 1, f, fd, hf => by
    obtain ⟨h1, h2, h3, h4⟩ := hd f fd hf
    refine ⟨h1, h2, h3, ?_⟩
    rcases h4 with ⟨hk, qual, params, body, sc, hc, F⟩ | h4
    · cases hfr : fd.fresh with
      | true =>
        rw [hfr, if_pos rfl] at hc
        exact ok_new Ms hf hk hc (all_ok Ms hd lv) F
      | false =>
        rw [hfr, if_neg (by decide)] at hc
        exact ok_mini Ms hf hk hfr hc (all_ok Ms hd lv) F
    · exact h4 lv
end
end Mi
namespace Mi
open PySem L2
def bTail (j : Nat) : List Value := if j < 5 then [.type "LookupError", .type "Exception", .type "BaseException", .type "object"] else [.type "ValueError", .type "Exception", .type "BaseException", .type "object"]
def bName (j : Nat) : String := if j < 5 then "LookupError" else "ValueError"
def bNew (j : Nat) : String := if j < 5 then "LookupError.__new__" else "ValueError.__new__"
def bIni (j : Nat) : String := if j < 5 then "LookupError.__init__" else "ValueError.__init__"
/-- a class with the row of its __init__ -/
structure CD where
  j : Nat
  me : Str
  params : Arguments
  body : List Stmt
  scope : Scope
abbrev cAd (K : PySem.W.Frag) (j : Nat) : Addr := He.ga K (excName j)
abbrev iAd (K : PySem.W.Frag) (j : Nat) : Addr := He.ma K (cAd K j) "__init__"
def shapeB (K : PySem.W.Frag) (j : Nat) : Bool := match K.lookup (cAd K j) with
  | some ⟨.type "type", _, .cls cd, sl⟩ => decide (cd.mro = .ref (cAd K j) :: bTail j) && cd.hasDict && !cd.hasDel && (match sl.toList with
    | [_, _, _, _, some (.builtin n), _] => decide (n = bNew j)
    | _ => false)
  | _ => false
def eqB {α : Type} [DecidableEq α] (a b : α) : Bool := decide (a = b)
def iniB (K : PySem.W.Frag) (file : Str) (j : Nat) : Bool := match K.lookup (iAd K j) with
  | some ⟨_, _, .func fd, _⟩ => PySem.W.codeIn K fd.code fd.qualname && eqB fd.globals mainGlobals && eqB fd.builtins builtinsNs && eqB fd.defaults .none &&
      (match fd.code with
        | .ref a => (match K.lookup a with
          | some ⟨_, _, .fields vs, _⟩ => (match (vs[2]? : Option Value) with
            | some (Value.str f _) => f == file
            | _ => false)
          | _ => false)
        | _ => false) &&
      (match fd.closure with
        | [(x, a)] => eqB x ("__class__" : Str) && (match K.lookup a with
          | some ⟨_, _, .cell (some (.ref C)), _⟩ => eqB C (cAd K j)
          | _ => false)
        | _ => false)
  | _ => false
def bltTys : List (Ty × String) := [(.int, "int"), (.bool, "bool"), (.str, "str"), (.list, "list"), (.tuple, "tuple"), (.dict, "dict"), (.valueError, "ValueError"), (.lookupError, "LookupError"), (.keyError, "KeyError"), (.indexError, "IndexError")]
def clsB (K : PySem.W.Frag) (file : Str) (cs : List Nat) (j : Nat) : Bool :=
  eqB (PySem.W.nsIn K mainGlobals (excName j)) (some (some (.ref (cAd K j)))) && PySem.W.keepIn K (.ref (cAd K j)) && shapeB K j &&
  eqB (PySem.W.findIn K (.ref (cAd K j)) "__setattr__") (some (some (.builtin "object.__setattr__"))) && eqB (PySem.W.alongIn K "__init__" (bTail j)) (some (some (.builtin (bIni j)))) &&
  eqB (PySem.W.findIn K (.ref (cAd K j)) "__getattribute__") (some (some (.builtin "BaseException.__getattribute__"))) && eqB (PySem.W.findIn K (.ref (cAd K j)) "__getattr__") (some none) &&
  eqB (PySem.W.subIn K (.ref (cAd K j)) (.type "BaseException")) (some true) && eqB (PySem.W.findIn K (.ref (cAd K j)) "__class__") (some (some (.builtin "object.__class__"))) &&
  eqB (PySem.W.mroIn K (cAd K j) (.type "object")) (some true) &&
  (bltTys.all fun p => eqB (PySem.W.kitOne K (.ref (cAd K j)) (.type p.2)) (D.isTy (.exc j []) p.1)) && (cs.all fun k => eqB (PySem.W.kitOne K (.ref (cAd K j)) (.ref (cAd K k))) (some (decide (j = k)))) &&
  (match excFld j with
    | some f => eqB (PySem.W.findIn K (.ref (cAd K j)) f) (some none) && eqB (PySem.W.findIn K (.ref (cAd K j)) "__init__") (some (some (.ref (iAd K j)))) && eqB (PySem.W.typeIn K (.ref (iAd K j))) (some (.type "function")) && iniB K file j
    | none => PySem.W.excIn K (cAd K j) (bTail j) (bNew j)) &&
  eqB (PySem.W.typeIn K (.ref (cAd K j))) (some (.type "type")) && (cs.all fun k => eqB (PySem.W.exmOne K (.ref (cAd K j)) (.ref (cAd K k))) (some (decide (k = j))))
def genB (K : PySem.W.Frag) : Bool := eqB (PySem.W.nsIn K PySem.cStatics "thirdparty.any") (some none) && eqB (PySem.W.specialIn K (.builtin "object.__class__") "__get__") (some (some (.builtin "getset_descriptor.__get__"))) && eqB (PySem.W.takesIn K (.builtin "object.__class__")) (some true)
abbrev IniW : Type := Option (Arguments × FuncBody × Scope)
def iniW (K : PySem.W.Frag) (j : Nat) : IniW := match K.lookup (iAd K j) with
  | some ⟨_, _, .func fd, _⟩ => some (fd.params, fd.body, fd.scope)
  | _ => none
def CD.val (d : CD) : IniW := some (d.params, .stmts d.body, d.scope)
/-- all that is read -/
abbrev AlX : Type := He.AlD × Bool × List IniW
def obsX (file : Str) (cs : List Nat) (cds : List CD) (fa : List He.Fa) (fn : List He.DefD) (K : PySem.W.Frag) : AlX := (He.obsD fa fn K, genB K && cs.all (clsB K file cs), cds.map fun d => iniW K d.j)
def valX (cds : List CD) (fn : List He.DefD) : AlX := (He.valD fn, true, cds.map CD.val)
def SaysX (file : Str) (cs : List Nat) (cds : List CD) (fa : List He.Fa) (fn : List He.DefD) (K : PySem.W.Frag) : Prop := obsX file cs cds fa fn K = valX cds fn
def obsXG (n : Nat) (file : Str) (cs : List Nat) (cds : List CD) (fa : List He.Fa) (fn : List He.DefD) (g : Addr → Option Obj) : AlX := obsX file cs cds fa fn (He.frG g (PySem.cStatics :: He.asD g n))
def hookX (n : Nat) (file : Str) (cs : List Nat) (cds : List CD) (fa : List He.Fa) (fn : List He.DefD) : PySem.W.Hook where
  α := AlX
  obs := fun s => obsXG n file cs cds fa fn s.heap.get?
  val := fun _ => valX cds fn
  says := fun _ h => ∃ K : PySem.W.Frag, K.In h ∧ SaysX file cs cds fa fn K
  of := fun _ _ e => ⟨_, He.frG_in, e⟩
  keeps := fun _ _ _ ⟨K, hK, c⟩ k => ⟨K, PySem.W.Frag.In.keeps hK k, c⟩
theorem obsXG_eq {n : Nat} {file : Str} {cs : List Nat} {cds : List CD} {fa : List He.Fa} {fn : List He.DefD} {g : Addr → Option Obj} {s : Shared} (h : ∀ a, g a = s.heap.get? a) : obsXG n file cs cds fa fn g = (hookX n file cs cds fa fn).obs s := by
  have e : g = s.heap.get? := funext h
  rw [e] <;> rfl
section
variable {file : Str} {cs : List Nat} {cds : List CD} {fa : List He.Fa} {fn : List He.DefD} {K : PySem.W.Frag}
theorem SaysX.d (c : SaysX file cs cds fa fn K) : He.SaysD fa fn K := congrArg (fun z : AlX => z.1) c
theorem SaysX.b (c : SaysX file cs cds fa fn K) : genB K = true ∧ cs.all (clsB K file cs) = true := and2 (congrArg (fun z : AlX => z.2.1) c)
theorem SaysX.i (c : SaysX file cs cds fa fn K) {d : CD} (h : d ∈ cds) : iniW K d.j = d.val := by
  have e : cds.map (fun d => iniW K d.j) = cds.map CD.val := congrArg (fun z : AlX => z.2.2) c
  exact List.map_inj_left.mp e d h
theorem eqB_ok {α : Type} [DecidableEq α] {a b : α} (h : eqB a b = true) : a = b := of_decide_eq_true h
theorem exc_inj {j k : Nat} (hk : k < 10) (h : excName j = excName k) : j = k := by
  have h1 : ∀ k < 10, excName k ≠ ("" : Str) := by decide +kernel
  have h2 : ∀ j < 10, ∀ k < 10, excName j = excName k → j = k := by decide +kernel
  by_cases hj : j < 10
  · exact h2 j hj k hk h
  · have e : excName j = ("" : Str) := by
      match j, hj with
      | 0, h => exact absurd (by decide) h
      | 1, h => exact absurd (by decide) h
      | 2, h => exact absurd (by decide) h
      | 3, h => exact absurd (by decide) h
      | 4, h => exact absurd (by decide) h
      | 5, h => exact absurd (by decide) h
      | 6, h => exact absurd (by decide) h
      | 7, h => exact absurd (by decide) h
      | 8, h => exact absurd (by decide) h
      | 9, h => exact absurd (by decide) h
      | n + 10, _ => rfl
    rw [e] at h
    exact absurd h.symm (h1 k hk)
/-- the rows of the classes are as they ought to be -/
def cdOk (d : CD) : Bool := match excFld d.j with
  | some f => plainArgs [d.me, f] d.params && iniScope d.me f d.scope && iniBody d.me f f d.body
  | none => false
def cdsOk (cs : List Nat) (cds : List CD) : Bool := cs.all (fun j => decide (j < 10)) && cs.all (fun j => (excFld j).isNone || cds.any fun d => decide (d.j = j)) && cds.all cdOk
section
variable {file : Str} {cs : List Nat} {cds : List CD} {fa : List He.Fa} {fn : List He.DefD} {K : PySem.W.Frag} {Pg : Program} {h : Heap} {mg : Str → Option Value}
theorem name_mem (hk : cdsOk cs cds = true) {j : Nat} (hj : excName j ∈ cs.map excName) : j ∈ cs := by
  obtain ⟨h1, _⟩ := and2 hk
  obtain ⟨h1, _⟩ := and2 h1
  obtain ⟨k, hk, e⟩ := List.mem_map.mp hj
  have := of_decide_eq_true (List.all_eq_true.mp h1 k hk)
  rw [exc_inj this e.symm]
  exact hk
structure ClsF (K : PySem.W.Frag) (file : Str) (cs : List Nat) (j : Nat) : Prop where
  nm : PySem.W.nsIn K mainGlobals (excName j) = some (some (.ref (cAd K j)))
  kp : PySem.W.keepIn K (.ref (cAd K j)) = true
  sh : shapeB K j = true
  sa : PySem.W.findIn K (.ref (cAd K j)) "__setattr__" = some (some (.builtin "object.__setattr__"))
  al : PySem.W.alongIn K "__init__" (bTail j) = some (some (.builtin (bIni j)))
  cx : ClsX K (cAd K j)
  bl : ∀ p ∈ bltTys, PySem.W.kitOne K (.ref (cAd K j)) (.type p.2) = D.isTy (.exc j []) p.1
  ow : ∀ k ∈ cs, PySem.W.kitOne K (.ref (cAd K j)) (.ref (cAd K k)) = some (decide (j = k))
  fl : ∀ f, excFld j = some f → PySem.W.findIn K (.ref (cAd K j)) f = some none ∧ PySem.W.findIn K (.ref (cAd K j)) "__init__" = some (some (.ref (iAd K j))) ∧ PySem.W.typeIn K (.ref (iAd K j)) = some (.type "function") ∧ iniB K file j = true
  f0 : excFld j = none → PySem.W.excIn K (cAd K j) (bTail j) (bNew j) = true
  ty : PySem.W.typeIn K (.ref (cAd K j)) = some (.type "type")
  em : ∀ k ∈ cs, PySem.W.exmOne K (.ref (cAd K j)) (.ref (cAd K k)) = some (decide (k = j))
theorem shape_ok {j : Nat} (h : shapeB K j = true) : ∃ nm q N bs sn sub ab col dd k0 k1 k2 k3 k5, K.lookup (cAd K j) = some (excClassObj nm q (cAd K j) N bs (bTail j) true sn sub ab col dd k0 k1 k2 k3 k5 (bNew j)) := by
  unfold shapeB at h
  split at h
  · rename_i dd cd sl ho
    obtain ⟨h, h4⟩ := and2 h
    obtain ⟨h, h3⟩ := and2 h
    obtain ⟨h1, h2⟩ := and2 h
    have d1 := of_decide_eq_true h1
    have d3 := not1 h3
    clear h h1 h3
    obtain ⟨nm, bs, mro, ns, qn, hd, sn, sub, ab, col, del⟩ := cd
    simp only at d1 h2 d3
    subst d1 h2 d3
    split at h4
    · rename_i k0 k1 k2 k3 n k5 hs
      have h4 := of_decide_eq_true h4
      subst h4
      have hsl : sl = #[k0, k1, k2, k3, some (.builtin (bNew j)), k5] := by
        obtain ⟨l⟩ := sl
        simp only at hs
        rw [hs]
      subst hsl
      exact ⟨_, _, _, _, _, _, _, _, _, _, _, _, _, _, ho⟩
    · cases h4
  · cases h
theorem SaysX.cls (c : SaysX file cs cds fa fn K) {j : Nat} (hj : j ∈ cs) : ClsF K file cs j := by
  obtain ⟨g, b⟩ := c.b
  have h := List.all_eq_true.mp b j hj
  obtain ⟨g, g3⟩ := and2 g
  obtain ⟨g1, g2⟩ := and2 g
  unfold clsB at h
  obtain ⟨h, h15⟩ := and2 h
  obtain ⟨h, h14⟩ := and2 h
  obtain ⟨h, h13⟩ := and2 h
  obtain ⟨h, h12⟩ := and2 h
  obtain ⟨h, h11⟩ := and2 h
  obtain ⟨h, h10⟩ := and2 h
  obtain ⟨h, h9⟩ := and2 h
  obtain ⟨h, h8⟩ := and2 h
  obtain ⟨h, h7⟩ := and2 h
  obtain ⟨h, h6⟩ := and2 h
  obtain ⟨h, h5⟩ := and2 h
  obtain ⟨h, h4⟩ := and2 h
  obtain ⟨h, h3⟩ := and2 h
  obtain ⟨h1, h2⟩ := and2 h
  have hc : ∃ cd, PySem.W.clsIn K (cAd K j) = some cd ∧ cd.hasDict = true := by
    obtain ⟨nm, q, N, bs, sn, sub, ab, col, dd, k0, k1, k2, k3, k5, hC⟩ := shape_ok h3
    refine ⟨{ name := nm, bases := bs, mro := .ref (cAd K j) :: bTail j, ns := N, qualname := q, hasDict := true, slotNames := sn, subclasses := sub, abstract := ab, collection := col, hasDel := false }, ?_, rfl⟩
    unfold PySem.W.clsIn
    rw [hC] <;> rfl
  obtain ⟨cd, hcd, hdd⟩ := hc
  refine ⟨eqB_ok h1, h2, h3, eqB_ok h4, eqB_ok h5, ⟨by rw [hcd]; rfl, eqB_ok h6, eqB_ok h7, eqB_ok h8, eqB_ok h9, eqB_ok g2, eqB_ok g3, eqB_ok h10, by unfold PySem.W.hasDictIn; rw [hcd]; exact hdd⟩, fun p hp => eqB_ok (List.all_eq_true.mp h11 p hp), fun k hk => eqB_ok (List.all_eq_true.mp h12 k hk), fun f hf => ?_, fun hf => by rw [hf] at h13; exact h13, eqB_ok h14, fun k hk => eqB_ok (List.all_eq_true.mp h15 k hk)⟩
  rw [hf] at h13
  obtain ⟨h, q4⟩ := and2 h13
  obtain ⟨h, q3⟩ := and2 h
  obtain ⟨q1, q2⟩ := and2 h
  exact ⟨eqB_ok q1, eqB_ok q2, eqB_ok q3, q4⟩
theorem ini_ok {j : Nat} {d : CD} {f : Str} (hb : iniB K file j = true) (hd : iniW K j = d.val) (hj : d.j = j) (hf : excFld j = some f) (hk : cdOk d = true) (hfile : Pg.main.file = file) (htop : (Pg.main.scope.names.lookup ("super" : Str)).isSome = false) :
    ∃ fd, IniK Pg K (cAd K j) (iAd K j) d.me f f fd := by
  unfold iniB at hb
  unfold iniW at hd
  split at hb
  · rename_i oc od fd osl ho
    rw [ho] at hd
    have hd : some (fd.params, fd.body, fd.scope) = some (d.params, .stmts d.body, d.scope) := hd
    have e1 : fd.params = d.params := congrArg (fun z => z.1) (Option.some.inj hd)
    have e2 : fd.body = .stmts d.body := congrArg (fun z => z.2.1) (Option.some.inj hd)
    have e3 : fd.scope = d.scope := congrArg (fun z => z.2.2) (Option.some.inj hd)
    unfold cdOk at hk
    rw [hj, hf] at hk
    obtain ⟨hk, k3⟩ := and2 hk
    obtain ⟨k1, k2⟩ := and2 hk
    obtain ⟨hb, b6⟩ := and2 hb
    obtain ⟨hb, b5⟩ := and2 hb
    obtain ⟨hb, b4⟩ := and2 hb
    obtain ⟨hb, b3⟩ := and2 hb
    obtain ⟨b1, b2⟩ := and2 hb
    refine ⟨fd, { fn := ⟨_, _, _, ho⟩, code := ?_, cin := b1, cell := ?_, glob := eqB_ok b2, blt := eqB_ok b3, body := ⟨d.body, e2, k3⟩, sc := by rw [e3]; exact k2, args := by rw [e1]; exact k1, dfl := eqB_ok b4, top := htop }⟩
    · split at b5
      · rename_i a ha
        split at b5
        · rename_i x1 x2 vs x3 hv
          split at b5
          · rename_i f tk he
            exact ⟨a, _, _, vs, _, f, tk, ha, hv, he, by rw [hfile, eq_of_beq b5]; exact beq_self_eq_true _⟩
          · cases b5
        · cases b5
      · cases b5
    · split at b6
      · rename_i x a hx
        obtain ⟨b6, b7⟩ := and2 b6
        have b6 := eqB_ok b6
        subst b6
        split at b7
        · rename_i x1 x2 C x3 hv
          have b7 := eqB_ok b7
          subst b7
          exact ⟨a, _, _, _, hx, hv⟩
        · cases b7
      · cases b6
  · cases hb
theorem mk_ok {j : Nat} {f : Str} (c : SaysX file cs cds fa fn K) (hk : cdsOk cs cds = true) (hj : j ∈ cs) (hf : excFld j = some f) (hfile : Pg.main.file = file) (htop : (Pg.main.scope.names.lookup ("super" : Str)).isSome = false) (hs : mg "super" = none) :
    ∃ fI B newId initId bmB y x fd, ∀ X : Cx, X.K = K → X.prog = Pg → X.mg = mg → MkK X (cAd K j) fI B newId initId bmB y x f fd := by
  have F := c.cls hj
  obtain ⟨hk, k3⟩ := and2 hk
  obtain ⟨k1, k2⟩ := and2 hk
  have k2 := List.all_eq_true.mp k2 j hj
  rw [hf] at k2
  obtain ⟨d, hd, hdj⟩ := List.any_eq_true.mp (show (cds.any fun d => decide (d.j = j)) = true from k2)
  have hdj := of_decide_eq_true hdj
  obtain ⟨f1, f2, f3, f4⟩ := F.fl f hf
  have hi := c.i hd
  rw [hdj] at hi
  obtain ⟨fd, T⟩ := ini_ok (Pg := Pg) f4 hi hdj hf (List.all_eq_true.mp k3 d hd) hfile htop
  obtain ⟨g, _⟩ := c.b
  obtain ⟨g, _⟩ := and2 g
  obtain ⟨g1, _⟩ := and2 g
  have E : ExK K (cAd K j) (bName j) (bNew j) (bIni j) (bTail j) := by
    refine { fb := ?_, kf := ?_, pass := ?_, ob := ?_, cls := shape_ok F.sh, sa := F.sa, al := F.al, opq := eqB_ok g1 }
    · unfold bName bNew bIni bTail
      split
      · exact PySem.F.excBase_LookupError
      · exact PySem.F.excBase_ValueError
    · unfold bName bIni
      split
      · exact PySem.W.kxs_LookupError
      · exact PySem.W.kxs_ValueError
    · unfold bTail
      split
      · exact PySem.F.store_LookupError.passes
      · exact PySem.F.store_ValueError.passes
    · unfold bTail
      split <;> decide +kernel
  refine ⟨iAd K j, bName j, bNew j, bIni j, bTail j, d.me, f, fd, fun X e1 e2 e3 => ?_⟩
  subst e1 e2 e3
  exact ⟨E, T, f2, f3, f1, F.kp, hs⟩
end
end
end Mi
namespace Mi
open PySem L2
def constFa : Str × D → He.Fa
  | (x, .int i) => .int x i
  | (x, .str z) => .str x z
  | (x, _) => .glo x
def constOk : Str × D → Bool
  | (_, .int _) => true
  | (_, .str z) => strFits z
  | _ => false
/-- what is asked of the module -/
def faOf (P : Prg) (free : List Str) : List He.Fa := (P.fs.map fun fd => He.Fa.glo fd.name) ++ free.map He.Fa.free ++ P.gs.map constFa
def isMini : Kind → Bool
  | .mini => true
  | _ => false
def pairOk (P : Prg) (free cls : List Str) (fd : FD) (d : He.DefD) : Bool := decide (d.at_ = (fd.name, none)) && decide (d.name = fd.name) && d.dfl.isEmpty && d.kwd.isEmpty && isMini fd.kind && plainArgs fd.ps d.params && decide fd.ps.Nodup &&
  (if fd.fresh then ckNew P free cls fd d.body d.scope else ckDef P free cls fd d.body d.scope)
def pairsOk (P : Prg) (free cls : List Str) : List FD → List He.DefD → Bool
  | [], [] => true
  | fd :: fs, d :: ds => pairOk P free cls fd d && pairsOk P free cls fs ds
  | _, _ => false
def ckAll (P : Prg) (free : List Str) (cs : List Nat) (cds : List CD) (fn : List He.DefD) : Bool := pairsOk P free (cs.map excName) P.fs fn && P.gs.all constOk && cdsOk cs cds && decide (("super" : Str) ∈ free)
theorem pairs_get {P : Prg} {free cls : List Str} : ∀ {fs : List FD} {ds : List He.DefD}, pairsOk P free cls fs ds = true → ∀ (f : Nat) (fd : FD), fs[f]? = some fd → ∃ d, ds[f]? = some d ∧ pairOk P free cls fd d = true
  | [], _, _, f, fd, h => by simp at h
  | _ :: _, [], h, _, _, _ => by cases h
  | x :: fs, d :: ds, h, f, fd, e => by
    obtain ⟨h1, h2⟩ := and2 (show (pairOk P free cls x d && pairsOk P free cls fs ds) = true from h)
    cases f with
    | zero =>
      simp at e
      subst e
      exact ⟨d, rfl, h1⟩
    | succ f => exact pairs_get h2 f fd (by simpa using e)
/-- the context of a script -/
def ccOf (K : PySem.W.Frag) (P : Prg) (cs : List Nat) (ns : List Int) : Cc := ⟨K, none, ns, fun j a dd o => j ∈ cs ∧ o = ExV (cAd K j) dd a, fun f => ((P.fs[f]?).map (·.fresh)).getD false, fun j ds cv dd H => j ∈ cs ∧ cv = .ref (cAd K j) ∧ ExFl j ds dd H⟩
theorem tys_mem {t : Ty} {y : String} (h : tyStr t = some y) : (t, y) ∈ bltTys := by
  cases t <;> simp only [tyStr] at h <;> first | (cases h; done) | (cases h; decide)
theorem mods_of {K : PySem.W.Frag} {h : Heap} {mg : Str → Option Value} {P : Prg} {free : List Str} {fn : List He.DefD} {ns : List Int} {file : Str} {cs : List Nat} {cds : List CD} {Pg : Program} (X : K.In h) (G : h.Ns mainGlobals mg) (cx : SaysX file cs cds (faOf P free) fn K) (hk : P.gs.all constOk = true)
    (hcd : cdsOk cs cds = true) (hsup : ("super" : Str) ∈ free) (hfile : Pg.main.file = file) (htop : (Pg.main.scope.names.lookup ("super" : Str)).isSome = false) : Mods Pg K mg (ccOf K P cs ns) P free (cs.map excName) :=
  have c := cx.d
  have hsf := He.free_ok X G (c.facts (f := .free "super") (List.mem_append_left _ (List.mem_append_right _ (List.mem_map_of_mem hsup))))
  have own : ∀ j, j ∈ cs → mg (excName j) = some (.ref (cAd K j)) := fun j hj => PySem.W.mg_of X G (cx.cls hj).nm
  {
  hK := rfl
  free := fun x hx => He.free_ok X G (c.facts (f := .free x) (List.mem_append_left _ (List.mem_append_right _ (List.mem_map_of_mem hx))))
  gs := fun g x hx => by
    cases e : P.gs[g]? with
    | none => rw [e] at hx; cases hx
    | some p =>
      obtain ⟨y, d⟩ := p
      rw [e] at hx
      cases hx
      have hm : (y, d) ∈ P.gs := List.mem_of_getElem? e
      have hf := c.facts (f := constFa (y, d)) (List.mem_append_right _ (List.mem_map_of_mem hm))
      have ho := List.all_eq_true.mp hk _ hm
      have eg : P.glob g = some d := by unfold Prg.glob; rw [e]; rfl
      cases d with
      | int i =>
        obtain ⟨t, ht⟩ := He.int_ok X G (x := y) (i := i) hf
        exact ⟨_, .int i, _, eg, ht, ⟨t, rfl⟩, fun _ _ _ => rfl⟩
      | str z =>
        obtain ⟨t, ht⟩ := He.str_ok X G (x := y) (z := z) hf
        exact ⟨_, .str z, _, eg, ht, ⟨t, rfl⟩, fun _ _ _ => ⟨rfl, ho⟩⟩
      | _ => cases ho
  frs := fun f fd hf => by
    show ((P.fs[f]?).map (·.fresh)).getD false = _
    rw [hf]; rfl
  evs := fun j a dd o H hv he hd => by
    obtain ⟨hj, rfl⟩ := hv
    have F := cx.cls hj
    refine ⟨_, kitV_exc F.cx he hd, fun t cv u b hy hb => ?_⟩
    rcases hy with ⟨y, hy, _, rfl⟩ | ⟨q, C, rfl, hq, hC, _, rfl⟩
    · exact (F.bl _ (tys_mem hy)).trans hb
    · have hq := name_mem hcd hq
      rw [own q hq] at hC
      cases hC
      refine (F.ow q hq).trans ?_
      rw [← hb]
      rfl
  att := fun j a dd o hv => ⟨_, hv.2, (cx.cls hv.1).cx, fun f hf => ((cx.cls hv.1).fl f hf).1⟩
  own := fun j hj => ⟨_, own j (name_mem hcd hj)⟩
  exf := fun j ds cv dd H hv => by
    obtain ⟨hj, rfl, fl⟩ := hv
    have F := cx.cls hj
    refine ⟨cAd K j, rfl, F.cx, fl, fun f hf => (F.fl f hf).1, fun t cv u b hy hb => ?_, fun i Ci hi hC => ?_⟩
    · rcases hy with ⟨y, hy, _, rfl⟩ | ⟨q, C, rfl, hq, hC, _, rfl⟩
      · exact (F.bl _ (tys_mem hy)).trans hb
      · have hq := name_mem hcd hq
        rw [own q hq] at hC
        cases hC
        refine (F.ow q hq).trans ?_
        rw [← hb]
        rfl
    · have hi := name_mem hcd hi
      rw [own i hi] at hC
      cases hC
      exact F.em i hi
  mkr := fun j hj => by
    have hj := name_mem hcd hj
    have F := cx.cls hj
    refine ⟨cAd K j, own j hj, F.kp, fun Y e => raises_own (by rw [e]; exact F.cx.su) (by rw [e]; exact F.ty), fun hf => ⟨bName j, bNew j, bIni j, bTail j, ?_, F.f0 hf⟩, fun ds dd H h => ⟨hj, rfl, h⟩⟩
    unfold bName bNew bIni bTail
    split
    · exact PySem.F.excBase_LookupError
    · exact PySem.F.excBase_ValueError
  mks := fun j f hj hf => by
    have hj := name_mem hcd hj
    obtain ⟨fI, B, newId, initId, bmB, y, x, fd, T⟩ := mk_ok (Pg := Pg) (mg := mg) cx hcd hj hf hfile htop hsf
    exact ⟨_, fI, B, newId, initId, bmB, y, x, fd, T, own j hj, fun a d => ⟨hj, rfl⟩⟩ }
theorem def_at {K : PySem.W.Frag} {h : Heap} {mg : Str → Option Value} {P : Prg} {free cls : List Str} {fn : List He.DefD} (X : K.In h) (G : h.Ns mainGlobals mg) (c : He.SaysD (faOf P free) fn K) (hp : pairsOk P free cls P.fs fn = true) (f : Nat) :
    ∃ t : Addr × FuncData, ∀ fd, P.fs[f]? = some fd → mg fd.name = some (.ref t.1) ∧ PySem.W.keepIn K (.ref t.1) = true ∧ (Binds K t.2 fd.ps [] ∧ KwOk t.2 fd.ps) ∧
      fd.kind = .mini ∧ ∃ qual params body sc, (if fd.fresh then ckNew P free cls fd body sc else ckDef P free cls fd body sc) = true ∧ FunD K fd.name qual params body sc [] [] t.1 t.2 := by
  cases e : P.fs[f]? with
  | none => exact ⟨(0, ⟨Str.empty, Str.empty, ⟨[], [], none, [], [], none, []⟩, .stmts [], default, 0, [], .none, .none, .none, .none, none, .none, .none, 0⟩), fun fd h => nomatch h⟩
  | some fd =>
    obtain ⟨d, hd, h⟩ := pairs_get hp f fd e
    obtain ⟨h, h8⟩ := and2 h
    obtain ⟨h, h7⟩ := and2 h
    obtain ⟨h, h6⟩ := and2 h
    obtain ⟨h, h5⟩ := and2 h
    obtain ⟨h, h4⟩ := and2 h
    obtain ⟨h, h3⟩ := and2 h
    obtain ⟨h1, h2⟩ := and2 h
    have h1 := of_decide_eq_true h1
    have h2 := of_decide_eq_true h2
    have h7 := of_decide_eq_true h7
    rw [List.isEmpty_iff] at h3 h4
    obtain ⟨fdd, F⟩ := c.def_ f hd
    have F : FunD K fd.name d.qual d.params d.body d.scope [] [] (He.fAd K d.at_) fdd := by
      have e1 : d.dvs K = [] := by unfold He.DefD.dvs; rw [h3]; rfl
      have e2 : d.kws K = [] := by unfold He.DefD.kws; rw [h4]; rfl
      rw [e1, e2, h2] at F
      exact F
    have hg := He.glo_ok X G (c.facts (f := .glo fd.name) (List.mem_append_left _ (List.mem_append_left _ (List.mem_map_of_mem (List.mem_of_getElem? e)))))
    have ea : He.fAd K d.at_ = He.ga K fd.name := by rw [h1]; rfl
    refine ⟨(He.fAd K d.at_, fdd), fun fd' e' => ?_⟩
    cases e'
    refine ⟨by rw [ea]; exact hg, F.kp, ⟨FunD.bindsN F fun kV doc pm an cdv ct us hl => binds_plain h6 h7 us hl, ?_⟩, ?_, d.qual, d.params, d.body, d.scope, h8, F⟩
    · obtain ⟨oc, od, dV, kV, doc, pm, an, cdv, ct, osl, rfl, _, _, hD, _⟩ := F.ex
      rcases hD with ⟨_, rfl⟩ | ⟨z, _⟩
      · exact kw_ok h6
      · exact absurd rfl z
    · cases ek : fd.kind with
      | mini => rfl
      | take => rw [ek] at h5; cases h5
      | cells => rw [ek] at h5; cases h5
theorem noX {Pg : Program} {w : World} {K : PySem.W.Frag} {mg : Str → Option Value} {base : Heap} {k : Nat} {f : Addr} {fd : FuncData} {ps : List Str} {ι : Type} {I : ι → Prop} {sp : ι → Sp} (F : ∀ i, FnOk Pg w K mg base (L2.CX Pg w) k f fd ps (sp i)) :
    FnOk Pg w K mg base L2.CX0 k f fd ps (fun vs H Q _ => ∃ i, I i ∧ sp i vs H Q fun _ _ _ => False) := by
  refine ⟨fun vs H Q E h => ?_, fun A outer s H args us vs Q E hr he hb hv h => ?_⟩
  · obtain ⟨i, _, h⟩ := h
    exact (F i).len vs H Q _ h
  · obtain ⟨i, _, h⟩ := h
    refine PySem.codeAny_mono ((F i).run A outer s H args us vs Q _ hr he hb hv h) fun r s' hq => ?_
    cases r with
    | error e =>
      obtain ⟨_, _, _, _, _, _, _, _, _, _, _, _, z⟩ := hq
      exact z.elim
    | ok fl => cases fl <;> exact hq
theorem law_F {P : Prg} {free : List Str} {fn : List He.DefD} {file : Str} {cs : List Nat} {cds : List CD} {iL LV most : Nat} {fl : FD} {x : Str} (hck : ckAll P free cs cds fn = true) (hl : P.fs[iL]? = some fl) (hn : fl.name = ("law" : Str)) (hx : fl.ps = [x])
    (hp : ∀ ns : List Int, ns.length ≤ most → ∃ b, run P ns LV iL [.scr] none = .ok (.bl true) b)
    {Pg : Program} {w : World} {K : PySem.W.Frag} {h : Heap} {mg : Str → Option Value} {fa : Addr} (X : K.In h) (G : h.Ns mainGlobals mg) (c : SaysX file cs cds (faOf P free) fn K) (hfile : Pg.main.file = file) (htop : (Pg.main.scope.names.lookup ("super" : Str)).isSome = false) (hmg : mg ("law" : Str) = some (.ref fa)) :
    ∃ (fd : FuncData) (sp : Sp), (∀ (s : Shared) (u : Value), BindsTo s fd ⟨[u], []⟩ [(x, u)]) ∧
      (∀ (H : Hp) (a : Addr) (ns : List Int), ns.length ≤ most → Only H → SqL K H a (ns.map V.int) → sp [.ref a] H (fun v _ => v = .bl true) fun _ _ _ => False) ∧
      ∀ base : Heap, K.In base → base.Ns mainGlobals mg → FnOk Pg w K mg base L2.CX0 LV fa fd [x] sp := by
  obtain ⟨hck, h4⟩ := and2 hck
  obtain ⟨hck, h3⟩ := and2 hck
  obtain ⟨h1, h2⟩ := and2 hck
  have ha := fun f => def_at X G c.d h1 f
  let T := fun f => Classical.choose (ha f)
  have hT := fun f => Classical.choose_spec (ha f)
  have e1 := (hT iL fl hl).1
  rw [hn, hmg] at e1
  have e1 : fa = (T iL).1 := by cases e1; rfl
  have e3 := (hT iL fl hl).2.2.1
  rw [hx] at e3
  refine ⟨(T iL).2, fun vs H Q _ => ∃ ns : List Int, ns.length ≤ most ∧ spF (ccOf K P cs ns) (run P ns LV) iL 1 vs H Q fun _ _ _ => False, fun s u => ?_, fun H a ns hns hO hS => ?_, fun base _ _ => ?_⟩
  · have e4 := e3.2 1 [] [u] [] (by unfold kwNames; simp) rfl rfl
    have e5 : [x].zip (permD (orderOf [x] 1 []) ([u] ++ [])) = [(x, u)] := by simp [permD, orderOf]
    rw [e5] at e4
    exact .of_eq e4
  · refine ⟨ns, hns, rfl, none, fun _ => False, [.scr], none, ⟨_, _, rfl, ⟨a, rfl, ?_⟩, rfl⟩, (fun _ z => z.elim), (fun _ z => nomatch z), trivial, ?_⟩
    · rcases hS with hS | hS
      · exact .inl ⟨id, hS⟩
      · exact .inr hS
    · obtain ⟨b, e⟩ := hp ns hns
      rw [e]
      exact fun v H' _ _ r => r.1
  · rw [e1]
    refine noX (I := fun ns : List Int => ns.length ≤ most) (sp := fun ns => spF (ccOf K P cs ns) (run P ns LV) iL 1) fun ns => ?_
    have := all_ok (Pg := Pg) (w := w) (base := base) (cls := cs.map excName) (T := T) (mods_of (ns := ns) X G c h2 h3 (of_decide_eq_true h4) hfile htop) (fun f fd hf => by
      obtain ⟨q1, q2, q3, q4, q5⟩ := hT f fd hf
      exact ⟨q1, q2, q3, .inl ⟨q4, q5⟩⟩) LV iL fl hl
    have := this.2.2.2
    rw [hx] at this
    exact this
end Mi
namespace Mi
open PySem
section
variable {α β : Type}
/-- it ends well, and then Q -/
def WP (m : M α) (Q : α → Bx → Prop) (b : Bx) : Prop := match m b with
  | .ok a b' => Q a b'
  | _ => False
/-- there is a box; n more draws are counted -/
def Bd (n : Nat) (b : Bx) : Prop := ∃ g m k : Int, b = some (g, m, k) ∧ 0 ≤ k ∧ k + n ≤ 2 ^ 60
/-- at most n draws, and what comes is as P says -/
def Dr (n : Nat) (m : M α) (P : α → Prop) : Prop := ∀ N b, Bd (N + n) b → WP m (fun a b' => P a ∧ Bd N b') b
variable {Q : α → Bx → Prop} {b : Bx}
theorem Bd.le {n m : Nat} (h : Bd n b) (l : m ≤ n) : Bd m b := by
  obtain ⟨g, q, k, e, h1, h2⟩ := h
  exact ⟨g, q, k, e, h1, by omega⟩
theorem WP_ret (a : α) : WP (M.ret a) Q b = Q a b := rfl
theorem WP_bd (m : M β) (f : β → M α) : WP (m.bd f) Q b = WP m (fun a b' => WP (f a) Q b') b := by
  unfold WP M.bd
  cases m b <;> rfl
theorem WP_ite {c : Prop} [Decidable c] (m n : M α) : WP (if c then m else n) Q b = if c then WP m Q b else WP n Q b := by
  split <;> rfl
theorem WP.imp {m : M α} {Q' : α → Bx → Prop} (h : WP m Q b) (i : ∀ a b, Q a b → Q' a b) : WP m Q' b := by
  unfold WP at h ⊢
  cases e : m b <;> rw [e] at h <;> first | exact i _ _ h | exact h
theorem Dr.wp {n N : Nat} {m : M α} {P : α → Prop} (d : Dr n m P) (hb : Bd (N + n) b) (h : ∀ a, P a → ∀ b', Bd N b' → Q a b') : WP m Q b :=
  WP.imp (d N b hb) fun a b' ⟨p, q⟩ => h a p b' q
theorem Dr.imp {n : Nat} {m : M α} {P P' : α → Prop} (d : Dr n m P) (i : ∀ a, P a → P' a) : Dr n m P' := fun N b h => WP.imp (d N b h) fun a b' ⟨p, q⟩ => ⟨i a p, q⟩
theorem Dr.congr {n : Nat} {m m' : M α} {P : α → Prop} (e : m = m') (d : Dr n m' P) : Dr n m P := e ▸ d
theorem Dr.more {n n' : Nat} {m : M α} {P : α → Prop} (d : Dr n m P) (l : n ≤ n') : Dr n' m P := fun N b h => WP.imp (d (N + (n' - n)) b (h.le (by omega))) fun a b' ⟨p, q⟩ => ⟨p, q.le (by omega)⟩
theorem Dr.ret {a : α} {P : α → Prop} (h : P a) : Dr 0 (M.ret a) P := fun N b hb => ⟨h, hb⟩
theorem Dr.bd {n1 n2 : Nat} {m : M β} {f : β → M α} {P : β → Prop} {P' : α → Prop} (d : Dr n1 m P) (h : ∀ a, P a → Dr n2 (f a) P') : Dr (n1 + n2) (m.bd f) P' := fun N b hb => by
  rw [WP_bd]
  exact d.wp (N := N + n2) (hb.le (by omega)) fun a p b' hb' => h a p N b' hb'
theorem Dr.rt {n : Nat} {m : M β} {f : β → M α} {P : β → Prop} {P' : α → Prop} (d : Dr n m P) (h : ∀ a, P a → Dr 0 (f a) P') : Dr n (m.bd f) P' := (d.bd h).more (Nat.le_refl _)
theorem WP_ofO {a : α} : WP (M.ofO (some a)) Q b = Q a b := rfl
end
section
variable {Q : D → Bx → Prop} {i j l : Int}
theorem WP_ix0 : WP (ixM .box (.int 0)) Q (some (i, j, l)) = Q (.int i) (some (i, j, l)) := rfl
theorem WP_ix1 : WP (ixM .box (.int 1)) Q (some (i, j, l)) = Q (.int j) (some (i, j, l)) := rfl
theorem WP_ix2 : WP (ixM .box (.int 2)) Q (some (i, j, l)) = Q (.int l) (some (i, j, l)) := rfl
theorem WP_set0 {α : Type} {a : α} {v : Int} {Q : α → Bx → Prop} : WP (bsetM a 0 v) Q (some (i, j, l)) = Q a (some (v, j, l)) := rfl
theorem WP_set1 {α : Type} {a : α} {v : Int} {Q : α → Bx → Prop} : WP (bsetM a 1 v) Q (some (i, j, l)) = Q a (some (i, v, l)) := rfl
theorem WP_set2 {α : Type} {a : α} {v : Int} {Q : α → Bx → Prop} : WP (bsetM a 2 v) Q (some (i, j, l)) = Q a (some (i, j, v)) := rfl
end
theorem mod_int {i j : Int} (h : 0 < j) : evOp .mod (.int i) (.int j) = some (.int (i % j)) := by
  show ((if 0 < j then some (i % j) else none).map D.int) = _
  rw [if_pos h]; rfl
theorem fdiv_int {i j : Int} (h : 0 < j) (h2 : j < 1073741824) : evOp .fdiv (.int i) (.int j) = some (.int (i / j)) := by
  show ((if 0 < j ∧ j < 1073741824 then some (i / j) else none).map D.int) = _
  rw [if_pos ⟨h, h2⟩]; rfl
theorem small_of {i : Int} (h1 : -(2 ^ 64) < i) (h2 : i < 2 ^ 64) : small64 i = true := by
  unfold small64
  rw [decide_eq_true h1, decide_eq_true h2]; rfl
theorem mulL {i j : Int} (h : small64 i = true) : evOp .mul (.int i) (.int j) = some (.int (i * j)) := by
  show (if small64 i || small64 j then some (D.int (i * j)) else none) = _
  rw [h]; rfl
theorem mulR {i j : Int} (h : small64 j = true) : evOp .mul (.int i) (.int j) = some (.int (i * j)) := by
  show (if small64 i || small64 j then some (D.int (i * j)) else none) = _
  rw [h, Bool.or_true]; rfl
theorem forGo_dr {t : MT} {dead : List Nat} {body : Env → M (Flow × Env)} {c : Nat} (I : List D → Env → Prop)
    (h : ∀ d ds s, I (d :: ds) s → ∃ s1, bindT t d s = some s1 ∧ Dr c (body s1) fun p => p.1 = .nx ∧ I ds (p.2.kill dead)) :
    ∀ (ds : List D) (s : Env), I ds s → Dr (c * ds.length) (forGo t dead body ds s) fun p => p.1 = .nx ∧ I [] p.2
  | [], s, hi => by
    rw [forGo_nil]
    exact Dr.ret ⟨rfl, hi⟩
  | d :: ds, s, hi => by
    obtain ⟨s1, e, dr⟩ := h d ds s hi
    rw [forGo_cons, e, ofO_some, bd_ret]
    refine (Dr.bd dr fun p hp => ?_).more (n := c + c * ds.length) (by simp only [List.length_cons, Nat.mul_add, Nat.mul_one]; omega)
    rw [hp.1]
    exact forGo_dr I h ds _ hp.2
theorem lenlt {a b : Nat} (h : Nat.ble (a + 1) b = true) : a < b := Nat.le_of_ble_eq_true h
/-- what follows a loop -/
def aft (K : Env → M (Flow × Env)) (p : Flow × Env) : M (Flow × Env) := match p.1 with
  | .nx => K p.2
  | _ => M.ret p
theorem aft_nx (K : Env → M (Flow × Env)) (s : Env) : aft K (.nx, s) = K s := rfl
theorem aft_rt (K : Env → M (Flow × Env)) (d : D) (s : Env) : aft K (.rt d, s) = M.ret (.rt d, s) := rfl
theorem sq_forA {c : Cfg} {r : MSs} {s : Env} {t : MT} {q : MSrc} {dead : List Nat} {b : MSs} : exSs c (.cons (.for_ t q dead b) r) s = (evSrc c q s).bd fun ds => (forGo t dead (exSs c b) ds s).bd (aft (exSs c r)) := sq_for
theorem sq_iteA {c : Cfg} {r : MSs} {s : Env} {t : ME} {a b : MSs} : exSs c (.cons (.ite t a b) r) s = (evT c t s).bd fun k => (if k then exSs c a s else exSs c b s).bd (aft (exSs c r)) := sq_ite
end Mi
namespace Mi
open PySem
theorem nr {α : Sort _} {a b : α} (h : a = b) : a = b := h
section
variable {α β γ : Type}
theorem q_ret (a : α) (f : α → M β) : (M.ret a).bd f = f a := nr rfl
theorem q_no (f : α → M β) : (M.no (α := α)).bd f = M.no := nr rfl
theorem q_rs (k : Nat) (ds : List D) (f : α → M β) : (M.raise (α := α) k ds).bd f = M.raise k ds := nr rfl
theorem q_some (a : α) : M.ofO (some a) = M.ret a := nr rfl
theorem q_none : M.ofO (none (α := α)) = M.no := nr rfl
theorem q_nexR (a : α) : (M.ret a).nex = M.ret a := nr rfl
theorem q_asc (m : M α) (f : α → M β) (g : β → M γ) : (m.bd f).bd g = m.bd fun a => (f a).bd g := bd_assoc m f g
theorem q_ite {c : Prop} [Decidable c] (m n : M α) (f : α → M β) : (if c then m else n).bd f = if c then m.bd f else n.bd f := bd_ite m n f
theorem q_asB (d : D) : (M.ret d).asB = M.ofO (asB d) := nr rfl
end
section
variable {c : Cfg} {s : Env}
/-- what a slot holds -/
def vlAt : Option Sl → M D
  | some (.vl d) => M.ret d
  | _ => M.no
def borAt : Option Sl → M D
  | some (.vl d) => M.ret d
  | some (.ow d) => M.ret d
  | _ => M.no
def ownK {β : Type} (k : List D → M β) : Option Sl → M β
  | some (.ow (.lst xs)) => k xs
  | _ => M.no
def optK {α β : Type} (k : α → M β) : Option α → M β
  | some a => k a
  | none => M.no
theorem vlAt_v (d : D) : vlAt (some (.vl d)) = M.ret d := nr rfl
theorem borAt_v (d : D) : borAt (some (.vl d)) = M.ret d := nr rfl
theorem borAt_o (d : D) : borAt (some (.ow d)) = M.ret d := nr rfl
theorem ownK_o {β : Type} (k : List D → M β) (xs : List D) : ownK k (some (.ow (.lst xs))) = k xs := nr rfl
theorem optK_s {α β : Type} (k : α → M β) (a : α) : optK k (some a) = k a := nr rfl
theorem optK_n {α β : Type} (k : α → M β) : optK k none = M.no := nr rfl
theorem q_var {i : Nat} : evE c (.var i) s = vlAt s[i]? := by
  show (match s[i]? with | some (.vl d) => M.ret d | _ => M.no) = _
  rcases s[i]? with _ | x
  · rfl
  · cases x <;> rfl
theorem q_bor {i : Nat} : evE c (.bor i) s = borAt s[i]? := by
  show (match s[i]? with | some (.vl d) => M.ret d | some (.ow d) => M.ret d | _ => M.no) = _
  rcases s[i]? with _ | x
  · rfl
  · cases x <;> rfl
theorem q_cst {d : D} : evE c (.cst d) s = M.ret d := nr rfl
theorem q_glo {g : Nat} {d : D} (h : c.G g = some d) : evE c (.glo g) s = M.ret d := by
  show M.ofO (c.G g) = _
  rw [h]; rfl
theorem q_tup {es : MEs} : evE c (.tup es) s = (evEs c es s).bd fun ds => if ds.length ≤ lineMax then M.ret (.tup ds) else M.no := nr rfl
theorem q_lst {es : MEs} : evE c (.lst es) s = (evEs c es s).bd fun ds => if ds.length ≤ lineMax then M.ret (.lst ds) else M.no := nr rfl
theorem q_op {o : Op} {a b : ME} : evE c (.op o a b) s = (evE c a s).bd fun x => (evE c b s).bd fun y => M.ofO (evOp o x y) := nr rfl
theorem q_chain {o1 o2 : Op} {a b e : ME} : evE c (.chain o1 o2 a b e) s = (evE c a s).bd fun x => (evE c b s).bd fun y => (M.ofO (evOp o1 x y)).asB.bd fun k => if k then (evE c e s).bd fun z => M.ofO (evOp o2 y z) else M.ret (.bl false) := nr rfl
theorem q_neg {a : ME} : evE c (.neg a) s = (evE c a s).bd fun x => (M.ofO (asI x)).bd fun i => M.ret (.int (-i)) := nr rfl
theorem q_not {a : ME} : evE c (.notE a) s = (evE c a s).bd fun x => (M.ofO (truth x)).bd fun b => M.ret (.bl (!b)) := nr rfl
theorem q_if {t a b : ME} : evE c (.ite t a b) s = (evT c t s).bd fun k => if k then evE c a s else evE c b s := nr rfl
theorem q_isN {n : Bool} {a : ME} : evE c (.isN n a) s = (evE c a s).bd fun x => M.ret (.bl (xor n (isNon x))) := nr rfl
theorem q_ix {a i : ME} : evE c (.ix a i) s = (evE c a s).bd fun x => (evE c i s).bd fun y => ixM x y := nr rfl
theorem q_sl {a : ME} {lo hi : MO} : evE c (.sl a lo hi) s = (evE c a s).bd fun x => (evO c lo s).bd fun l => (evO c hi s).bd fun h => M.ofO (evSl c.ns x l h) := nr rfl
theorem q_rev {a : ME} : evE c (.rev a) s = (evE c a s).bd fun x => M.ofO (evRev x) := nr rfl
theorem q_call {f : Nat} {es : MEs} : evE c (.call f es) s = (evEs c es s).bd fun ds => c.cl f ds := nr rfl
theorem q_lend {f : Nat} {es : MEs} : evE c (.lend f es) s = (evEs c es s).bd fun ds => (c.cl f ds).bd fun d => if d.pure then M.ret d else M.no := nr rfl
theorem q_callK {f : Nat} {es es2 : MEs} {ks : List Nat} : evE c (.callK f es es2 ks) s = (evEs c es s).bd fun ds => (evEs c es2 s).bd fun d2 => c.cl f (permD ks (ds ++ d2)) := nr rfl
theorem q_bi {b : Bi} {a : ME} : evE c (.bi b a) s = (evE c a s).bd fun x => M.ofO (evBi b x) := nr rfl
theorem q_isi {a : ME} {o : Bool} {ts : List Ty} : evE c (.isi a o ts) s = (evE c a s).bd fun x => (M.ofO (anyTy x ts)).bd fun k => M.ret (.bl k) := nr rfl
theorem q_and {es : MEs} : evE c (.andE es) s = evAnd c es s := nr rfl
theorem q_or {es : MEs} : evE c (.orE es) s = evOr c es s := nr rfl
theorem q_and1 {k : Bool} {e : ME} : evAnd c (.cons k e .nil) s = evE c e s := nr rfl
theorem q_and2 {k k2 : Bool} {e e2 : ME} {r : MEs} : evAnd c (.cons k e (.cons k2 e2 r)) s = (evE c e s).bd fun x => (M.ofO (truth x)).bd fun b => if b then evAnd c (.cons k2 e2 r) s else M.ret x := nr rfl
theorem q_or1 {k : Bool} {e : ME} : evOr c (.cons k e .nil) s = evE c e s := nr rfl
theorem q_or2 {k k2 : Bool} {e e2 : ME} {r : MEs} : evOr c (.cons k e (.cons k2 e2 r)) s = (evE c e s).bd fun x => (M.ofO (truth x)).bd fun b => if b then M.ret x else evOr c (.cons k2 e2 r) s := nr rfl
theorem q_idx {tp : Bool} {a x : ME} : evE c (.idx tp a x) s = (evE c a s).bd fun u => (M.ofO (idxRecv tp u)).bd fun xs => (evE c x s).bd fun v => M.ofO (idxAt xs v) := nr rfl
theorem q_mk {k : Nat} {es : MEs} : evE c (.mk k es) s = (evEs c es s).bd fun ds => M.ofO (mkExc k ds) := nr rfl
theorem q_attr {f : Str} {a : ME} : evE c (.attr f a) s = (evE c a s).bd fun x => M.ofO (evAttr f x) := nr rfl
/-- one turn of a comprehension -/
def cT (c : Cfg) (e : ME) (t : MT) (ifs : MEs) (s : Env) (d : D) : M (Option D) := match bindT t d s with
  | some s1 => (evTs c ifs s1).bd fun k => if k then (evE c e s1).bd fun x => M.ret (some x) else M.ret none
  | none => M.no
theorem q_cT {e : ME} {t : MT} {ifs : MEs} {d : D} : cT c e t ifs s d = optK (fun s1 => (evTs c ifs s1).bd fun k => if k then (evE c e s1).bd fun x => M.ret (some x) else M.ret none) (bindT t d s) := by
  unfold cT
  cases bindT t d s <;> rfl
/-- what a comprehension gives -/
def lstM (m : M (List D)) : M D := m.nex.bd fun r => if r.length ≤ lineMax then M.ret (.lst r) else M.no
theorem q_comp {e : ME} {t : MT} {r : MSrc} {ifs : MEs} {own : List Nat} : evE c (.comp e t r ifs own) s = (evSrc c r s).bd fun ds => if s.noOw own then lstM (compGo (cT c e t ifs (s.kill own)) ds) else M.no := nr rfl
def cT2 (c : Cfg) (e : ME) (t : MT) (t2 : MT) (r2 : MSrc) (ifs : MEs) (s : Env) (d : D) : M (List D) := match bindT t d s with
  | some s1 => (evSrc c r2 s1).bd fun es => compGo (cT c e t2 ifs (s1.kill (tSlots t2))) es
  | none => M.no
theorem q_cT2 {e : ME} {t t2 : MT} {r2 : MSrc} {ifs : MEs} {d : D} : cT2 c e t t2 r2 ifs s d = optK (fun s1 => (evSrc c r2 s1).bd fun es => compGo (cT c e t2 ifs (s1.kill (tSlots t2))) es) (bindT t d s) := by
  unfold cT2
  cases bindT t d s <;> rfl
theorem q_comp2 {e : ME} {t t2 : MT} {r r2 : MSrc} {ifs : MEs} {own : List Nat} : evE c (.comp2 e t r t2 r2 ifs own) s = (evSrc c r s).bd fun ds => if s.noOw own then lstM (compGo2 (cT2 c e t t2 r2 ifs (s.kill own)) ds) else M.no := nr rfl
theorem q_lstR {xs : List D} (h : xs.length ≤ lineMax) : lstM (M.ret xs) = M.ret (.lst xs) := by
  show (if xs.length ≤ lineMax then M.ret (D.lst xs) else M.no) = _
  rw [if_pos h]
theorem t_not {a : ME} : evT c (.notE a) s = (evT c a s).bd fun b => M.ret (!b) := nr rfl
theorem t_and {es : MEs} : evT c (.andE es) s = evTAnd c es s := nr rfl
theorem t_or {es : MEs} : evT c (.orE es) s = evTOr c es s := nr rfl
theorem t_and0 : evTAnd c .nil s = M.ret true := nr rfl
theorem t_and1 {k : Bool} {e : ME} {r : MEs} : evTAnd c (.cons k e r) s = (evT c e s).bd fun b => if b then evTAnd c r s else M.ret false := nr rfl
theorem t_or0 : evTOr c .nil s = M.ret false := nr rfl
theorem t_or1 {k : Bool} {e : ME} {r : MEs} : evTOr c (.cons k e r) s = (evT c e s).bd fun b => if b then M.ret true else evTOr c r s := nr rfl
abbrev vT (m : M D) : M Bool := m.bd fun x => M.ofO (truth x)
theorem t_var {i : Nat} : evT c (.var i) s = (evE c (.var i) s).bd fun x => M.ofO (truth x) := nr rfl
theorem t_bor {i : Nat} : evT c (.bor i) s = (evE c (.bor i) s).bd fun x => M.ofO (truth x) := nr rfl
theorem t_cst {d : D} : evT c (.cst d) s = M.ofO (truth d) := nr rfl
theorem t_op {o : Op} {a b : ME} : evT c (.op o a b) s = (evE c (.op o a b) s).bd fun x => M.ofO (truth x) := nr rfl
theorem t_chain {o1 o2 : Op} {a b e : ME} : evT c (.chain o1 o2 a b e) s = (evE c (.chain o1 o2 a b e) s).bd fun x => M.ofO (truth x) := nr rfl
theorem t_isN {n : Bool} {a : ME} : evT c (.isN n a) s = (evE c (.isN n a) s).bd fun x => M.ofO (truth x) := nr rfl
theorem t_ix {a i : ME} : evT c (.ix a i) s = (evE c (.ix a i) s).bd fun x => M.ofO (truth x) := nr rfl
theorem t_call {f : Nat} {es : MEs} : evT c (.call f es) s = (evE c (.call f es) s).bd fun x => M.ofO (truth x) := nr rfl
theorem t_lend {f : Nat} {es : MEs} : evT c (.lend f es) s = (evE c (.lend f es) s).bd fun x => M.ofO (truth x) := nr rfl
theorem t_bi {b : Bi} {a : ME} : evT c (.bi b a) s = (evE c (.bi b a) s).bd fun x => M.ofO (truth x) := nr rfl
theorem t_isi {a : ME} {o : Bool} {ts : List Ty} : evT c (.isi a o ts) s = (evE c (.isi a o ts) s).bd fun x => M.ofO (truth x) := nr rfl
theorem t_b (b : Bool) : (if b = true then M.ret true else M.ret false) = M.ret b := by cases b <;> rfl
theorem t_nb (b : Bool) : (if b = true then M.ret false else M.ret true) = M.ret (!b) := by cases b <;> rfl
theorem q_es0 : evEs c .nil s = M.ret [] := nr rfl
theorem q_es1 {e : ME} {r : MEs} : evEs c (.cons false e r) s = (evE c e s).bd fun x => (evEs c r s).bd fun xs => M.ret (x :: xs) := nr rfl
theorem q_es2 {e : ME} {r : MEs} : evEs c (.cons true e r) s = (evE c e s).bd fun x => (M.ofO (itemsOf x)).bd fun ys => (evEs c r s).bd fun xs => M.ret (ys ++ xs) := nr rfl
theorem q_o0 : evO c .none s = M.ret none := nr rfl
theorem q_o1 {e : ME} : evO c (.some e) s = (evE c e s).bd fun x => (M.ofO (asI x)).bd fun i => M.ret (some i) := nr rfl
theorem q_ts0 : evTs c .nil s = M.ret true := nr rfl
theorem q_ts1 {k : Bool} {e : ME} {r : MEs} : evTs c (.cons k e r) s = (evT c e s).bd fun b => if b then evTs c r s else M.ret false := nr rfl
theorem q_it {e : ME} : evSrc c (.it e) s = (evE c e s).bd fun x => M.ofO (walkOf x) := nr rfl
theorem q_rng {a : ME} : evSrc c (.range a) s = (evE c a s).bd fun x => (M.ofO (asI x)).bd fun i => M.ofO (evRange 0 i) := nr rfl
theorem q_rng2 {a b : ME} : evSrc c (.range2 a b) s = (evE c a s).bd fun x => (evE c b s).bd fun y => (M.ofO (asI x)).bd fun i => (M.ofO (asI y)).bd fun j => M.ofO (evRange i j) := nr rfl
theorem q_enum {a : ME} : evSrc c (.enum a) s = (evE c a s).bd fun x => (M.ofO (itemsOf x)).bd fun ds => M.ret (enumD 0 ds) := nr rfl
theorem q_zip {a b : ME} : evSrc c (.zip a b) s = (evE c a s).bd fun x => (evE c b s).bd fun y => M.ofO (zipOf x y) := nr rfl
section
variable {r : MSs}
theorem s_nil : exSs c .nil s = M.ret (.nx, s) := nr rfl
theorem s_asg {i : Nat} {e : ME} (h : i < s.length) : exSs c (.cons (.asg false (.slot i) e) r) s = (evE c e s).bd fun x => exSs c r (s.set i (.vl x)) := sq_asg h
theorem s_asgO {i : Nat} {e : ME} (h : i < s.length) : exSs c (.cons (.asg true (.slot i) e) r) s = (evE c e s).bd fun x => exSs c r (s.set i (slOf true x)) := sq_asgO h
theorem s_ret {e : ME} : exSs c (.cons (.ret e) r) s = (evE c e s).bd fun x => M.ret (.rt x, s) := sq_ret
theorem s_guard {t e : ME} {q : MSs} : exSs c (.cons (.ite t (.cons (.ret e) q) .nil) r) s = (evT c t s).bd fun k => if k then (evE c e s).bd fun x => M.ret (.rt x, s) else exSs c r s := sq_guard
/-- raise under a test -/
theorem s_gRaise {t : ME} {j : Nat} {es : MEs} {q : MSs} : exSs c (.cons (.ite t (.cons (.raise j es) q) .nil) r) s = (evT c t s).bd fun k => if k then (evEs c es s).bd fun ds => (match mkExc j ds with | some _ => if ds.all D.flat then M.raise j ds else M.no | none => M.no) else exSs c r s := by
  rw [exSs, exS, bd_assoc]
  congr 1
  funext k
  cases k
  · rfl
  · simp only [if_true]
    rw [exSs, exS]
    simp only [bd_assoc]
    congr 1
    funext ds
    cases mkExc j ds with
    | none => rfl
    | some x =>
      by_cases h : ds.all D.flat = true
      · rw [if_pos h]; rfl
      · rw [if_neg h]; rfl
theorem s_raise {j : Nat} {es : MEs} : exSs c (.cons (.raise j es) r) s = (evEs c es s).bd fun ds => (match mkExc j ds with | some _ => if ds.all D.flat then M.raise j ds else M.no | none => M.no) := by
  rw [exSs, exS]
  simp only [bd_assoc]
  congr 1
  funext ds
  cases mkExc j ds with
  | none => rfl
  | some x =>
    by_cases h : ds.all D.flat = true
    · rw [if_pos h]; rfl
    · rw [if_neg h]; rfl
theorem s_iteA {t : ME} {a b : MSs} : exSs c (.cons (.ite t a b) r) s = (evT c t s).bd fun k => (if k then exSs c a s else exSs c b s).bd (aft (exSs c r)) := sq_ite
theorem s_for {t : MT} {q : MSrc} {dead : List Nat} {b : MSs} : exSs c (.cons (.for_ t q dead b) r) s = (evSrc c q s).bd fun ds => (forGo t dead (exSs c b) ds s).bd (aft (exSs c r)) := sq_for
theorem s_app {i : Nat} {e : ME} : exSs c (.cons (.app i e) r) s = ownK (fun xs => (evE c e s).bd fun v => if xs.length < lineMax then exSs c r (s.set i (.ow (.lst (xs ++ [v])))) else M.no) s[i]? := by
  cases h : s[i]? with
  | none => rw [exSs, exS, h]; rfl
  | some x =>
    cases x with
    | ow d => cases d <;> first | exact sq_app h | (rw [exSs, exS, h]; rfl)
    | _ => rw [exSs, exS, h]; rfl
/-- a list's items -/
def lstK {β : Type} (k : List D → M β) : D → M β
  | .lst ys => k ys
  | _ => M.no
theorem lstK_l {β : Type} (k : List D → M β) (ys : List D) : lstK k (.lst ys) = k ys := nr rfl
theorem s_ext {i : Nat} {e : ME} : exSs c (.cons (.ext i e) r) s = ownK (fun xs => (evE c e s).bd (lstK fun ys => if xs.length + ys.length ≤ lineMax then exSs c r (s.set i (.ow (.lst (xs ++ ys)))) else M.no)) s[i]? := by
  cases h : s[i]? with
  | none => rw [exSs, exS, h]; rfl
  | some x =>
    cases x with
    | ow d =>
      cases d <;> first | (rw [exSs, exS, h]; rfl) | skip
      rename_i xs
      rw [exSs, exS, h]
      simp only [bd_assoc, ownK]
      congr 1
      funext v
      cases v <;> first | rfl | skip
      rename_i ys
      show M.bd (if xs.length + ys.length ≤ lineMax then M.ret (Flow.nx, s.set i (.ow (.lst (xs ++ ys)))) else M.no) _ = (if xs.length + ys.length ≤ lineMax then exSs c r (s.set i (.ow (.lst (xs ++ ys)))) else M.no)
      split <;> rfl
    | _ => rw [exSs, exS, h]; rfl
/-- a slot shared -/
def shK {β : Type} (s : Env) (i : Nat) (k : Env → M β) : Option Sl → M β
  | some (.ow d) => k (s.set i (.vl d))
  | some (.vl _) => k s
  | _ => M.no
theorem shK_o {β : Type} (s : Env) (i : Nat) (k : Env → M β) (d : D) : shK s i k (some (.ow d)) = k (s.set i (.vl d)) := nr rfl
theorem shK_v {β : Type} (s : Env) (i : Nat) (k : Env → M β) (d : D) : shK s i k (some (.vl d)) = k s := nr rfl
theorem s_share {i : Nat} : exSs c (.cons (.share i) r) s = shK s i (exSs c r) s[i]? := by
  cases h : s[i]? with
  | none => rw [exSs, exS, h]; rfl
  | some x => cases x <;> (rw [exSs, exS, h]; rfl)
theorem s_par {i j : Nat} {oi oj : Bool} {x y : ME} (hi : i < s.length) (hj : j < s.length) : exSs c (.cons (.par i j oi oj x y) r) s = (evE c x s).bd fun x => (evE c y s).bd fun y => exSs c r ((s.set i (slOf oi x)).set j (slOf oj y)) := sq_par hi hj
theorem s_asgT {ts : MTs} {e : ME} : exSs c (.cons (.asg false (.tup ts) e) r) s = (evE c e s).bd fun x => (M.ofO (bindT (.tup ts) x s)).bd fun s' => exSs c r s' := by
  rw [exSs, exS]
  simp only [bd_assoc]
  rfl
theorem s_expr {e : ME} : exSs c (.cons (.expr e) r) s = (evE c e s).bd fun _ => exSs c r s := by
  rw [exSs, exS]
  simp only [bd_assoc]
  rfl
theorem s_pass : exSs c (.cons .pass r) s = exSs c r s := nr rfl
theorem s_pop1 {t i : Nat} {x : D} {xs : List D} (h : s[i]? = some (.ow (.lst (x :: xs)))) (ht : (Nat.ble (t + 1) s.length && !Nat.beq t i) = true) : exSs c (.cons (.pop t i true) r) s = exSs c r ((s.set i (.ow (.lst xs))).set t (.vl x)) := by
  rw [Bool.and_eq_true] at ht
  have h1 : t < s.length ∧ t ≠ i := ⟨Nat.le_of_ble_eq_true ht.1, fun e => by
    have := ht.2
    subst e
    simp at this⟩
  rw [exSs, exS, h]
  show M.bd (if t < s.length ∧ t ≠ i then _ else _) _ = _
  rw [if_pos h1]
  rfl
end
theorem a_nx (K : Env → M (Flow × Env)) (s : Env) : aft K (.nx, s) = K s := nr rfl
theorem a_rt (K : Env → M (Flow × Env)) (d : D) (s : Env) : aft K (.rt d, s) = M.ret (.rt d, s) := nr rfl
theorem r_rt (v : D) (s : Env) : rtM (.rt v, s) = M.ret v := nr rfl
theorem r_nx (s : Env) : rtM (.nx, s) = M.ret .non := nr rfl
theorem f_nil (t : MT) (dead : List Nat) (body : Env → M (Flow × Env)) (s : Env) : forGo t dead body [] s = M.ret (.nx, s) := nr rfl
end
section
variable {α : Type}
def cg (F : α → M (Option D)) : List α → M (List D)
  | [] => M.ret []
  | d :: ds => (F d).bd fun o => (cg F ds).bd fun r => M.ret (match o with | some x => x :: r | none => r)
theorem cg_of (F : D → M (Option D)) (f : α → D) : ∀ xs : List α, compGo F (xs.map f) = cg (fun x => F (f x)) xs
  | [] => rfl
  | x :: xs => by
    show ((F (f x)).bd fun o => (compGo F (xs.map f)).bd fun r => M.ret (match o with | some x => x :: r | none => r)) = _
    rw [cg_of F f xs]
    rfl
theorem cg_congr {F G : α → M (Option D)} : ∀ {xs : List α}, (∀ x ∈ xs, F x = G x) → cg F xs = cg G xs
  | [], _ => rfl
  | x :: xs, h => by rw [cg, cg, h x (List.mem_cons_self ..), cg_congr fun y hy => h y (List.mem_cons_of_mem _ hy)]
theorem cg_map (g : α → D) : ∀ xs : List α, cg (fun x => M.ret (some (g x))) xs = M.ret (xs.map g)
  | [] => rfl
  | x :: xs => by rw [cg, q_ret, cg_map g xs, q_ret]; rfl
theorem cg_flt (p : α → Bool) (g : α → D) : ∀ xs : List α, cg (fun x => if p x = true then M.ret (some (g x)) else M.ret none) xs = M.ret ((xs.filter p).map g)
  | [] => rfl
  | x :: xs => by
    rw [cg, cg_flt p g xs, List.filter_cons]
    cases p x <;> rfl
theorem cg_fltN (p : α → Bool) (g : α → D) : ∀ xs : List α, cg (fun x => if p x = true then M.ret none else M.ret (some (g x))) xs = M.ret ((xs.filter fun x => !p x).map g)
  | [] => rfl
  | x :: xs => by
    rw [cg, cg_fltN p g xs, List.filter_cons]
    cases p x <;> rfl
theorem cg_nil (F : α → M (Option D)) : cg F [] = M.ret [] := nr rfl
theorem cg_cons (F : α → M (Option D)) (x : α) (xs : List α) : cg F (x :: xs) = (F x).bd fun o => (cg F xs).bd fun r => M.ret (match o with | some x => x :: r | none => r) := nr rfl
def cg2 (F : α → M (List D)) : List α → M (List D)
  | [] => M.ret []
  | d :: ds => (F d).bd fun x => (cg2 F ds).bd fun r => M.ret (x ++ r)
theorem cg2_of (F : D → M (List D)) (f : α → D) : ∀ xs : List α, compGo2 F (xs.map f) = cg2 (fun x => F (f x)) xs
  | [] => rfl
  | x :: xs => by
    show ((F (f x)).bd fun o => (compGo2 F (xs.map f)).bd fun r => M.ret (o ++ r)) = _
    rw [cg2_of F f xs]
    rfl
theorem cg2_map (g : α → List D) : ∀ xs : List α, cg2 (fun x => M.ret (g x)) xs = M.ret (xs.flatMap g)
  | [] => rfl
  | x :: xs => by rw [cg2, q_ret, cg2_map g xs, q_ret, List.flatMap_cons]
theorem cg2_congr {F G : α → M (List D)} : ∀ {xs : List α}, (∀ x ∈ xs, F x = G x) → cg2 F xs = cg2 G xs
  | [], _ => rfl
  | x :: xs, h => by rw [cg2, cg2, h x (List.mem_cons_self ..), cg2_congr fun y hy => h y (List.mem_cons_of_mem _ hy)]
theorem q_allP (p : α → Bool) (xs : List α) : evBi .all (.lst (xs.map fun x => .bl (p x))) = some (.bl (xs.all p)) := by
  show (bools (xs.map fun x => D.bl (p x))).map (fun bs => D.bl (bs.all id)) = _
  rw [bools_map]
  show some (D.bl ((xs.map p).all id)) = _
  rw [List.all_map]
  rfl
theorem q_anyP (p : α → Bool) (xs : List α) : evBi .any (.lst (xs.map fun x => .bl (p x))) = some (.bl (xs.any p)) := by
  show (bools (xs.map fun x => D.bl (p x))).map (fun bs => D.bl (bs.any id)) = _
  rw [bools_map]
  show some (D.bl ((xs.map p).any id)) = _
  rw [List.any_map]
  rfl
theorem flt_le {n : Nat} (p : α → Bool) (xs : List α) (h : xs.length ≤ n) : (xs.filter p).length ≤ n := Nat.le_trans (List.length_filter_le _ _) h
end
section
variable {α σ : Type}
/-- a loop whose turns end well: the state a, its slots E a -/
theorem forGo_fold {t : MT} {dead : List Nat} {body : Env → M (Flow × Env)} {f : α → D} (E : σ → Env) (step : σ → α → σ) (I : List α → σ → Prop)
    (h : ∀ x r a, I (x :: r) a → ∃ s1 s2, bindT t (f x) (E a) = some s1 ∧ body s1 = M.ret (.nx, s2) ∧ s2.kill dead = E (step a x) ∧ I r (step a x)) :
    ∀ (xs : List α) (a : σ), I xs a → forGo t dead body (xs.map f) (E a) = M.ret (.nx, E (xs.foldl step a)) ∧ I [] (xs.foldl step a)
  | [], a, hi => ⟨rfl, hi⟩
  | x :: xs, a, hi => by
    obtain ⟨s1, s2, h1, h2, h3, h4⟩ := h x xs a hi
    rw [List.map_cons, forGo_cons, h1, ofO_some, bd_ret, h2, bd_ret, List.foldl_cons]
    show forGo t dead body (xs.map f) (s2.kill dead) = _ ∧ _
    rw [h3]
    exact forGo_fold E step I h xs _ h4
/-- steps until one ends all -/
def runS {τ : Type} (step : σ → α → τ ⊕ σ) : List α → σ → τ ⊕ σ
  | [], a => .inr a
  | x :: xs, a => match step a x with
    | .inl d => .inl d
    | .inr a' => runS step xs a'
/-- a loop whose turns may end the def: what follows is K -/
theorem forGo_find {β : Type} {t : MT} {dead : List Nat} {body : Env → M (Flow × Env)} {f : α → D} {K : Flow × Env → M β} (E : σ → Env) (step : σ → α → D ⊕ σ) (I : List α → σ → Prop) (V : D → M β) (hV : ∀ d s, K (.rt d, s) = V d)
    (h : ∀ x r a, I (x :: r) a → ∃ s1 s2, bindT t (f x) (E a) = some s1 ∧ ((∃ d, step a x = .inl d ∧ body s1 = M.ret (.rt d, s2)) ∨ (∃ a', step a x = .inr a' ∧ body s1 = M.ret (.nx, s2) ∧ s2.kill dead = E a' ∧ I r a'))) :
    ∀ (xs : List α) (a : σ), I xs a → (forGo t dead body (xs.map f) (E a)).bd K = (match runS step xs a with
      | .inl d => V d
      | .inr a' => K (.nx, E a'))
  | [], a, hi => rfl
  | x :: xs, a, hi => by
    obtain ⟨s1, s2, h1, h2⟩ := h x xs a hi
    rw [List.map_cons, forGo_cons, h1, ofO_some, bd_ret, runS]
    rcases h2 with ⟨d, e, h2⟩ | ⟨a', e, h2, h3, h4⟩
    · rw [h2, bd_ret, e]
      show (M.ret (Flow.rt d, s2)).bd K = _
      rw [bd_ret, hV]
    · rw [h2, bd_ret, e]
      show (forGo t dead body (xs.map f) (s2.kill dead)).bd K = _
      rw [h3]
      exact forGo_find E step I V hV h xs a' h4
end
theorem b_slot {i : Nat} {d : D} {s : Env} (h : i < s.length) : bindT (.slot i) d s = some (s.set i (.vl d)) := by
  show (if i < s.length then some (s.set i (.vl d)) else none) = _
  rw [if_pos h]
theorem b_tup {ts : MTs} {ds : List D} {s : Env} : bindT (.tup ts) (.tup ds) s = bindTs ts ds s := nr rfl
theorem b_lst {ts : MTs} {ds : List D} {s : Env} : bindT (.tup ts) (.lst ds) s = bindTs ts ds s := nr rfl
theorem b_nil {s : Env} : bindTs .nil [] s = some s := nr rfl
theorem b_cons {t : MT} {ts : MTs} {d : D} {ds : List D} {s : Env} : bindTs (.cons t ts) (d :: ds) s = (bindT t d s).bind fun s1 => bindTs ts ds s1 := by
  show (match bindT t d s with | some s' => bindTs ts ds s' | none => none) = _
  cases bindT t d s <;> rfl
theorem ln0 : (0 ≤ lineMax) = True := eq_true (by unfold lineMax; omega)
theorem ln1 : (1 ≤ lineMax) = True := eq_true (by unfold lineMax; omega)
theorem ln2 : (2 ≤ lineMax) = True := eq_true (by unfold lineMax; omega)
theorem ln3 : (3 ≤ lineMax) = True := eq_true (by unfold lineMax; omega)
theorem ln4 : (4 ≤ lineMax) = True := eq_true (by unfold lineMax; omega)
theorem ln5 : (5 ≤ lineMax) = True := eq_true (by unfold lineMax; omega)
theorem ln6 : (6 ≤ lineMax) = True := eq_true (by unfold lineMax; omega)
theorem ln7 : (7 ≤ lineMax) = True := eq_true (by unfold lineMax; omega)
theorem ln8 : (8 ≤ lineMax) = True := eq_true (by unfold lineMax; omega)
theorem ln9 : (9 ≤ lineMax) = True := eq_true (by unfold lineMax; omega)
theorem ln10 : (10 ≤ lineMax) = True := eq_true (by unfold lineMax; omega)
theorem ln11 : (11 ≤ lineMax) = True := eq_true (by unfold lineMax; omega)
theorem ln12 : (12 ≤ lineMax) = True := eq_true (by unfold lineMax; omega)
theorem ln13 : (13 ≤ lineMax) = True := eq_true (by unfold lineMax; omega)
theorem ln14 : (14 ≤ lineMax) = True := eq_true (by unfold lineMax; omega)
theorem ln15 : (15 ≤ lineMax) = True := eq_true (by unfold lineMax; omega)
theorem ln16 : (16 ≤ lineMax) = True := eq_true (by unfold lineMax; omega)
theorem ln_of {n : Nat} (h : n ≤ 10000000) : (n ≤ lineMax) = True := eq_true (by unfold lineMax; omega)
/-- a tuple (b) or a list -/
def sq (b : Bool) (xs : List D) : D := match b with
  | true => .tup xs
  | false => .lst xs
theorem sqT (xs : List D) : sq true xs = .tup xs := nr rfl
theorem sqF (xs : List D) : sq false xs = .lst xs := nr rfl
theorem b_sq {b : Bool} {ts : MTs} {ds : List D} {s : Env} : bindT (.tup ts) (sq b ds) s = bindTs ts ds s := by cases b <;> rfl
theorem sq_walk (b : Bool) (xs : List D) : walkOf (sq b xs) = some xs := by cases b <;> rfl
theorem sq_items (b : Bool) (xs : List D) : itemsOf (sq b xs) = some xs := by cases b <;> rfl
theorem sq_len (b : Bool) (xs : List D) : evBi .len (sq b xs) = some (.int xs.length) := by cases b <;> rfl
theorem sq_ix (b : Bool) (xs : List D) (i : Int) : ixM (sq b xs) (.int i) = M.ofO (L2.atI xs i) := by cases b <;> rfl
theorem sq_list (b : Bool) (xs : List D) : evBi .list (sq b xs) = some (.lst xs) := by cases b <;> rfl
theorem sq_tuple (b : Bool) (xs : List D) : evBi .tuple (sq b xs) = some (.tup xs) := by cases b <;> rfl
theorem sq_any (b : Bool) (xs : List D) : anyTy (sq b xs) [.list, .tuple] = some true := by cases b <;> rfl
theorem y_str_lt (a : Str) : anyTy (.str a) [.list, .tuple] = some false := nr rfl
theorem y_str_bs (a : Str) : anyTy (.str a) [.bool, .str] = some true := nr rfl
theorem y_str_i (a : Str) : anyTy (.str a) [.int] = some false := nr rfl
theorem y_str_b (a : Str) : anyTy (.str a) [.bool] = some false := nr rfl
theorem y_str_l (a : Str) : anyTy (.str a) [.list] = some false := nr rfl
theorem y_str_t (a : Str) : anyTy (.str a) [.tuple] = some false := nr rfl
theorem y_str_s (a : Str) : anyTy (.str a) [.str] = some true := nr rfl
theorem y_int_lt (a : Int) : anyTy (.int a) [.list, .tuple] = some false := nr rfl
theorem y_int_bs (a : Int) : anyTy (.int a) [.bool, .str] = some false := nr rfl
theorem y_int_i (a : Int) : anyTy (.int a) [.int] = some true := nr rfl
theorem y_int_b (a : Int) : anyTy (.int a) [.bool] = some false := nr rfl
theorem y_int_l (a : Int) : anyTy (.int a) [.list] = some false := nr rfl
theorem y_int_t (a : Int) : anyTy (.int a) [.tuple] = some false := nr rfl
theorem y_int_s (a : Int) : anyTy (.int a) [.str] = some false := nr rfl
theorem y_bl_lt (a : Bool) : anyTy (.bl a) [.list, .tuple] = some false := nr rfl
theorem y_bl_bs (a : Bool) : anyTy (.bl a) [.bool, .str] = some true := nr rfl
theorem y_bl_i (a : Bool) : anyTy (.bl a) [.int] = some true := nr rfl
theorem y_bl_b (a : Bool) : anyTy (.bl a) [.bool] = some true := nr rfl
theorem y_bl_l (a : Bool) : anyTy (.bl a) [.list] = some false := nr rfl
theorem y_bl_t (a : Bool) : anyTy (.bl a) [.tuple] = some false := nr rfl
theorem y_bl_s (a : Bool) : anyTy (.bl a) [.str] = some false := nr rfl
theorem y_non_lt : anyTy .non [.list, .tuple] = some false := nr rfl
theorem y_non_bs : anyTy .non [.bool, .str] = some false := nr rfl
theorem y_non_i : anyTy .non [.int] = some false := nr rfl
theorem y_non_b : anyTy .non [.bool] = some false := nr rfl
theorem y_non_l : anyTy .non [.list] = some false := nr rfl
theorem y_non_t : anyTy .non [.tuple] = some false := nr rfl
theorem y_non_s : anyTy .non [.str] = some false := nr rfl
theorem y_lst_lt (a : List D) : anyTy (.lst a) [.list, .tuple] = some true := nr rfl
theorem y_lst_bs (a : List D) : anyTy (.lst a) [.bool, .str] = some false := nr rfl
theorem y_lst_i (a : List D) : anyTy (.lst a) [.int] = some false := nr rfl
theorem y_lst_b (a : List D) : anyTy (.lst a) [.bool] = some false := nr rfl
theorem y_lst_l (a : List D) : anyTy (.lst a) [.list] = some true := nr rfl
theorem y_lst_t (a : List D) : anyTy (.lst a) [.tuple] = some false := nr rfl
theorem y_lst_s (a : List D) : anyTy (.lst a) [.str] = some false := nr rfl
theorem y_tup_lt (a : List D) : anyTy (.tup a) [.list, .tuple] = some true := nr rfl
theorem y_tup_bs (a : List D) : anyTy (.tup a) [.bool, .str] = some false := nr rfl
theorem y_tup_i (a : List D) : anyTy (.tup a) [.int] = some false := nr rfl
theorem y_tup_b (a : List D) : anyTy (.tup a) [.bool] = some false := nr rfl
theorem y_tup_l (a : List D) : anyTy (.tup a) [.list] = some false := nr rfl
theorem y_tup_t (a : List D) : anyTy (.tup a) [.tuple] = some true := nr rfl
theorem y_tup_s (a : List D) : anyTy (.tup a) [.str] = some false := nr rfl
theorem sq_isL (b : Bool) (xs : List D) : anyTy (sq b xs) [.list] = some (!b) := by cases b <;> rfl
theorem sq_isT (b : Bool) (xs : List D) : anyTy (sq b xs) [.tuple] = some b := by cases b <;> rfl
end Mi
namespace Mi
open PySem
structure Kd where
  nm : Str
  cols : List Str
  ties : List (Str × Str)
  deriving DecidableEq
def eTie (b : Bool) (t : Str × Str) : D := sq b [.str t.1, .str t.2]
def eK (b : Bool) (k : Kd) : D := sq b [.str k.nm, sq b (k.cols.map .str), sq b (k.ties.map (eTie b))]
/-- a row: its key, the rest -/
abbrev Row := Int × List Int
abbrev Zt := Kd × List Row
def eS (b : Bool) (Z : List Zt) : D := sq b (Z.map fun z => eK b z.1)
def rl (r : Row) : List Int := r.1 :: r.2
def eR (b : Bool) (r : Row) : D := sq b ((rl r).map .int)
def eRs (b : Bool) (rs : List Row) : D := sq b (rs.map (eR b))
def eT (b : Bool) (Z : List Zt) : D := sq b (Z.map fun z => eRs b z.2)
abbrev Ce := Str × Int × Str
def eC (b : Bool) (c : Ce) : D := sq b [.str c.1, .int c.2.1, .str c.2.2]
structure KOk (k : Kd) : Prop where
  c1 : 0 < k.cols.length
  c2 : k.cols.length ≤ 10
  t : k.ties.length ≤ 10
  nd : k.cols.Nodup
structure ROk (k : Kd) (rs : List Row) : Prop where
  len : rs.length ≤ 1000
  wid : ∀ r ∈ rs, r.2.length + 1 = k.cols.length
  asc : rs.Pairwise fun a b => a.1 < b.1
structure ZOk (Z : List Zt) : Prop where
  n : Z.length ≤ 10
  nd : (Z.map fun z => z.1.nm).Nodup
  k : ∀ z ∈ Z, KOk z.1
  r : ∀ z ∈ Z, ROk z.1 z.2
def plc (a : Str) (xs : List Str) : Nat := (idxF a xs).getD 0
theorem idxF_mem {a : Str} : ∀ {xs : List Str}, a ∈ xs → ∃ n, idxF a xs = some n ∧ n < xs.length ∧ xs[n]? = some a
  | [], h => nomatch h
  | x :: xs, h => by
    rw [idxF]
    by_cases e : x = a
    · rw [if_pos e]
      exact ⟨0, rfl, Nat.zero_lt_succ _, by rw [e]; rfl⟩
    · rw [if_neg e]
      obtain ⟨n, h1, h2, h3⟩ := idxF_mem (xs := xs) ((List.mem_cons.mp h).resolve_left fun z => e z.symm)
      exact ⟨n + 1, by rw [h1]; rfl, Nat.succ_lt_succ h2, h3⟩
theorem plc_some {a : Str} {xs : List Str} (h : a ∈ xs) : idxF a xs = some (plc a xs) := by
  obtain ⟨n, h1, _⟩ := idxF_mem h
  rw [plc, h1]; rfl
theorem plc_lt {a : Str} {xs : List Str} (h : a ∈ xs) : plc a xs < xs.length := by
  obtain ⟨n, h1, h2, _⟩ := idxF_mem h
  rw [plc, h1]; exact h2
theorem plc_get {a : Str} {xs : List Str} (h : a ∈ xs) : xs[plc a xs]? = some a := by
  obtain ⟨n, h1, _, h3⟩ := idxF_mem h
  rw [plc, h1]; exact h3
theorem nodup_get {α : Type} : ∀ {xs : List α}, xs.Nodup → ∀ {i j : Nat} {a : α}, xs[i]? = some a → xs[j]? = some a → i = j
  | [], _, _, _, _, h, _ => by simp at h
  | x :: xs, nd, 0, 0, a, h1, h2 => rfl
  | x :: xs, nd, 0, j + 1, a, h1, h2 => by
    simp only [List.getElem?_cons_zero, List.getElem?_cons_succ, Option.some.injEq] at h1 h2
    subst h1
    exact absurd (List.mem_of_getElem? h2) (List.nodup_cons.mp nd).1
  | x :: xs, nd, i + 1, 0, a, h1, h2 => by
    simp only [List.getElem?_cons_zero, List.getElem?_cons_succ, Option.some.injEq] at h1 h2
    subst h2
    exact absurd (List.mem_of_getElem? h1) (List.nodup_cons.mp nd).1
  | x :: xs, nd, i + 1, j + 1, a, h1, h2 => by
    simp only [List.getElem?_cons_succ] at h1 h2
    rw [nodup_get (List.nodup_cons.mp nd).2 h1 h2]
/-- the kind of a name stands at its place -/
theorem plc_of {α : Type} {f : α → Str} {Z : List α} (nd : (Z.map f).Nodup) {z : α} (h : z ∈ Z) : Z[plc (f z) (Z.map f)]? = some z := by
  obtain ⟨i, hi, e⟩ := List.mem_iff_getElem.mp h
  have h1 : (Z.map f)[i]? = some (f z) := by rw [List.getElem?_map, List.getElem?_eq_getElem hi, e]; rfl
  have h2 := plc_get (List.mem_map_of_mem (f := f) h)
  rw [nodup_get nd h2 h1, List.getElem?_eq_getElem hi, e]
theorem idx_recv (b : Bool) (xs : List Str) : idxRecv b (sq b (xs.map .str)) = some xs := by
  cases b
  · exact strsD_map xs
  · exact strsD_map xs
theorem idx_recvL (xs : List Str) : idxRecv false (.lst (xs.map .str)) = some xs := strsD_map xs
theorem idx_recvT (xs : List Str) : idxRecv true (.tup (xs.map .str)) = some xs := strsD_map xs
theorem idx_at {a : Str} {xs : List Str} (h : a ∈ xs) : idxAt xs (.str a) = some (.int (plc a xs)) := by
  show (idxF a xs).map _ = _
  rw [plc_some h]; rfl
/-- the places of a text -/
def places (a : Str) : List Str → Nat → List Nat
  | [], _ => []
  | y :: r, j => if y = a then j :: places a r (j + 1) else places a r (j + 1)
theorem places_0 {a : Str} : ∀ {xs : List Str} {j : Nat}, a ∈ xs → (places a xs j)[0]? = some (j + plc a xs)
  | [], _, h => nomatch h
  | x :: xs, j, h => by
    rw [places]
    unfold plc
    rw [idxF]
    by_cases e : x = a
    · rw [if_pos e, if_pos e]; rfl
    · rw [if_neg e, if_neg e]
      have h' := (List.mem_cons.mp h).resolve_left fun z => e z.symm
      rw [places_0 h', plc_some h']
      show some (j + 1 + plc a xs) = some (j + (plc a xs + 1))
      congr 1
      omega
theorem places_len (a : Str) : ∀ (xs : List Str) (j : Nat), (places a xs j).length ≤ xs.length
  | [], _ => Nat.le_refl _
  | x :: xs, j => by
    rw [places]
    have := places_len a xs (j + 1)
    split <;> simp only [List.length_cons] <;> omega
theorem places_go {a : Str} {F : D → M (Option D)} (h : ∀ (i : Nat) (y : Str), F (.tup [.int i, .str y]) = if y = a then M.ret (some (.int i)) else M.ret none) : ∀ (xs : List Str) (j : Nat), compGo F (enumD j (xs.map .str)) = M.ret ((places a xs j).map fun (n : Nat) => D.int n)
  | [], _ => rfl
  | x :: xs, j => by
    rw [List.map_cons, enumD, compGo, h, places_go h xs (j + 1), places]
    by_cases e : x = a
    · rw [if_pos e, if_pos e]; rfl
    · rw [if_neg e, if_neg e]; rfl
theorem at_places {a : Str} {xs : List Str} (h : a ∈ xs) : L2.atI ((places a xs 0).map fun (n : Nat) => D.int n) 0 = some (.int (plc a xs)) := by
  rw [show (0 : Int) = ((0 : Nat) : Int) from rfl, atI_nat, List.getElem?_map, places_0 h, Nat.zero_add]
  rfl
theorem atI_mapN {α : Type} {xs : List α} {f : α → D} {n : Nat} {x : α} (h : xs[n]? = some x) : L2.atI (xs.map f) (n : Int) = some (f x) := by
  rw [atI_nat, List.getElem?_map, h]; rfl
theorem sort_map {α : Type} (f : α → D) (xs : List α) : sortD (xs.map f) = (xs.mergeSort fun a b => leD (f a) (f b)).map f := by
  rw [sortD, srt_eq, List.map_mergeSort (s := leD)]
  intros; rfl
theorem ev_sort {xs : List D} (h : sortOk xs = true) (hl : xs.length ≤ lineMax) : evBi .sort (.lst xs) = some (.lst (sortD xs)) := by
  show (if sortOk xs && decide (xs.length ≤ lineMax) then some (D.lst (sortD xs)) else none) = _
  rw [h, decide_eq_true hl]; rfl
theorem sortOk_of {α : Type} (f : α → D) (xs : List α) (h1 : ∀ a ∈ xs, D.py (f a) = true) (h2 : ∀ a ∈ xs, D.dep (f a) ≤ 60) (h3 : ∀ a ∈ xs, ∀ b ∈ xs, PySem.W.alike (toPy (f a)) (toPy (f b)) = true) (h4 : ∀ a ∈ xs, isTupC (f a) = true) : sortOk (xs.map f) = true := by
  have hpy : D.pyL (xs.map f) = true := by
    clear h2 h3 h4
    induction xs with
    | nil => rfl
    | cons x xs ih =>
      simp only [List.map_cons, D.pyL, h1 x (List.mem_cons_self ..), ih fun a ha => h1 a (List.mem_cons_of_mem _ ha), Bool.and_self]
  unfold sortOk
  simp only [Bool.and_eq_true, Bool.or_eq_true, List.all_eq_true, List.mem_map, forall_exists_index, and_imp, forall_apply_eq_imp_iff₂, decide_eq_true_eq]
  exact ⟨⟨⟨hpy, h2⟩, h3⟩, Or.inl h4⟩
theorem sorted_id {α : Type} {le : α → α → Bool} {xs : List α} (h : xs.Pairwise fun a b => le a b = true) : xs.mergeSort le = xs := List.mergeSort_of_pairwise h
theorem cells_ok (cs : List Ce) : sortOk (cs.map (eC true)) = true := by
  refine sortOk_of _ _ (fun a _ => rfl) (fun a _ => ?_) (fun a _ b _ => ?_) (fun a _ => rfl)
  · show D.dep (.tup [.str a.1, .int a.2.1, .str a.2.2]) ≤ 60
    simp only [D.dep, D.depL]
    omega
  · show PySem.W.alike (.tuple [.str _, .int _, .str _]) (.tuple [.str _, .int _, .str _]) = true
    simp only [PySem.W.alike, PySem.W.alikeAll, Bool.and_self]
theorem row_py : ∀ r : List Int, D.pyL (r.map .int) = true ∧ D.depL (r.map .int) ≤ 1
  | [] => ⟨rfl, Nat.zero_le _⟩
  | x :: r => by
    obtain ⟨h1, h2⟩ := row_py r
    refine ⟨by simp only [List.map_cons, D.pyL, D.py, h1, Bool.and_self], ?_⟩
    simp only [List.map_cons, D.depL, D.dep]
    omega
theorem row_alike : ∀ a b : List Int, PySem.W.alikeAll (toPyL (a.map .int)) (toPyL (b.map .int)) = true
  | [], b => by simp only [List.map_nil, toPyL, PySem.W.alikeAll]
  | _ :: _, [] => by simp only [List.map_nil, toPyL, List.map_cons, PySem.W.alikeAll]
  | x :: a, y :: b => by simp only [toPyL, toPy, List.map_cons, PySem.W.alikeAll, PySem.W.alike, row_alike a b, Bool.and_self]
theorem rows_ok (rs : List Row) : sortOk (rs.map (eR true)) = true := by
  refine sortOk_of _ _ (fun a _ => (row_py (rl a)).1) (fun a _ => ?_) (fun a _ b _ => ?_) (fun a ha => rfl)
  · show D.dep (.tup ((rl a).map .int)) ≤ 60
    have := (row_py (rl a)).2
    simp only [D.dep]
    omega
  · show PySem.W.alike (.tuple (toPyL ((rl a).map .int))) (.tuple (toPyL ((rl b).map .int))) = true
    simp only [PySem.W.alike, row_alike]
theorem le_rows {a b : Row} (h : a.1 < b.1) : leD (eR true a) (eR true b) = true := by
  obtain ⟨x, r⟩ := a
  obtain ⟨y, t⟩ := b
  have h : x < y := h
  have e : PySem.W.dataLt (toPy (eR true (y, t))) (toPy (eR true (x, r))) = false := by
    show PyProof.Rows.lexLt PyProof.Rows.itemOrd ((.inl 1) :: (.inl y :: _)) ((.inl 1) :: (.inl x :: _)) = false
    rw [PyProof.Rows.lex_self, PyProof.Rows.lex_diff (fun z => by injection z; omega)]
    show decide (y < x) = false
    exact decide_eq_false (by omega)
  unfold leD
  rw [e]; rfl
theorem sort_rows {rs : List Row} (p : rs.Pairwise fun a b => a.1 < b.1) : sortD (rs.map (eR true)) = rs.map (eR true) := by
  rw [sort_map, sorted_id]
  exact p.imp fun hab => le_rows hab
theorem asc_filter : ∀ {rs : List Row}, rs.Pairwise (fun a b => a.1 < b.1) → ∀ {r : Row}, r ∈ rs → rs.filter (fun q => q.1 == r.1) = [r]
  | [], _, _, h => nomatch h
  | x :: rs, p, r, h => by
    obtain ⟨p1, p2⟩ := List.pairwise_cons.mp p
    rcases List.mem_cons.mp h with rfl | h
    · rw [List.filter_cons_of_pos (by simp), List.filter_eq_nil_iff.mpr]
      intro q hq
      have := p1 q hq
      simp only [beq_iff_eq]
      omega
    · rw [List.filter_cons_of_neg, asc_filter p2 h]
      have := p1 r h
      simp only [beq_iff_eq]
      omega
theorem eR_0 (b : Bool) (r : Row) : ixM (eR b r) (.int 0) = M.ret (.int r.1) := by
  rw [eR, sq_ix, rl, List.map_cons, at0]; rfl
theorem eR_at (b : Bool) {r : Row} {n : Nat} (h : n < r.2.length + 1) : ixM (eR b r) (.int (n : Int)) = M.ret (.int ((rl r).getD n 0)) := by
  have e : (rl r)[n]? = some ((rl r).getD n 0) := by
    rw [List.getD_eq_getElem?_getD, List.getElem?_eq_getElem (by rw [rl, List.length_cons]; exact h)]; rfl
  rw [eR, sq_ix, atI_mapN e]; rfl
theorem zip_Z (Z : List Zt) : zipOf (eS true Z) (eT true Z) = some (Z.map fun z => .tup [eK true z.1, eRs true z.2]) := by
  show some (zipD (Z.map fun z => eK true z.1) (Z.map fun z => eRs true z.2)) = _
  congr 1
  induction Z with
  | nil => rfl
  | cons z Z ih => simp only [List.map_cons, zipD, ih]
theorem foldl_app {α β : Type} (f : α → List β) : ∀ (xs : List α) (a : List β), xs.foldl (fun acc x => acc ++ f x) a = a ++ xs.flatMap f
  | [], a => by simp
  | x :: xs, a => by rw [List.foldl_cons, foldl_app f xs, List.flatMap_cons, List.append_assoc]
theorem foldl_map {α β : Type} (f : α → β) : ∀ (xs : List α) (a : List β), xs.foldl (fun acc x => acc ++ [f x]) a = a ++ xs.map f
  | [], a => by simp
  | x :: xs, a => by rw [List.foldl_cons, foldl_map f xs, List.map_cons, List.append_assoc]; rfl
def nmsZ (Z : List Zt) : List Str := Z.map fun z => z.1.nm
theorem nmsZ_map (Z : List Zt) : (Z.map fun z => D.str z.1.nm) = (nmsZ Z).map .str := by rw [nmsZ, List.map_map]; rfl
theorem nms_len (Z : List Zt) : (nmsZ Z).length = Z.length := by rw [nmsZ, List.length_map]
theorem eK_0 (b : Bool) (K : Kd) : ixM (eK b K) (.int 0) = M.ret (.str K.nm) := by rw [eK, sq_ix]; rfl
theorem eK_1 (b : Bool) (K : Kd) : ixM (eK b K) (.int 1) = M.ret (sq b (K.cols.map .str)) := by rw [eK, sq_ix]; rfl
theorem eK_2 (b : Bool) (K : Kd) : ixM (eK b K) (.int 2) = M.ret (sq b (K.ties.map (eTie b))) := by rw [eK, sq_ix]; rfl
theorem eTie_0 (b : Bool) (t : Str × Str) : ixM (eTie b t) (.int 0) = M.ret (.str t.1) := by rw [eTie, sq_ix]; rfl
theorem in_nms {Z : List Zt} {z : Zt} (hz : z ∈ Z) : z.1.nm ∈ nmsZ Z := List.mem_map_of_mem hz
theorem at_Z {Z : List Zt} (h : ZOk Z) {z : Zt} (hz : z ∈ Z) : Z[plc z.1.nm (nmsZ Z)]? = some z := plc_of (f := fun z => z.1.nm) h.nd hz
def tiedOf (K : Kd) : List Str := K.ties.map fun t => t.1
def plainOf (K : Kd) : List Str := (K.cols.drop 1).filter fun c => !decide (c ∈ tiedOf K)
theorem tied_len (K : Kd) : (tiedOf K).length = K.ties.length := by rw [tiedOf, List.length_map]
theorem tied_map (K : Kd) : (K.ties.map fun t => D.str t.1) = (tiedOf K).map .str := by rw [tiedOf, List.map_map]; rfl
theorem plain_len (K : Kd) : (plainOf K).length ≤ K.cols.length := Nat.le_trans (List.length_filter_le _ _) (by rw [List.length_drop]; omega)
theorem plain_in {K : Kd} {c : Str} (hc : c ∈ plainOf K) : c ∈ K.cols := List.mem_of_mem_drop (List.mem_filter.mp hc).1
/-- a plain column is not the first one -/
theorem plain_pos {K : Kd} (h : KOk K) {c : Str} (hc : c ∈ plainOf K) : 0 < plc c K.cols := by
  have h1 := plc_get (plain_in hc)
  rcases Nat.eq_zero_or_pos (plc c K.cols) with e | e
  · rw [e] at h1
    obtain ⟨i, hi, e2⟩ := List.mem_iff_getElem.mp (List.mem_filter.mp hc).1
    rw [List.getElem_drop] at e2
    have h2 : K.cols[1 + i]? = some c := by rw [List.getElem?_eq_getElem (by rw [List.length_drop] at hi; omega), e2]
    have := nodup_get h.nd h1 h2
    omega
  · exact e
def cellsOf (z : Zt) : List Ce := z.2.flatMap fun r => (plainOf z.1).map fun c => (z.1.nm, r.1, c)
def cellsZ (Z : List Zt) : List Ce := Z.flatMap cellsOf
theorem cellsOf_len {z : Zt} (h : KOk z.1) (r : ROk z.1 z.2) : (cellsOf z).length ≤ 10000 := by
  have h1 := plain_len z.1
  have h2 := h.c2
  have h3 := r.len
  unfold cellsOf
  have : ∀ rs : List Row, (rs.flatMap fun r => (plainOf z.1).map fun c => (z.1.nm, r.1, c)).length = rs.length * (plainOf z.1).length := by
    intro rs
    induction rs with
    | nil => simp
    | cons r rs ih => rw [List.flatMap_cons, List.length_append, ih, List.length_map, List.length_cons, Nat.add_mul, Nat.one_mul]; omega
  rw [this]
  exact Nat.le_trans (Nat.mul_le_mul h3 (Nat.le_trans h1 h2)) (by omega)
theorem cell_of {Z : List Zt} {x : Ce} (h : x ∈ cellsZ Z) : ∃ z ∈ Z, ∃ r ∈ z.2, ∃ c ∈ plainOf z.1, x = (z.1.nm, r.1, c) := by
  obtain ⟨z, hz, h⟩ := List.mem_flatMap.mp h
  obtain ⟨r, hr, h⟩ := List.mem_flatMap.mp h
  obtain ⟨c, hc, h⟩ := List.mem_map.mp h
  exact ⟨z, hz, r, hr, c, hc, h.symm⟩
end Mi
namespace Mi
open PySem
theorem nin_ints (x : Int) (xs : List Int) : evOp .nin (.int x) (.lst (xs.map .int)) = some (.bl (!decide (x ∈ xs))) := by
  have h1 : D.pyL (xs.map .int) = true := (row_py xs).1
  have h2 : (xs.map D.int).any (fun y => D.eqv y (.int x)) = decide (x ∈ xs) := by
    induction xs with
    | nil => rfl
    | cons a r ih =>
      rw [List.map_cons, List.any_cons, ih (row_py r).1]
      show ((a == x) || decide (x ∈ r)) = _
      by_cases e : a = x
      · subst e; simp
      · have e2 : x ≠ a := fun z => e z.symm
        simp [e, e2]
  show (if D.py (.int x) && D.pyL (xs.map .int) && decide (D.dep (.int x) ≤ 60) then some (D.bl (xor true ((xs.map D.int).any fun y => D.eqv y (.int x)))) else none) = _
  rw [h1, h2, if_pos (by simp [D.py, D.dep]), Bool.true_xor]
theorem s_seti {c : Cfg} {s : Env} {r : MSs} {i : Nat} {x e : ME} {xs : List D} (h : s[i]? = some (.ow (.lst xs))) : exSs c (.cons (.seti i x e) r) s = (evE c e s).bd fun v => (evE c x s).bd fun k => (M.ofO (asI k)).bd fun k => (M.ofO (L2.ixN xs.length k)).bd fun j => exSs c r (s.set i (.ow (.lst (xs.set j v)))) := sq_seti h
theorem ixN_nat {n k : Nat} (h : k < n) : L2.ixN n (k : Int) = some k := by
  unfold L2.ixN
  rw [if_pos (by omega), if_pos (by omega), Int.toNat_natCast]
theorem Dr.nex {α : Type} {n : Nat} {m : M α} {P : α → Prop} (d : Dr n m P) : Dr n m.nex P := fun N b hb => by
  have h := d N b hb
  unfold WP at h ⊢
  unfold M.nex
  cases e : m b <;> rw [e] at h <;> first | exact h | exact h.elim
theorem comp_dr {F : D → M (Option D)} : ∀ (ds : List D), (∀ d ∈ ds, Dr 1 (F d) fun o => ∃ i : Int, o = some (.int i)) → Dr ds.length (compGo F ds) fun xs => ∃ is : List Int, xs = is.map .int ∧ is.length = ds.length
  | [], _ => Dr.ret ⟨[], rfl, rfl⟩
  | d :: ds, h => by
    rw [compGo, List.length_cons]
    refine (Dr.bd (h d (List.mem_cons_self ..)) fun o ⟨i, e⟩ => ?_).more (n := 1 + ds.length) (by omega)
    subst e
    refine Dr.rt (comp_dr ds fun x hx => h x (List.mem_cons_of_mem _ hx)) fun xs ⟨is, e1, e2⟩ => Dr.ret ⟨i :: is, ?_, ?_⟩
    · rw [e1]; rfl
    · rw [List.length_cons, e2]
theorem leD_trans {a b c : D} (h1 : leD a b = true) (h2 : leD b c = true) : leD a c = true := by
  unfold leD PySem.W.dataLt at *
  rw [Bool.not_eq_true'] at *
  cases e : PyProof.Rows.lexLt PyProof.Rows.itemOrd (PySem.W.keyToks (toPy c)) (PySem.W.keyToks (toPy a)) with
  | false => rfl
  | true =>
    rcases PyProof.Rows.lex_negTrans _ (PySem.W.keyToks (toPy b)) _ e with h | h
    · rw [h2] at h; cases h
    · rw [h1] at h; cases h
theorem leD_total (a b : D) : (leD a b || leD b a) = true := by
  unfold leD PySem.W.dataLt
  cases e1 : PyProof.Rows.lexLt PyProof.Rows.itemOrd (PySem.W.keyToks (toPy b)) (PySem.W.keyToks (toPy a)) with
  | false => rfl
  | true =>
    cases e2 : PyProof.Rows.lexLt PyProof.Rows.itemOrd (PySem.W.keyToks (toPy a)) (PySem.W.keyToks (toPy b)) with
    | false => rfl
    | true =>
      have := PyProof.Rows.lex_trans _ _ _ e1 e2
      rw [PyProof.Rows.lex_irrefl] at this
      cases this
theorem leD_key {a b : Row} (h : leD (eR true a) (eR true b) = true) : a.1 ≤ b.1 := by
  by_cases g : b.1 < a.1
  · obtain ⟨x, r⟩ := a
    obtain ⟨y, t⟩ := b
    have g : y < x := g
    have e : PySem.W.dataLt (toPy (eR true (y, t))) (toPy (eR true (x, r))) = true := by
      show PyProof.Rows.lexLt PyProof.Rows.itemOrd ((.inl 1) :: (.inl y :: _)) ((.inl 1) :: (.inl x :: _)) = true
      rw [PyProof.Rows.lex_self, PyProof.Rows.lex_diff (fun z => by injection z; omega)]
      show decide (y < x) = true
      exact decide_eq_true g
    unfold leD at h
    rw [e] at h
    cases h
  · omega
def srtR (rs : List Row) : List Row := rs.mergeSort fun a b => leD (eR true a) (eR true b)
theorem srtR_perm (rs : List Row) : (srtR rs).Perm rs := List.mergeSort_perm ..
theorem srtR_asc {rs : List Row} (nd : (rs.map fun r => r.1).Nodup) : (srtR rs).Pairwise fun a b => a.1 < b.1 := by
  have h1 : (srtR rs).Pairwise fun a b => leD (eR true a) (eR true b) = true := List.pairwise_mergeSort (le := fun a b : Row => leD (eR true a) (eR true b)) (fun a b c h1 h2 => leD_trans h1 h2) (fun a b => leD_total _ _) rs
  have h2 : ((srtR rs).map fun r => r.1).Nodup := ((srtR_perm rs).map _).nodup_iff.mpr nd
  have h3 : (srtR rs).Pairwise fun a b => a.1 ≠ b.1 := List.pairwise_map.mp h2
  exact (h1.and h3).imp fun ⟨p, q⟩ => by
    have := leD_key p
    omega
theorem ev_rows {rs : List Row} (h : rs.length ≤ 10000000) : evBi .sort (.lst (rs.map (eR true))) = some (.lst ((srtR rs).map (eR true))) := by
  rw [ev_sort (rows_ok rs) (by rw [List.length_map]; unfold lineMax; omega), sort_map]; rfl
theorem plc_take {a : Str} : ∀ {xs : List Str} {m : Nat}, a ∈ xs.take m → plc a xs < m ∧ a ∈ xs
  | [], m, h => by simp at h
  | x :: xs, 0, h => by simp at h
  | x :: xs, m + 1, h => by
    unfold plc
    rw [idxF]
    by_cases e : x = a
    · rw [if_pos e]
      exact ⟨Nat.zero_lt_succ _, by rw [e]; exact List.mem_cons_self ..⟩
    · rw [if_neg e]
      rw [List.take_succ_cons] at h
      obtain ⟨h1, h2⟩ := plc_take ((List.mem_cons.mp h).resolve_left fun z => e z.symm)
      rw [plc_some h2]
      exact ⟨Nat.succ_lt_succ h1, List.mem_cons_of_mem _ h2⟩
end Mi
namespace Mi
open PySem
theorem mx_0 (d : D) : mkExc 0 [d] = some (.exc 0 [d]) := nr rfl
theorem mx_1 (d : D) : mkExc 1 [d] = some (.exc 1 [d]) := nr rfl
theorem mx_2 (d : D) : mkExc 2 [d] = some (.exc 2 [d]) := nr rfl
theorem mx_6 (d : D) : mkExc 6 [d] = some (.exc 6 [d]) := nr rfl
theorem mx_7 : mkExc 7 [] = some (.exc 7 []) := nr rfl
theorem fl_str (a : Str) : D.flat (.str a) = true := nr rfl
theorem fl_int (a : Int) : D.flat (.int a) = true := nr rfl
def keysR (R : List Row) : List Int := R.map fun r => r.1
theorem keysR_map (R : List Row) : (R.map fun r => D.int r.1) = (keysR R).map .int := by rw [keysR, List.map_map]; rfl
theorem keysR_len (R : List Row) : (keysR R).length = R.length := by rw [keysR, List.length_map]
theorem flt_none {rs : List Row} {i : Int} (h : i ∉ keysR rs) : rs.filter (fun q => q.1 == i) = [] := by
  rw [List.filter_eq_nil_iff]
  intro q hq e
  exact h (beq_iff_eq.mp e ▸ List.mem_map_of_mem (f := fun r : Row => r.1) hq)
abbrev Pr := Str × Int
def eP (p : Pr) : D := .tup [.str p.1, .int p.2]
theorem eP_e (a : Str) (i : Int) : D.tup [.str a, .int i] = eP (a, i) := nr rfl
theorem eqv_pair (p q : Pr) : D.eqv (eP p) (eP q) = decide (p = q) := by
  show (decide (p.1 = q.1) && (p.2 == q.2 && true)) = _
  rw [Bool.and_true, Bool.eq_iff_iff, Bool.and_eq_true, decide_eq_true_eq, beq_iff_eq, decide_eq_true_eq, Prod.ext_iff]
theorem py_pairs : ∀ ps : List Pr, D.pyL (ps.map eP) = true
  | [] => rfl
  | p :: ps => by rw [List.map_cons, D.pyL, py_pairs ps]; rfl
theorem any_pairs (p : Pr) (ps : List Pr) : ((ps.map eP).any fun y => D.eqv y (eP p)) = decide (p ∈ ps) := by
  induction ps with
  | nil => rfl
  | cons q ps ih =>
    rw [List.map_cons, List.any_cons, ih, eqv_pair, Bool.eq_iff_iff]
    simp only [Bool.or_eq_true, decide_eq_true_eq, List.mem_cons]
    exact ⟨fun h => h.imp Eq.symm id, fun h => h.imp Eq.symm id⟩
theorem in_pairs (p : Pr) (ps : List Pr) : evOp .inn (eP p) (.lst (ps.map eP)) = some (.bl (decide (p ∈ ps))) := by
  show (if D.py (eP p) && D.pyL (ps.map eP) && decide (D.dep (eP p) ≤ 60) then some (D.bl (xor false ((ps.map eP).any fun y => D.eqv y (eP p)))) else none) = _
  rw [py_pairs, any_pairs, Bool.false_xor]
  rfl
theorem nin_pairs (p : Pr) (ps : List Pr) : evOp .nin (eP p) (.lst (ps.map eP)) = some (.bl (!decide (p ∈ ps))) := by
  show (if D.py (eP p) && D.pyL (ps.map eP) && decide (D.dep (eP p) ≤ 60) then some (D.bl (xor true ((ps.map eP).any fun y => D.eqv y (eP p)))) else none) = _
  rw [py_pairs, any_pairs, Bool.true_xor]
  rfl
theorem in_ints (x : Int) (xs : List Int) : evOp .inn (.int x) (.lst (xs.map .int)) = some (.bl (decide (x ∈ xs))) := by
  have h := nin_ints x xs
  change (if D.py (.int x) && D.pyL (xs.map .int) && decide (D.dep (.int x) ≤ 60) then some (D.bl (xor true ((xs.map D.int).any fun y => D.eqv y (.int x)))) else none) = _ at h
  show (if D.py (.int x) && D.pyL (xs.map .int) && decide (D.dep (.int x) ≤ 60) then some (D.bl (xor false ((xs.map D.int).any fun y => D.eqv y (.int x)))) else none) = _
  by_cases c : (D.py (.int x) && D.pyL (xs.map .int) && decide (D.dep (.int x) ≤ 60)) = true
  · rw [if_pos c] at h ⊢
    injection h with h
    injection h with h
    rw [Bool.true_xor] at h
    rw [Bool.false_xor, ← Bool.not_not ((xs.map D.int).any fun y => D.eqv y (.int x)), h, Bool.not_not]
  · rw [if_neg c] at h
    cases h
theorem pairs_alike (ps : List Pr) : sortOk (ps.map eP) = true := by
  refine sortOk_of _ _ (fun a _ => rfl) (fun a _ => ?_) (fun a _ b _ => ?_) (fun a _ => rfl)
  · show D.dep (.tup [.str a.1, .int a.2]) ≤ 60
    simp only [D.dep, D.depL]
    omega
  · show PySem.W.alike (.tuple [.str _, .int _]) (.tuple [.str _, .int _]) = true
    simp only [PySem.W.alike, PySem.W.alikeAll, Bool.and_self]
def srtP (ps : List Pr) : List Pr := ps.mergeSort fun a b => leD (eP a) (eP b)
theorem srtP_perm (ps : List Pr) : (srtP ps).Perm ps := List.mergeSort_perm ..
theorem srtP_len (ps : List Pr) : (srtP ps).length = ps.length := (srtP_perm ps).length_eq
theorem ev_pairs {ps : List Pr} (h : ps.length ≤ 10000000) : evBi .sort (.lst (ps.map eP)) = some (.lst ((srtP ps).map eP)) := by
  rw [ev_sort (pairs_alike ps) (by rw [List.length_map]; unfold lineMax; omega), sort_map]; rfl
def findZ (Z : List Zt) (a : Str) : Option Zt := Z.find? fun z => decide (z.1.nm = a)
theorem findZ_in {Z : List Zt} (nd : (Z.map fun z => z.1.nm).Nodup) {z : Zt} (hz : z ∈ Z) : findZ Z z.1.nm = some z := by
  unfold findZ
  induction Z with
  | nil => cases hz
  | cons y Z ih =>
    rw [List.map_cons, List.nodup_cons] at nd
    rcases List.mem_cons.mp hz with rfl | hz
    · rw [List.find?_cons_of_pos (by simp)]
    · rw [List.find?_cons_of_neg, ih nd.2 hz]
      simp only [decide_eq_true_eq]
      intro e
      exact nd.1 (e ▸ List.mem_map_of_mem (f := fun z : Zt => z.1.nm) hz)
theorem findZ_no {Z : List Zt} {a : Str} (h : a ∉ nmsZ Z) : findZ Z a = none := by
  unfold findZ
  rw [List.find?_eq_none]
  intro z hz e
  exact h (by rw [← of_decide_eq_true e]; exact in_nms hz)
theorem nms_of {Z : List Zt} {a : Str} (h : a ∈ nmsZ Z) : ∃ z ∈ Z, z.1.nm = a := by
  obtain ⟨z, hz, e⟩ := List.mem_map.mp h
  exact ⟨z, hz, e⟩
/-- the keys of a kind -/
def keysN (Z : List Zt) (a : Str) : List Int := ((findZ Z a).map fun z => keysR z.2).getD []
theorem keysN_in {Z : List Zt} (h : ZOk Z) {z : Zt} (hz : z ∈ Z) : keysN Z z.1.nm = keysR z.2 := by rw [keysN, findZ_in h.nd hz]; rfl
def atC (K : Kd) (r : Row) (c : Str) : Int := (rl r).getD (plc c K.cols) 0
theorem atC_e (K : Kd) (r : Row) (c : Str) : (rl r).getD (plc c K.cols) 0 = atC K r c := nr rfl
def refsK (K : Kd) (r : Row) : List Pr := K.ties.map fun t => (t.2, atC K r t.1)
theorem refs_map (K : Kd) (r : Row) : (K.ties.map fun t => D.tup [.str t.2, .int (atC K r t.1)]) = (refsK K r).map eP := by rw [refsK, List.map_map]; rfl
theorem refs_len (K : Kd) (r : Row) : (refsK K r).length = K.ties.length := by rw [refsK, List.length_map]
/-- the references' columns and kinds stand -/
def TiesOk (Z : List Zt) : Prop := ∀ z ∈ Z, ∀ t ∈ z.1.ties, t.1 ∈ z.1.cols ∧ t.2 ∈ nmsZ Z
/-- all references are kept -/
def Kept (Z : List Zt) : Prop := ∀ z ∈ Z, ∀ r ∈ z.2, ∀ p ∈ refsK z.1 r, p.2 ∈ keysN Z p.1
/-- rows beside their kinds -/
def allR (Z : List Zt) : List (Zt × Row) := Z.flatMap fun z => z.2.map fun r => (z, r)
theorem allR_mem {Z : List Zt} {q : Zt × Row} (h : q ∈ allR Z) : q.1 ∈ Z ∧ q.2 ∈ q.1.2 := by
  obtain ⟨z, hz, h⟩ := List.mem_flatMap.mp h
  obtain ⟨r, hr, rfl⟩ := List.mem_map.mp h
  exact ⟨hz, hr⟩
theorem mem_allR {Z : List Zt} {z : Zt} {r : Row} (hz : z ∈ Z) (hr : r ∈ z.2) : (z, r) ∈ allR Z := List.mem_flatMap.mpr ⟨z, hz, List.mem_map.mpr ⟨r, hr, rfl⟩⟩
theorem allR_len {Z : List Zt} (h : ZOk Z) : (allR Z).length ≤ 10000 := by
  have : ∀ Y : List Zt, (∀ z ∈ Y, z ∈ Z) → (Y.flatMap fun z => z.2.map fun r => (z, r)).length ≤ Y.length * 1000 := by
    intro Y hY
    induction Y with
    | nil => simp
    | cons y Y ih =>
      have h1 := (h.r y (hY y (List.mem_cons_self ..))).len
      have h2 := ih fun z hz => hY z (List.mem_cons_of_mem _ hz)
      rw [List.flatMap_cons, List.length_append, List.length_cons, List.length_map]
      omega
  have := this Z fun _ h => h
  have := h.n
  unfold allR
  omega
/-- who refers to a row -/
def refer (Z : List Zt) (p : Pr) : List Pr := ((allR Z).filter fun q => decide (p ∈ refsK q.1.1 q.2)).map fun q => (q.1.1.nm, q.2.1)
theorem refer_nil {Z : List Zt} {p : Pr} (h : ∀ z ∈ Z, ∀ r ∈ z.2, p ∉ refsK z.1 r) : refer Z p = [] := by
  unfold refer
  rw [List.filter_eq_nil_iff.mpr]
  · rfl
  · intro q hq e
    obtain ⟨h1, h2⟩ := allR_mem hq
    exact h q.1 h1 q.2 h2 (of_decide_eq_true e)
theorem refer_len {Z : List Zt} (h : ZOk Z) (p : Pr) : (refer Z p).length ≤ 10000 := by
  rw [refer, List.length_map]
  exact Nat.le_trans (List.length_filter_le _ _) (allR_len h)
def pick (nm : Str) (rs : List Row) (z : Zt) : List Row := if z.1.nm = nm then rs else z.2
theorem zip_NZ (Z : List Zt) : zipOf (.lst ((nmsZ Z).map .str)) (eT true Z) = some (Z.map fun z => .tup [.str z.1.nm, eRs true z.2]) := by
  show some (zipD ((nmsZ Z).map .str) (Z.map fun z => eRs true z.2)) = _
  congr 1
  unfold nmsZ
  induction Z with
  | nil => rfl
  | cons z Z ih => simp only [List.map_cons, zipD, ih]
theorem asc_nd {rs : List Row} (h : rs.Pairwise fun a b => a.1 < b.1) : (keysR rs).Nodup := by
  rw [keysR]
  exact List.pairwise_map.mpr (h.imp fun hab e => by omega)
/-- the same rows, both ascending -/
theorem asc_eq {xs ys : List Row} (p : xs.Perm ys) (h1 : xs.Pairwise fun a b => a.1 < b.1) (h2 : ys.Pairwise fun a b => a.1 < b.1) : xs = ys :=
  List.Perm.eq_of_pairwise (le := fun a b : Row => a.1 < b.1) (fun a b _ _ h3 h4 => by omega) h1 h2 p
theorem srtR_id {rs : List Row} (h : rs.Pairwise fun a b => a.1 < b.1) : srtR rs = rs := sorted_id (h.imp fun hab => le_rows hab)
end Mi
namespace Mi
open PySem
theorem rl_len (r : Row) : (rl r).length = r.2.length + 1 := List.length_cons
theorem eqS (x y : Str) : evOp .eq (.str x) (.str y) = some (.bl (decide (x = y))) := nr rfl
theorem neB (a b : Bool) : evOp .ne (.bl a) (.bl b) = some (.bl (!(a == b))) := nr rfl
theorem eqBl (a b : Bool) : evOp .eq (.bl a) (.bl b) = some (.bl (a == b)) := nr rfl
theorem eqN : evOp .eq .non .non = some (.bl true) := nr rfl
theorem isN_non : isNon .non = true := nr rfl
theorem isN_int (i : Int) : isNon (.int i) = false := nr rfl
theorem isN_str (i : Str) : isNon (.str i) = false := nr rfl
theorem isN_bl (i : Bool) : isNon (.bl i) = false := nr rfl
theorem isN_tup (i : List D) : isNon (.tup i) = false := nr rfl
theorem isN_lst (i : List D) : isNon (.lst i) = false := nr rfl
theorem isN_sq (b : Bool) (i : List D) : isNon (sq b i) = false := by cases b <;> rfl
theorem isN_R (b : Bool) (r : Row) : isNon (eR b r) = false := isN_sq ..
mutual
/-- depth and width -/
def fits (n : Nat) : D → Bool
  | .tup xs => decide (xs.length ≤ 10000000) && (match n with | 0 => false | n + 1 => fitsL n xs)
  | .lst xs => decide (xs.length ≤ 10000000) && (match n with | 0 => false | n + 1 => fitsL n xs)
  | .int _ => true
  | .str _ => true
  | .bl _ => true
  | .non => true
  | _ => false
def fitsL (n : Nat) : List D → Bool
  | [] => true
  | x :: xs => fits n x && fitsL n xs
end
theorem fitsL_mem {n : Nat} : ∀ {xs : List D}, fitsL n xs = true → ∀ x ∈ xs, fits n x = true
  | [], _, _, h => nomatch h
  | x :: xs, h, y, hy => by
    rw [fitsL, Bool.and_eq_true] at h
    rcases List.mem_cons.mp hy with rfl | hy
    · exact h.1
    · exact fitsL_mem h.2 y hy
theorem zip_self (b : Bool) (xs : List D) : zipOf (sq b xs) (sq b xs) = some (xs.map fun x => .tup [x, x]) := by
  have : zipD xs xs = xs.map fun x => .tup [x, x] := by
    induction xs with
    | nil => rfl
    | cons x xs ih => rw [zipD, ih]; rfl
  cases b
  · show some (zipD xs xs) = _
    rw [this]
  · show some (zipD xs xs) = _
    rw [this]
theorem fitsL_of {n : Nat} : ∀ {xs : List D}, (∀ x ∈ xs, fits n x = true) → fitsL n xs = true
  | [], _ => rfl
  | x :: xs, h => by rw [fitsL, h x (List.mem_cons_self ..), fitsL_of fun y hy => h y (List.mem_cons_of_mem _ hy)]; rfl
theorem fits_seq {n : Nat} {b : Bool} {xs : List D} (hl : xs.length ≤ 10000000) (h : ∀ x ∈ xs, fits n x = true) : fits (n + 1) (sq b xs) = true := by
  cases b
  · show (decide (xs.length ≤ 10000000) && fitsL n xs) = true
    rw [decide_eq_true hl, fitsL_of h]; rfl
  · show (decide (xs.length ≤ 10000000) && fitsL n xs) = true
    rw [decide_eq_true hl, fitsL_of h]; rfl
theorem fits_map {α : Type} {n : Nat} {b : Bool} {xs : List α} {f : α → D} (hl : xs.length ≤ 10000000) (h : ∀ x ∈ xs, fits n (f x) = true) : fits (n + 1) (sq b (xs.map f)) = true :=
  fits_seq (by rw [List.length_map]; exact hl) fun y hy => by
    obtain ⟨x, hx, rfl⟩ := List.mem_map.mp hy
    exact h x hx
theorem fits_str (n : Nat) (a : Str) : fits n (.str a) = true := rfl
theorem fits_int (n : Nat) (a : Int) : fits n (.int a) = true := rfl
theorem fits_eC (n : Nat) (b : Bool) (c : Ce) : fits (n + 1) (eC b c) = true := fits_seq (by simp) fun x hx => by
  simp only [List.mem_cons, List.not_mem_nil, or_false] at hx
  rcases hx with rfl | rfl | rfl <;> rfl
theorem fits_cells (n : Nat) {cs : List Ce} (hl : cs.length ≤ 10000000) : fits (n + 2) (.tup (cs.map (eC true))) = true := fits_map (b := true) hl fun c _ => fits_eC n true c
theorem fits_eR (n : Nat) (b : Bool) {r : Row} (h : r.2.length ≤ 1000) : fits (n + 1) (eR b r) = true := fits_map (by rw [rl_len]; omega) fun x _ => fits_int n x
theorem fits_eRs (n : Nat) (b : Bool) {rs : List Row} (hl : rs.length ≤ 1000) (h : ∀ r ∈ rs, r.2.length ≤ 1000) : fits (n + 2) (eRs b rs) = true := fits_map (by omega) fun r hr => fits_eR n b (h r hr)
theorem fits_T (n : Nat) (b : Bool) {L : List (List Row)} (h1 : L.length ≤ 1000) (h : ∀ rs ∈ L, rs.length ≤ 1000 ∧ ∀ r ∈ rs, r.2.length ≤ 1000) : fits (n + 3) (sq b (L.map (eRs b))) = true := fits_map (by omega) fun rs hr => fits_eRs n b (h rs hr).1 (h rs hr).2
theorem fits_eT (n : Nat) (b : Bool) {Z : List Zt} (h : ZOk Z) : fits (n + 3) (eT b Z) = true := fits_map (by have := h.n; omega) fun z hz => fits_eRs n b (h.r z hz).len fun r hr => by
  have := (h.r z hz).wid r hr
  have := (h.k z hz).c2
  omega
theorem fits_eK (n : Nat) (b : Bool) {K : Kd} (h : KOk K) : fits (n + 3) (eK b K) = true := fits_seq (by simp) fun x hx => by
  have h2 := h.c2
  have h3 := h.t
  simp only [List.mem_cons, List.not_mem_nil, or_false] at hx
  rcases hx with rfl | rfl | rfl
  · rfl
  · exact fits_map (by omega) fun c _ => fits_str _ c
  · exact fits_map (by omega) fun t _ => fits_map (b := b) (xs := [t.1, t.2]) (f := .str) (by simp) fun c _ => fits_str _ c
theorem fits_eS (n : Nat) (b : Bool) {Z : List Zt} (h : ZOk Z) : fits (n + 4) (eS b Z) = true := fits_map (by have := h.n; omega) fun z hz => fits_eK n b (h.k z hz)
theorem eT_at {b : Bool} {Z : List Zt} (h : ZOk Z) {z : Zt} (hz : z ∈ Z) : ixM (eT b Z) (.int (plc z.1.nm (nmsZ Z))) = M.ret (eRs b z.2) := by
  rw [eT, sq_ix, atI_mapN (at_Z h hz)]; rfl
theorem eS_at {b : Bool} {Z : List Zt} (h : ZOk Z) {z : Zt} (hz : z ∈ Z) : ixM (eS b Z) (.int (plc z.1.nm (nmsZ Z))) = M.ret (eK b z.1) := by
  rw [eS, sq_ix, atI_mapN (at_Z h hz)]; rfl
theorem eC_0 (b : Bool) (c : Ce) : ixM (eC b c) (.int 0) = M.ret (.str c.1) := by rw [eC, sq_ix]; rfl
theorem eC_1 (b : Bool) (c : Ce) : ixM (eC b c) (.int 1) = M.ret (.int c.2.1) := by rw [eC, sq_ix]; rfl
theorem eC_2 (b : Bool) (c : Ce) : ixM (eC b c) (.int 2) = M.ret (.str c.2.2) := by rw [eC, sq_ix]; rfl
theorem walk_S (b : Bool) (Z : List Zt) : walkOf (eS b Z) = some (Z.map fun z => eK b z.1) := by rw [eS, sq_walk]
theorem walk_Rs (b : Bool) (rs : List Row) : walkOf (eRs b rs) = some (rs.map (eR b)) := by rw [eRs, sq_walk]
theorem addL {x y : List D} (h : x.length + y.length ≤ 10000000) : evOp .add (.lst x) (.lst y) = some (.lst (x ++ y)) := by
  show (if x.length + y.length ≤ lineMax then some (D.lst (x ++ y)) else none) = _
  rw [if_pos (by unfold lineMax; omega)]
theorem addT {x y : List D} (h : x.length + y.length ≤ 10000000) : evOp .add (.tup x) (.tup y) = some (.tup (x ++ y)) := by
  show (if x.length + y.length ≤ lineMax then some (D.tup (x ++ y)) else none) = _
  rw [if_pos (by unfold lineMax; omega)]
def srtC (cs : List Ce) : List Ce := cs.mergeSort fun a b => leD (eC true a) (eC true b)
theorem ev_cells {cs : List Ce} (h : cs.length ≤ 10000000) : evBi .sort (.lst (cs.map (eC true))) = some (.lst ((srtC cs).map (eC true))) := by
  rw [ev_sort (cells_ok cs) (by rw [List.length_map]; unfold lineMax; omega), sort_map]; rfl
theorem cellsOf_map (z : Zt) : (z.2.flatMap fun r => (plainOf z.1).map fun c => D.tup [.str z.1.nm, .int r.1, .str c]) = (cellsOf z).map (eC true) := by
  unfold cellsOf
  rw [List.map_flatMap]
  congr 1
  funext r
  rw [List.map_map]
  rfl
theorem cellsOf_map_len (z : Zt) : (z.2.flatMap fun r => (plainOf z.1).map fun c => D.tup [.str z.1.nm, .int r.1, .str c]).length = (cellsOf z).length := by
  rw [cellsOf_map, List.length_map]
theorem cellsZ_len {Z : List Zt} (h : ZOk Z) : (cellsZ Z).length ≤ 100000 := by
  have hn := h.n
  have : ∀ Y : List Zt, (∀ z ∈ Y, z ∈ Z) → (Y.flatMap cellsOf).length ≤ Y.length * 10000 := by
    intro Y hY
    induction Y with
    | nil => simp
    | cons y Y ih =>
      have h1 := cellsOf_len (h.k y (hY y (List.mem_cons_self ..))) (h.r y (hY y (List.mem_cons_self ..)))
      have h2 := ih fun z hz => hY z (List.mem_cons_of_mem _ hz)
      rw [List.flatMap_cons, List.length_append, List.length_cons]
      omega
  have := this Z fun _ h => h
  unfold cellsZ
  omega
def putRow (p : Nat) (n : Int) (r : Row) : Row := (r.1, r.2.take (p - 1) ++ n :: r.2.drop p)
def putIf (key : Int) (p : Nat) (n : Int) (r : Row) : Row := if r.1 = key then putRow p n r else r
theorem putRow_map {p : Nat} (hp : 0 < p) (n : Int) (r : Row) : ((rl r).map D.int).take p ++ ([D.int n] ++ ((rl r).map D.int).drop (p + 1)) = (rl (putRow p n r)).map .int := by
  obtain ⟨q, rfl⟩ : ∃ q, p = q + 1 := ⟨p - 1, by omega⟩
  simp only [rl, putRow, List.map_cons, List.take_succ_cons, List.drop_succ_cons, Nat.add_sub_cancel, List.map_append, List.map_take, List.map_drop, List.cons_append, List.nil_append]
theorem putRow_map' {p : Nat} (hp : 0 < p) (n : Int) (r : Row) : ((rl r).map D.int).take p ++ [D.int n] ++ ((rl r).map D.int).drop (p + 1) = (rl (putRow p n r)).map .int := by
  rw [List.append_assoc]; exact putRow_map hp n r
theorem cut_from1 {α : Type} (xs : List α) (p : Nat) : cut xs (some ((p : Int) + 1)) none = xs.drop (p + 1) := cut_from xs (p + 1)
theorem cut2 (x y z : D) : cut [x, y, z] none (some 2) = [x, y] := by
  rw [show (2 : Int) = ((2 : Nat) : Int) from rfl, cut_to]; rfl
theorem eq_pair (a b : Str) (i j : Int) : evOp .eq (.tup [.str a, .int i]) (.tup [.str b, .int j]) = some (.bl (decide (a = b) && (i == j && true))) := rfl
def nmsK (Ks : List Kd) : List Str := Ks.map fun K => K.nm
theorem nmsK_map (Ks : List Kd) : (Ks.map fun K => D.str K.nm) = (nmsK Ks).map .str := by rw [nmsK, List.map_map]; rfl
theorem nmsK_len (Ks : List Kd) : (nmsK Ks).length = Ks.length := by rw [nmsK, List.length_map]
def eSk (b : Bool) (Ks : List Kd) : D := sq b (Ks.map (eK b))
theorem add1i (i : Nat) : (1 + (i : Int)) = ((1 + i : Nat) : Int) := by omega
theorem add2i (i : Nat) : (2 + (i : Int)) = ((2 + i : Nat) : Int) := by omega
theorem list_C (c : Ce) : evBi .list (eC true c) = some (eC false c) := rfl
theorem add22 (a b c d : D) : evOp .add (.lst [a, b]) (.lst [c, d]) = some (.lst [a, b, c, d]) := addL (by simp)
theorem mul1 (a : D) : evOp .mul (.lst [a]) (.int 2) = some (.lst [a, a]) := by
  show (if decide ((0 : Int) ≤ 2) && decide ((2 : Int) < 1000000) && decide (1 * 2 ≤ lineMax) then some (D.lst (List.replicate 2 [a]).flatten) else none) = _
  rw [if_pos (by unfold lineMax; decide)]
  rfl
theorem mul2 (a b : D) : evOp .mul (.lst [a, b]) (.int 2) = some (.lst [a, b, a, b]) := by
  show (if decide ((0 : Int) ≤ 2) && decide ((2 : Int) < 1000000) && decide (2 * 2 ≤ lineMax) then some (D.lst (List.replicate 2 [a, b]).flatten) else none) = _
  rw [if_pos (by unfold lineMax; decide)]
  rfl
theorem at_two (A B : D) {j : Nat} (h : j < 2) : L2.atI [A, B] (j : Int) = some (if j = 0 then A else B) := by
  rw [atI_nat]
  match j, h with
  | 0, _ => rfl
  | 1, _ => rfl
def setRow (p : Nat) (x : Int) (r : Row) : Row := (r.1, r.2.set (p - 1) x)
theorem setRow_map {p : Nat} (hp : 0 < p) (x : Int) (r : Row) : ((rl r).map D.int).set p (.int x) = (rl (setRow p x r)).map .int := by
  obtain ⟨q, rfl⟩ : ∃ q, p = q + 1 := ⟨p - 1, by omega⟩
  simp only [rl, setRow, List.map_cons, List.set_cons_succ, Nat.add_sub_cancel, List.map_set]
theorem at_rl (r : Row) : L2.atI ((rl r).map D.int) 0 = some (.int r.1) := by rw [rl, List.map_cons, at0]
def eQ (q : Zt × Row) : D := .tup [.str q.1.1.nm, eR true q.2]
theorem allR_map (Z : List Zt) : (Z.flatMap fun z => z.2.map fun r => D.tup [.str z.1.nm, eR true r]) = (allR Z).map eQ := by
  unfold allR
  rw [List.map_flatMap]
  congr 1
  funext z
  rw [List.map_map]
  rfl
theorem refer_map (Z : List Zt) (p : Pr) : (((allR Z).filter fun q => decide (p ∈ refsK q.1.1 q.2)).map fun q => eP (q.1.1.nm, q.2.1)) = (refer Z p).map eP := by
  rw [refer, List.map_map]; rfl
theorem pure_ints : ∀ r : List Int, D.pureL (r.map .int) = true
  | [] => rfl
  | x :: r => by simp only [List.map_cons, D.pureL, D.pure, pure_ints r, Bool.and_self]
theorem pure_rows : ∀ rs : List Row, D.pureL (rs.map (eR true)) = true
  | [] => rfl
  | x :: r => by
    rw [List.map_cons, D.pureL, pure_rows r, Bool.and_true]
    exact pure_ints (rl x)
theorem pure_T : ∀ rs : List (List Row), D.pureL (rs.map (eRs true)) = true
  | [] => rfl
  | x :: r => by
    rw [List.map_cons, D.pureL, pure_T r, Bool.and_true]
    exact pure_rows x
end Mi
namespace Mi
open PySem
structure SchOk (Ks : List Kd) : Prop where
  n : Ks.length ≤ 3
  nd : (nmsK Ks).Nodup
  k : ∀ K ∈ Ks, KOk K
  c : ∀ K ∈ Ks, K.cols.length ≤ 4 ∧ K.ties.length ≤ 3
  tn : ∀ K ∈ Ks, (K.ties.map fun t => t.1).Nodup
  t : ∀ D K rest, Ks = D ++ K :: rest → ∀ t ∈ K.ties, t.1 ∈ K.cols ∧ 0 < plc t.1 K.cols ∧ t.2 ∈ nmsK D
def tieChk (K : Kd) (ahead : List Str) (t : Str × Str) : Bool := decide (t.1 ∈ K.cols) && decide (0 < plc t.1 K.cols) && decide (t.2 ∈ ahead)
def kdChk (K : Kd) (ahead : List Str) : Bool := decide (0 < K.cols.length) && decide (K.cols.length ≤ 4) && decide (K.ties.length ≤ 3) && decide K.cols.Nodup && decide (K.ties.map fun t => t.1).Nodup && K.ties.all (tieChk K ahead)
def schChk : List Str → List Kd → Bool
  | _, [] => true
  | ahead, K :: Ks => kdChk K ahead && !decide (K.nm ∈ ahead) && schChk (ahead ++ [K.nm]) Ks
theorem schChk_at : ∀ {D : List Kd} {ahead : List Str} {K : Kd} {rest : List Kd}, schChk ahead (D ++ K :: rest) = true → kdChk K (ahead ++ nmsK D) = true
  | [], ahead, K, rest, h => by
    simp only [List.nil_append, schChk, Bool.and_eq_true] at h
    rw [show nmsK [] = [] from rfl, List.append_nil]
    exact h.1.1
  | A :: D, ahead, K, rest, h => by
    simp only [List.cons_append, schChk, Bool.and_eq_true] at h
    have := schChk_at h.2
    rw [List.append_assoc] at this
    exact this
theorem schChk_nd : ∀ {Ks : List Kd} {ahead : List Str}, ahead.Nodup → schChk ahead Ks = true → (ahead ++ nmsK Ks).Nodup
  | [], ahead, h, _ => by rw [show nmsK [] = [] from rfl, List.append_nil]; exact h
  | K :: Ks, ahead, h, c => by
    simp only [schChk, Bool.and_eq_true, Bool.not_eq_true', decide_eq_false_iff_not] at c
    have h2 : (ahead ++ [K.nm]).Nodup := List.nodup_append.mpr ⟨h, by simp, fun a ha b hb e => by
      rw [List.mem_singleton.mp hb] at e
      exact c.1.2 (e ▸ ha)⟩
    have := schChk_nd h2 c.2
    rw [List.append_assoc] at this
    exact this
theorem kd_of {K : Kd} {ahead : List Str} (h : kdChk K ahead = true) : KOk K ∧ (K.cols.length ≤ 4 ∧ K.ties.length ≤ 3) ∧ (K.ties.map fun t => t.1).Nodup ∧ ∀ t ∈ K.ties, t.1 ∈ K.cols ∧ 0 < plc t.1 K.cols ∧ t.2 ∈ ahead := by
  simp only [kdChk, Bool.and_eq_true, decide_eq_true_eq] at h
  obtain ⟨⟨⟨⟨⟨h1, h2⟩, h3⟩, h4⟩, h6⟩, h5⟩ := h
  refine ⟨⟨h1, by omega, by omega, h4⟩, ⟨h2, h3⟩, h6, fun t ht => ?_⟩
  have := List.all_eq_true.mp h5 t ht
  simp only [tieChk, Bool.and_eq_true, decide_eq_true_eq] at this
  exact ⟨this.1.1, this.1.2, this.2⟩
theorem sch_of {Ks : List Kd} (hn : Ks.length ≤ 3) (h : schChk [] Ks = true) : SchOk Ks := by
  have g : ∀ D K rest, Ks = D ++ K :: rest → kdChk K (nmsK D) = true := fun D K rest e => by
    have := schChk_at (ahead := []) (e ▸ h)
    rwa [List.nil_append] at this
  refine ⟨hn, ?_, fun K hK => ?_, fun K hK => ?_, fun K hK => ?_, fun D K rest e => (kd_of (g D K rest e)).2.2.2⟩
  · have := schChk_nd (ahead := []) List.nodup_nil h
    rwa [List.nil_append] at this
  · obtain ⟨D, rest, e⟩ := List.append_of_mem hK
    exact (kd_of (g D K rest e)).1
  · obtain ⟨D, rest, e⟩ := List.append_of_mem hK
    exact (kd_of (g D K rest e)).2.1
  · obtain ⟨D, rest, e⟩ := List.append_of_mem hK
    exact (kd_of (g D K rest e)).2.2.1
theorem plc_cons {a x : Str} {xs : List Str} (h : a ∈ x :: xs) : plc a (x :: xs) = if x = a then 0 else plc a xs + 1 := by
  by_cases e : x = a
  · rw [if_pos e]
    unfold plc
    rw [idxF, if_pos e]; rfl
  · rw [if_neg e]
    have h2 := plc_some ((List.mem_cons.mp h).resolve_left fun z => e z.symm)
    show (idxF a (x :: xs)).getD 0 = _
    rw [idxF, if_neg e, h2]; rfl
theorem plc_app {a : Str} : ∀ {xs ys : List Str}, a ∈ xs → plc a (xs ++ ys) = plc a xs
  | [], _, h => nomatch h
  | x :: xs, ys, h => by
    rw [List.cons_append, plc_cons (by rw [← List.cons_append]; exact List.mem_append_left _ h), plc_cons h]
    by_cases e : x = a
    · rw [if_pos e, if_pos e]
    · rw [if_neg e, if_neg e, plc_app ((List.mem_cons.mp h).resolve_left fun z => e z.symm)]
theorem plc_inj {a b : Str} {xs : List Str} (ha : a ∈ xs) (hb : b ∈ xs) (e : plc a xs = plc b xs) : a = b := by
  have h1 := plc_get ha
  rw [e, plc_get hb] at h1
  injection h1 with h1
  exact h1.symm
def Lw (h : Int) (r : Row) : Prop := ∀ x ∈ rl r, 0 ≤ x ∧ x < h
theorem rl_set {p : Nat} (hp : 0 < p) (x : Int) (r : Row) : rl (setRow p x r) = (rl r).set p x := by
  obtain ⟨q, rfl⟩ : ∃ q, p = q + 1 := ⟨p - 1, by omega⟩
  simp only [rl, setRow, List.set_cons_succ, Nat.add_sub_cancel]
theorem lw_set {h : Int} {p : Nat} (hp : 0 < p) {x : Int} {r : Row} (hx : 0 ≤ x ∧ x < h) (hr : Lw h r) : Lw h (setRow p x r) := by
  intro y hy
  rw [rl_set hp] at hy
  rcases List.mem_or_eq_of_mem_set hy with hy | rfl
  · exact hr y hy
  · exact hx
theorem atC_same {K : Kd} {r : Row} {c : Str} {x : Int} (hp : 0 < plc c K.cols) (hl : plc c K.cols < r.2.length + 1) : atC K (setRow (plc c K.cols) x r) c = x := by
  rw [atC, rl_set hp, List.getD_eq_getElem?_getD, List.getElem?_set_self (by rw [rl_len]; exact hl)]; rfl
theorem atC_ne {K : Kd} {r : Row} {c : Str} {p : Nat} {x : Int} (hp : 0 < p) (h : plc c K.cols ≠ p) : atC K (setRow p x r) c = atC K r c := by
  rw [atC, rl_set hp, List.getD_eq_getElem?_getD, List.getElem?_set_ne (fun e => h e.symm), ← List.getD_eq_getElem?_getD]; rfl
def RsZ (Z : List Zt) : List (List Row) := Z.map fun z => z.2
structure StOk (Ks : List Kd) (m h : Int) (Z : List Zt) : Prop where
  ks : Z.map (fun z => z.1) = Ks
  ok : ZOk Z
  few : ∀ z ∈ Z, (z.2.length : Int) ≤ m
  ties : TiesOk Z
  kept : Kept Z
  low : ∀ z ∈ Z, ∀ r ∈ z.2, Lw h r
theorem eSk_S {Ks : List Kd} {m h : Int} {Z : List Zt} (H : StOk Ks m h Z) (b : Bool) : eSk b Ks = eS b Z := by
  rw [eSk, eS, ← H.ks, List.map_map]; rfl
theorem nmsK_Z (Z : List Zt) : nmsK (Z.map fun z => z.1) = nmsZ Z := by rw [nmsK, nmsZ, List.map_map]; rfl
theorem keysN_app {Z Y : List Zt} {a : Str} (h : a ∈ nmsZ Z) : keysN (Z ++ Y) a = keysN Z a := by
  obtain ⟨z, hz, e⟩ := nms_of h
  have : (Z.find? fun z => decide (z.1.nm = a)).isSome := by
    rw [List.find?_isSome]
    exact ⟨z, hz, decide_eq_true e⟩
  unfold keysN findZ
  rw [List.find?_append]
  obtain ⟨y, hy⟩ := Option.isSome_iff_exists.mp this
  rw [hy]; rfl
/-- a tie of a kind behind the store so far -/
structure TOk (Ks : List Kd) (Z : List Zt) (K : Kd) (t : Str × Str) : Prop where
  c : t.1 ∈ K.cols
  p : 0 < plc t.1 K.cols
  i : t.2 ∈ nmsK Ks
  o : ∃ R, (RsZ Z)[plc t.2 (nmsK Ks)]? = some R ∧ keysN Z t.2 = keysR R ∧ ∃ z ∈ Z, z.2 = R
theorem tok_of {Ks : List Kd} {Z : List Zt} {K : Kd} {rest : List Kd} (S : SchOk Ks) (e : (Z.map fun z => z.1) ++ K :: rest = Ks) {t : Str × Str} (ht : t ∈ K.ties) : TOk Ks Z K t := by
  obtain ⟨h1, h2, h3⟩ := S.t _ K rest e.symm t ht
  rw [nmsK_Z] at h3
  have hn : nmsK Ks = nmsZ Z ++ nmsK (K :: rest) := by rw [← e, nmsK, List.map_append, ← nmsK_Z]; rfl
  have nd : (Z.map fun z => z.1.nm).Nodup := by
    have := S.nd
    rw [hn] at this
    exact (List.nodup_append.mp this).1
  obtain ⟨z, hz, ez⟩ := nms_of h3
  refine ⟨h1, h2, by rw [hn]; exact List.mem_append_left _ h3, z.2, ?_, ?_, z, hz, rfl⟩
  · rw [hn, plc_app h3, ← ez, RsZ, List.getElem?_map]
    have := plc_of (f := fun z : Zt => z.1.nm) nd hz
    rw [show (Z.map fun z : Zt => z.1.nm) = nmsZ Z from rfl] at this
    rw [this]; rfl
  · rw [keysN, ← ez, findZ_in nd hz]; rfl
/-- the rows so far -/
structure RInv (Z : List Zt) (h : Int) (K : Kd) (R : List Row) : Prop where
  nd : (keysR R).Nodup
  wid : ∀ r ∈ R, r.2.length + 1 = K.cols.length
  low : ∀ r ∈ R, Lw h r
  ref : ∀ r ∈ R, ∀ t ∈ K.ties, atC K r t.1 ∈ keysN Z t.2
theorem row_ok {Z : List Zt} {h : Int} {K : Kd} {R : List Row} (H : RInv Z h K R) (hl : R.length ≤ 1000) : ROk K (srtR R) ∧ (srtR R).length = R.length := by
  have e := (srtR_perm R).length_eq
  exact ⟨⟨by omega, fun r hr => H.wid r ((srtR_perm R).mem_iff.mp hr), srtR_asc H.nd⟩, by omega⟩
end Mi
namespace Mi
open PySem
section
variable {c : Cfg} {s : Env} {r : MSs}
theorem s_try {b : MSs} {hs : List Hd} : exSs c (.cons (.try_ b hs) r) s = ((exSs c b s).catch fun k ds => hdGo s k ds hs).bd (aft (exSs c r)) := by
  rw [exSs, exS] <;> rfl
theorem ct_ret {α : Type} (a : α) (f : Nat → List D → M α) : (M.ret a).catch f = M.ret a := nr rfl
theorem ct_rs {α : Type} (k : Nat) (ds : List D) (f : Nat → List D → M α) : (M.raise k ds).catch f = f k ds := nr rfl
end
theorem len_R (b : Bool) (r : Row) : evBi .len (eR b r) = some (.int (r.2.length + 1 : Nat)) := by
  rw [eR, sq_len, List.length_map, rl_len]
theorem itm_Rs (b : Bool) (rs : List Row) : itemsOf (eRs b rs) = some (rs.map (eR b)) := by rw [eRs, sq_items]
theorem itm_R (b : Bool) (r : Row) : itemsOf (eR b r) = some ((rl r).map .int) := by rw [eR, sq_items]
theorem walk_R (b : Bool) (r : Row) : walkOf (eR b r) = some ((rl r).map .int) := by rw [eR, sq_walk]
theorem isI_R (b : Bool) (r : Row) : anyTy (eR b r) [.list, .tuple] = some true := by rw [eR, sq_any]
/-- what a change comes to -/
inductive Oc where
  | kind (a : Str) | unfit | taken (i : Int) | row (i : Int) | ok (L : List (List Row))
/-- as the program tells it -/
def Oc.m : Oc → M D
  | .kind a => M.raise 0 [.str a]
  | .unfit => M.raise 7 []
  | .taken i => M.raise 6 [.int i]
  | .row i => M.raise 2 [.int i]
  | .ok L => M.ret (.tup (L.map (eRs true)))
def miss (Z : List Zt) : List Pr → Option Int
  | [] => none
  | p :: ps => if p.2 ∈ keysN Z p.1 then miss Z ps else some p.2
def putO (Z : List Zt) (nm : Str) (row : List Int) : Oc := match findZ Z nm with
  | none => .kind nm
  | some z => if row.length = z.1.cols.length then (match row with
    | [] => .unfit
    | x :: l => if x ∈ keysR z.2 then .taken x else match miss Z (refsK z.1 (x, l)) with
      | some i => .row i
      | none => .ok (Z.map (pick nm (srtR (z.2 ++ [(x, l)]))))) else .unfit
def takeO (Z : List Zt) (nm : Str) (i : Int) : Oc := match findZ Z nm with
  | none => .kind nm
  | some z => if i ∈ keysR z.2 then (if refer Z (nm, i) = [] then .ok (Z.map (pick nm (srtR (z.2.filter fun r => !(r.1 == i))))) else .unfit) else .row i
theorem putO_no {Z : List Zt} {a : Str} (h : a ∉ nmsZ Z) (row : List Int) : putO Z a row = .kind a := by rw [putO, findZ_no h]
theorem takeO_no {Z : List Zt} {a : Str} (h : a ∉ nmsZ Z) (i : Int) : takeO Z a i = .kind a := by rw [takeO, findZ_no h]
theorem putO_in {Z : List Zt} (h : ZOk Z) {z : Zt} (hz : z ∈ Z) (x : Int) (l : List Int) (hw : l.length + 1 = z.1.cols.length) : putO Z z.1.nm (x :: l) = if x ∈ keysR z.2 then .taken x else match miss Z (refsK z.1 (x, l)) with
      | some i => .row i
      | none => .ok (Z.map (pick z.1.nm (srtR (z.2 ++ [(x, l)])))) := by
  rw [putO, findZ_in h.nd hz]
  simp only [List.length_cons]
  rw [if_pos hw]
theorem putO_un {Z : List Zt} (h : ZOk Z) {z : Zt} (hz : z ∈ Z) {row : List Int} (hw : row.length ≠ z.1.cols.length) : putO Z z.1.nm row = .unfit := by
  rw [putO, findZ_in h.nd hz]
  simp only
  rw [if_neg hw]
theorem takeO_in {Z : List Zt} (h : ZOk Z) {z : Zt} (hz : z ∈ Z) (i : Int) : takeO Z z.1.nm i = if i ∈ keysR z.2 then (if refer Z (z.1.nm, i) = [] then .ok (Z.map (pick z.1.nm (srtR (z.2.filter fun r => !(r.1 == i))))) else .unfit) else .row i := by
  rw [takeO, findZ_in h.nd hz]
theorem pure_tupZ (L : List (List Row)) : D.pure (.tup (L.map (eRs true))) = true := pure_T L
theorem key_row {rs : List Row} {i : Int} (h : i ∈ keysR rs) : ∃ r ∈ rs, r.1 = i := by
  obtain ⟨r, hr, e⟩ := List.mem_map.mp h
  exact ⟨r, hr, e⟩
theorem row_len (Z : List Zt) (h : ZOk Z) (z : Zt) (hz : z ∈ Z) : z.2.length ≤ 1000 := (h.r z hz).len
theorem refs_in {Z : List Zt} (T : TiesOk Z) {z : Zt} (hz : z ∈ Z) (r : Row) : ∀ p ∈ refsK z.1 r, p.1 ∈ nmsZ Z := fun p hp => by
  obtain ⟨t, ht, rfl⟩ := List.mem_map.mp hp
  exact (T z hz t ht).2
theorem rows_snoc (rs : List Row) (r : Row) : rs.map (eR true) ++ [eR true r] = (rs ++ [r]).map (eR true) := by rw [List.map_append]; rfl
def sKind : Str := ⟨#[107, 105, 110, 100]⟩
def sUnfit : Str := ⟨#[117, 110, 102, 105, 116]⟩
def sTaken : Str := ⟨#[116, 97, 107, 101, 110]⟩
def sRow : Str := ⟨#[114, 111, 119]⟩
def Oc.d : Oc → D
  | .kind a => .lst [.str sKind, .str a]
  | .unfit => .lst [.str sUnfit]
  | .taken i => .lst [.str sTaken, .int i]
  | .row i => .lst [.str sRow, .int i]
  | .ok L => .tup (L.map (eRs true))
theorem ev_rowsT {rs : List Row} (h : rs.length ≤ 10000000) : evBi .sort (eRs true rs) = some (.lst ((srtR rs).map (eR true))) := ev_rows h
theorem add_rows {rs : List Row} (h : rs.length ≤ 1000) (r : Row) : evOp .add (eRs true rs) (.tup [eR true r]) = some (eRs true (rs ++ [r])) := by
  show evOp .add (.tup (rs.map (eR true))) (.tup [eR true r]) = some (.tup ((rs ++ [r]).map (eR true)))
  rw [addT (by rw [List.length_map, List.length_singleton]; omega), rows_snoc]
def flw : Option D → Flow
  | some v => .rt v
  | none => .nx
theorem forGo_fs {α : Type} {t : MT} {dead : List Nat} {body : Env → M (Flow × Env)} {f : α → D} {g : α → Option D} (E : Env) :
    ∀ (xs : List α), (∀ x ∈ xs, ∃ s1 s2, bindT t (f x) E = some s1 ∧ body s1 = M.ret (flw (g x), s2) ∧ (g x = none → s2.kill dead = E)) →
      ∃ s', forGo t dead body (xs.map f) E = M.ret (flw (xs.findSome? g), s') ∧ (xs.findSome? g = none → s' = E)
  | [], _ => ⟨E, rfl, fun _ => rfl⟩
  | x :: xs, h => by
    obtain ⟨s1, s2, h1, h2, h3⟩ := h x (List.mem_cons_self ..)
    obtain ⟨s', h4, h5⟩ := forGo_fs E xs fun y hy => h y (List.mem_cons_of_mem _ hy)
    rw [List.map_cons, forGo_cons, h1, q_some, q_ret, h2, q_ret, List.findSome?_cons]
    cases e : g x with
    | some v => exact ⟨s2, rfl, fun z => nomatch z⟩
    | none =>
      refine ⟨s', ?_, h5⟩
      show forGo t dead body (xs.map f) (s2.kill dead) = _
      rw [h3 e]
      exact h4
theorem miss_fs (Z : List Zt) (K : Kd) (r : Row) (g : Int → D) : ∀ ts : List (Str × Str), (ts.findSome? fun t => if atC K r t.1 ∈ keysN Z t.2 then none else some (g (atC K r t.1))) = (miss Z (ts.map fun t => (t.2, atC K r t.1))).map g
  | [] => rfl
  | t :: ts => by
    rw [List.findSome?_cons, List.map_cons, miss]
    by_cases h : atC K r t.1 ∈ keysN Z t.2
    · rw [if_pos h, if_pos h]
      exact miss_fs Z K r g ts
    · rw [if_neg h, if_neg h]; rfl
theorem miss_none {Z : List Zt} : ∀ {ps : List Pr}, miss Z ps = none → ∀ p ∈ ps, p.2 ∈ keysN Z p.1
  | [], _, _, h => nomatch h
  | p :: ps, h, q, hq => by
    rw [miss] at h
    by_cases e : p.2 ∈ keysN Z p.1
    · rw [if_pos e] at h
      rcases List.mem_cons.mp hq with rfl | hq
      · exact e
      · exact miss_none h q hq
    · rw [if_neg e] at h
      cases h
/-- a row of a kind refers to a row -/
def hit (nm : Str) (i : Int) (z : Zt) (t : Str × Str) : Bool := decide (t.2 = nm) && decide (i ∈ z.2.map fun r => atC z.1 r t.1)
theorem hit_refer {Z : List Zt} {nm : Str} {i : Int} : (Z.any fun z => z.1.ties.any (hit nm i z)) = !decide (refer Z (nm, i) = []) := by
  rw [Bool.eq_iff_iff, List.any_eq_true, Bool.not_eq_true', decide_eq_false_iff_not]
  constructor
  · rintro ⟨z, hz, h⟩ e
    rw [List.any_eq_true] at h
    obtain ⟨t, ht, h⟩ := h
    rw [hit, Bool.and_eq_true, decide_eq_true_eq, decide_eq_true_eq] at h
    obtain ⟨h1, h2⟩ := h
    obtain ⟨r, hr, e2⟩ := List.mem_map.mp h2
    have h3 : (nm, i) ∈ refsK z.1 r := List.mem_map.mpr ⟨t, ht, by rw [h1, e2]⟩
    have h4 : (z.1.nm, r.1) ∈ refer Z (nm, i) := List.mem_map.mpr ⟨(z, r), List.mem_filter.mpr ⟨mem_allR hz hr, decide_eq_true h3⟩, rfl⟩
    rw [e] at h4
    cases h4
  · intro h
    apply Classical.byContradiction
    intro hn
    refine h (refer_nil fun z hz r hr hp => hn ⟨z, hz, ?_⟩)
    obtain ⟨t, ht, e⟩ := List.mem_map.mp hp
    injection e with e1 e2
    refine List.any_eq_true.mpr ⟨t, ht, ?_⟩
    rw [hit, Bool.and_eq_true, decide_eq_true_eq, decide_eq_true_eq]
    exact ⟨e1, List.mem_map.mpr ⟨r, hr, e2⟩⟩
theorem any_fs {α : Type} (p : α → Bool) (v : D) (xs : List α) : (xs.findSome? fun x => if p x = true then some v else none) = if xs.any p = true then some v else none := by
  induction xs with
  | nil => rfl
  | cons x xs ih =>
    rw [List.findSome?_cons, List.any_cons, ih]
    cases p x <;> rfl
theorem one_Z {Z : List Zt} (h : ZOk Z) {y z : Zt} (hy : y ∈ Z) (hz : z ∈ Z) (e : y.1.nm = z.1.nm) : y = z := by
  have h1 := at_Z h hy
  rw [e, at_Z h hz] at h1
  injection h1 with h1
  exact h1.symm
def withZ (nm : Str) (rs : List Row) (y : Zt) : Zt := (y.1, pick nm rs y)
theorem eS_with (b : Bool) (nm : Str) (rs : List Row) (Z : List Zt) : eS b (Z.map (withZ nm rs)) = eS b Z := by
  rw [eS, eS, List.map_map]; rfl
theorem eT_with (nm : Str) (rs : List Row) (Z : List Zt) : eT true (Z.map (withZ nm rs)) = .tup ((Z.map (pick nm rs)).map (eRs true)) := by
  rw [eT, sqT, List.map_map, List.map_map]; rfl
theorem nms_with (nm : Str) (rs : List Row) (Z : List Zt) : nmsZ (Z.map (withZ nm rs)) = nmsZ Z := by
  rw [nmsZ, nmsZ, List.map_map]; rfl
theorem ok_with {Z : List Zt} (h : ZOk Z) {z : Zt} (hz : z ∈ Z) {rs : List Row} (R : ROk z.1 rs) : ZOk (Z.map (withZ z.1.nm rs)) := by
  refine ⟨by rw [List.length_map]; exact h.n, ?_, fun y hy => ?_, fun y hy => ?_⟩
  · have := h.nd
    rw [List.map_map]; exact this
  · obtain ⟨q, hq, rfl⟩ := List.mem_map.mp hy
    exact h.k q hq
  · obtain ⟨q, hq, rfl⟩ := List.mem_map.mp hy
    show ROk q.1 (pick z.1.nm rs q)
    unfold pick
    by_cases e : q.1.nm = z.1.nm
    · rw [if_pos e, one_Z h hq hz e]; exact R
    · rw [if_neg e]; exact h.r q hq
theorem put_take {Z : List Zt} (h : ZOk Z) (T : TiesOk Z) (Kp : Kept Z) (few : ∀ z ∈ Z, z.2.length ≤ 900) {nm : Str} {row : List Int} {L : List (List Row)} (e : putO Z nm row = .ok L) :
    ∃ x l Z', row = x :: l ∧ ZOk Z' ∧ TiesOk Z' ∧ eS true Z' = eS true Z ∧ eT true Z' = .tup (L.map (eRs true)) ∧ takeO Z' nm x = .ok (Z.map fun z => z.2) := by
  by_cases hn : nm ∈ nmsZ Z
  · obtain ⟨z, hz, rfl⟩ := nms_of hn
    by_cases hw : row.length = z.1.cols.length
    · match row, hw, e with
      | [], hw, e =>
        have := (h.k z hz).c1
        simp only [List.length_nil] at hw
        omega
      | x :: l, hw, e =>
        simp only [List.length_cons] at hw
        rw [putO_in h hz x l hw] at e
        by_cases hk : x ∈ keysR z.2
        · rw [if_pos hk] at e; cases e
        · rw [if_neg hk] at e
          cases hm : miss Z (refsK z.1 (x, l)) with
          | some i => rw [hm] at e; cases e
          | none =>
            rw [hm] at e
            injection e with e
            have pm := srtR_perm (z.2 ++ [(x, l)])
            have nd : (keysR (z.2 ++ [(x, l)])).Nodup := by
              rw [keysR, List.map_append]
              refine List.nodup_append.mpr ⟨asc_nd (h.r z hz).asc, by simp, fun a ha b hb e => ?_⟩
              rw [List.mem_singleton.mp hb] at e
              have e : a = x := e
              subst e
              exact hk ha
            have asc := srtR_asc nd
            generalize hrs : srtR (z.2 ++ [(x, l)]) = rs at *
            have hl : rs.length = z.2.length + 1 := by rw [pm.length_eq, List.length_append]; rfl
            have R : ROk z.1 rs := ⟨by have := few z hz; omega, fun r hr => by
              rcases List.mem_append.mp (pm.mem_iff.mp hr) with hr | hr
              · exact (h.r z hz).wid r hr
              · rw [List.mem_singleton.mp hr]; exact hw, asc⟩
            have h' := ok_with h hz R
            have T' : TiesOk (Z.map (withZ z.1.nm rs)) := fun y hy t ht => by
              obtain ⟨q, hq, rfl⟩ := List.mem_map.mp hy
              rw [nms_with]
              exact T q hq t ht
            refine ⟨x, l, _, rfl, h', T', eS_with _ _ _ _, by rw [eT_with, ← e], ?_⟩
            have hz' : (z.1, rs) ∈ Z.map (withZ z.1.nm rs) := List.mem_map.mpr ⟨z, hz, by rw [withZ, pick, if_pos rfl]⟩
            have hx : x ∈ keysR rs := List.mem_map.mpr ⟨(x, l), pm.mem_iff.mpr (List.mem_append_right _ (List.mem_singleton.mpr rfl)), rfl⟩
            have hr : refer (Z.map (withZ z.1.nm rs)) (z.1.nm, x) = [] := refer_nil fun y hy r hr hp => by
              obtain ⟨q, hq, rfl⟩ := List.mem_map.mp hy
              have : x ∈ keysN Z z.1.nm := by
                by_cases e2 : q.1.nm = z.1.nm
                · have e3 := one_Z h hq hz e2
                  subst e3
                  simp only [withZ, pick, if_pos] at hr
                  rcases List.mem_append.mp (pm.mem_iff.mp hr) with hr | hr
                  · exact Kp q hq r hr _ hp
                  · rw [List.mem_singleton.mp hr] at hp
                    exact miss_none hm _ hp
                · simp only [withZ, pick, if_neg e2] at hr
                  exact Kp q hq r hr _ hp
              rw [keysN_in h hz] at this
              exact hk this
            rw [show z.1.nm = (z.1, rs).1.nm from rfl, takeO_in h' hz', if_pos hx, if_pos hr]
            congr 1
            rw [List.map_map]
            refine List.map_congr_left fun q hq => ?_
            show pick z.1.nm (srtR (rs.filter fun r => !(r.1 == x))) (q.1, pick z.1.nm rs q) = q.2
            have hf : rs.filter (fun r => !(r.1 == x)) = z.2 := by
              refine asc_eq ?_ (asc.sublist List.filter_sublist) (h.r z hz).asc
              refine (pm.filter _).trans ?_
              rw [List.filter_append, List.filter_eq_self.mpr, List.filter_eq_nil_iff.mpr, List.append_nil]
              · intro a ha
                rw [List.mem_singleton.mp ha]
                simp
              · intro a ha
                simp only [Bool.not_eq_true', beq_eq_false_iff_ne]
                intro e4
                exact hk (e4 ▸ List.mem_map_of_mem (f := fun r : Row => r.1) ha)
            unfold pick
            by_cases e2 : q.1.nm = z.1.nm
            · rw [if_pos e2, hf, srtR_id (h.r z hz).asc, one_Z h hq hz e2]
            · rw [if_neg e2, if_neg e2]
    · rw [putO_un h hz hw] at e; cases e
  · rw [putO_no hn] at e; cases e
mutual
theorem eqv_refl : ∀ (d : D), D.py d = true → D.eqv d d = true
  | .non, _ => rfl
  | .bl b, _ => by rw [D.eqv]; exact beq_self_eq_true b
  | .int i, _ => by rw [D.eqv]; exact beq_self_eq_true i
  | .str x, _ => decide_eq_true rfl
  | .lst xs, h => by rw [D.eqv]; exact eqvL_refl xs h
  | .tup xs, h => by rw [D.eqv]; exact eqvL_refl xs h
theorem eqvL_refl : ∀ (xs : List D), D.pyL xs = true → D.eqvL xs xs = true
  | [], _ => rfl
  | x :: xs, h => by
    rw [D.pyL, Bool.and_eq_true] at h
    rw [D.eqvL, eqv_refl x h.1, eqvL_refl xs h.2]; rfl
end
theorem eq_self' {d : D} (h : D.py d = true) (hd : D.dep d ≤ 60) : evOp .eq d d = some (.bl true) := by
  show (if D.cmp d d then some (D.bl (D.eqv d d)) else none) = _
  rw [D.cmp, h, eqv_refl d h, Nat.min_self, decide_eq_true hd]; rfl
theorem ne_self' {d : D} (h : D.py d = true) (hd : D.dep d ≤ 60) : evOp .ne d d = some (.bl false) := by
  show (if D.cmp d d then some (D.bl (!D.eqv d d)) else none) = _
  rw [D.cmp, h, eqv_refl d h, Nat.min_self, decide_eq_true hd]; rfl
theorem py_R : ∀ rs : List Row, D.pyL (rs.map (eR true)) = true ∧ D.depL (rs.map (eR true)) ≤ 2
  | [] => ⟨rfl, Nat.zero_le _⟩
  | r :: rs => by
    obtain ⟨h1, h2⟩ := py_R rs
    obtain ⟨h3, h4⟩ := row_py (rl r)
    refine ⟨?_, ?_⟩
    · rw [List.map_cons, D.pyL, h1, Bool.and_true]; exact h3
    · rw [List.map_cons, D.depL]
      have : D.dep (eR true r) ≤ 2 := by show D.depL _ + 1 ≤ 2; omega
      omega
theorem py_Rs : ∀ L : List (List Row), D.pyL (L.map (eRs true)) = true ∧ D.depL (L.map (eRs true)) ≤ 3
  | [] => ⟨rfl, Nat.zero_le _⟩
  | r :: rs => by
    obtain ⟨h1, h2⟩ := py_Rs rs
    obtain ⟨h3, h4⟩ := py_R r
    refine ⟨?_, ?_⟩
    · rw [List.map_cons, D.pyL, h1, Bool.and_true]; exact h3
    · rw [List.map_cons, D.depL]
      have : D.dep (eRs true r) ≤ 3 := by show D.depL _ + 1 ≤ 3; omega
      omega
theorem eT_L (Z : List Zt) : eT true Z = .tup ((RsZ Z).map (eRs true)) := by
  rw [eT, sqT, RsZ, List.map_map]; rfl
theorem ne_T (Z : List Zt) : evOp .ne (eT true Z) (eT true Z) = some (.bl false) := by
  rw [eT_L]
  obtain ⟨h1, h2⟩ := py_Rs (RsZ Z)
  exact ne_self' h1 (by show D.depL _ + 1 ≤ 60; omega)
theorem eq_T (Z : List Zt) : evOp .eq (eT true Z) (eT true Z) = some (.bl true) := by
  rw [eT_L]
  obtain ⟨h1, h2⟩ := py_Rs (RsZ Z)
  exact eq_self' h1 (by show D.depL _ + 1 ≤ 60; omega)
theorem add_S {Z : List Zt} (h : Z.length ≤ 10) (K : Kd) : evOp .add (eS true Z) (.tup [eK true K]) = some (.tup ((Z.map (fun z => z.1) ++ [K]).map (eK true))) := by
  rw [eS, sqT, addT (by rw [List.length_map, List.length_singleton]; omega), List.map_append, List.map_map]; rfl
theorem cut_less {xs : List Int} (b : Bool) (h : 0 < xs.length) : cut (xs.map D.int) none (some ((xs.length : Int) - (if b = true then 1 else 0))) = (xs.take (xs.length - (if b = true then 1 else 0))).map .int := by
  have : ((xs.length : Int) - (if b = true then 1 else 0)) = ((xs.length - (if b = true then 1 else 0) : Nat) : Int) := by
    cases b
    · simp
    · simp; omega
  rw [this, cut_to, List.map_take]
theorem tkd_fits {Z : List Zt} (h : ZOk Z) {nm : Str} {rs : List Row} (hl : rs.length ≤ 1000) (hw : ∀ r ∈ rs, r.2.length ≤ 1000) : fits 4 (.tup ((Z.map (pick nm rs)).map (eRs true))) = true := by
  refine fits_T 1 true (by rw [List.length_map]; have := h.n; omega) fun q hq => ?_
  obtain ⟨z, hz, rfl⟩ := List.mem_map.mp hq
  unfold pick
  split
  · exact ⟨hl, hw⟩
  · exact ⟨row_len Z h z hz, fun r hr => by have := (h.r z hz).wid r hr; have := (h.k z hz).c2; omega⟩
theorem putO_fits {Z : List Zt} (h : ZOk Z) (few : ∀ z ∈ Z, z.2.length ≤ 900) (nm : Str) (row : List Int) : fits 4 (putO Z nm row).d = true := by
  by_cases hn : nm ∈ nmsZ Z
  · obtain ⟨z, hz, rfl⟩ := nms_of hn
    by_cases hw : row.length = z.1.cols.length
    · match row, hw with
      | [], hw =>
        have := (h.k z hz).c1
        simp only [List.length_nil] at hw
        omega
      | x :: l, hw =>
        simp only [List.length_cons] at hw
        rw [putO_in h hz x l hw]
        by_cases hk : x ∈ keysR z.2
        · rw [if_pos hk]; rfl
        · rw [if_neg hk]
          cases hm : miss Z (refsK z.1 (x, l)) with
          | some i => rfl
          | none =>
            have pm := srtR_perm (z.2 ++ [(x, l)])
            have hf := few z hz
            refine tkd_fits h (by rw [pm.length_eq, List.length_append, List.length_singleton]; omega) fun r hr => ?_
            have hc := (h.k z hz).c2
            rcases List.mem_append.mp (pm.mem_iff.mp hr) with hr | hr
            · have := (h.r z hz).wid r hr; omega
            · rw [List.mem_singleton.mp hr]
              show l.length ≤ 1000
              omega
    · rw [putO_un h hz hw]; rfl
  · rw [putO_no hn]; rfl
theorem takeO_fits {Z : List Zt} (h : ZOk Z) (nm : Str) (i : Int) : fits 4 (takeO Z nm i).d = true := by
  by_cases hn : nm ∈ nmsZ Z
  · obtain ⟨z, hz, rfl⟩ := nms_of hn
    rw [takeO_in h hz]
    by_cases hk : i ∈ keysR z.2
    · rw [if_pos hk]
      by_cases hr : refer Z (z.1.nm, i) = []
      · rw [if_pos hr]
        have pm := srtR_perm (z.2.filter fun r => !(r.1 == i))
        have hl := row_len Z h z hz
        refine tkd_fits h (by rw [pm.length_eq]; exact Nat.le_trans (List.length_filter_le _ _) hl) fun r hr => ?_
        have hr := (List.mem_filter.mp (pm.mem_iff.mp hr)).1
        have hc := (h.k z hz).c2
        have := (h.r z hz).wid r hr
        omega
      · rw [if_neg hr]; rfl
    · rw [if_neg hk]; rfl
  · rw [takeO_no hn]; rfl
end Mi
set_option maxHeartbeats 0
namespace LK
open PySem PySem.Spec PyProof.Rows L2 Mi
def b_tupled : MSs := (.cons (.ret (.ite (.isi (.var 0) false [.list, .tuple]) (.bi .tuple (.comp (.call 0 (.cons false (.var 1) .nil)) (.slot 1) (.it (.var 0)) .nil [1])) (.var 0)))
 .nil)
def f_tupled : FD := ⟨⟨#[116, 117, 112, 108, 101, 100]⟩, [⟨#[116, 104, 105, 110, 103]⟩], [⟨#[116, 104, 105, 110, 103]⟩, ⟨#[111, 119, 110]⟩], .mini, false, b_tupled⟩
def b_kind_names : MSs := (.cons (.ret (.comp (.ix (.var 1) (.cst (.int 0))) (.slot 1) (.it (.var 0)) .nil [1]))
 .nil)
def f_kind_names : FD := ⟨⟨#[107, 105, 110, 100, 95, 110, 97, 109, 101, 115]⟩, [⟨#[115, 99, 104, 101, 109, 97]⟩], [⟨#[115, 99, 104, 101, 109, 97]⟩, ⟨#[107, 105, 110, 100]⟩], .mini, false, b_kind_names⟩
def b_check_kind : MSs := (.cons (.ite (.op .nin (.var 1) (.call 1 (.cons false (.var 0) .nil)))
 (.cons (.raise 0 (.cons false (.var 1) .nil))
 .nil)
 .nil)
 .nil)
def f_check_kind : FD := ⟨⟨#[99, 104, 101, 99, 107, 95, 107, 105, 110, 100]⟩, [⟨#[115, 99, 104, 101, 109, 97]⟩, ⟨#[110, 97, 109, 101]⟩], [⟨#[115, 99, 104, 101, 109, 97]⟩, ⟨#[110, 97, 109, 101]⟩], .mini, false, b_check_kind⟩
def b_kind_with : MSs := (.cons (.expr (.call 2 (.cons false (.var 0) (.cons false (.var 1) .nil))))
 (.cons (.ret (.ix (.call 0 (.cons false (.var 0) .nil)) (.idx false (.call 1 (.cons false (.var 0) .nil)) (.var 1))))
 .nil))
def f_kind_with : FD := ⟨⟨#[107, 105, 110, 100, 95, 119, 105, 116, 104]⟩, [⟨#[115, 99, 104, 101, 109, 97]⟩, ⟨#[110, 97, 109, 101]⟩], [⟨#[115, 99, 104, 101, 109, 97]⟩, ⟨#[110, 97, 109, 101]⟩], .mini, false, b_kind_with⟩
def b_rows_of : MSs := (.cons (.expr (.call 2 (.cons false (.var 0) (.cons false (.var 2) .nil))))
 (.cons (.ret (.ix (.call 0 (.cons false (.var 1) .nil)) (.idx false (.call 1 (.cons false (.var 0) .nil)) (.var 2))))
 .nil))
def f_rows_of : FD := ⟨⟨#[114, 111, 119, 115, 95, 111, 102]⟩, [⟨#[115, 99, 104, 101, 109, 97]⟩, ⟨#[115, 116, 111, 114, 101]⟩, ⟨#[110, 97, 109, 101]⟩], [⟨#[115, 99, 104, 101, 109, 97]⟩, ⟨#[115, 116, 111, 114, 101]⟩, ⟨#[110, 97, 109, 101]⟩], .mini, false, b_rows_of⟩
def b_row_with : MSs := (.cons (.asg false (.slot 4) (.comp (.var 5) (.slot 5) (.it (.call 4 (.cons false (.var 0) (.cons false (.var 1) (.cons false (.var 2) .nil))))) (.cons false (.op .eq (.ix (.var 5) (.cst (.int 0))) (.var 3)) .nil) [5]))
 (.cons (.ret (.ite (.op .gt (.bi .len (.var 4)) (.cst (.int 0))) (.ix (.var 4) (.cst (.int 0))) (.cst .non)))
 .nil))
def f_row_with : FD := ⟨⟨#[114, 111, 119, 95, 119, 105, 116, 104]⟩, [⟨#[115, 99, 104, 101, 109, 97]⟩, ⟨#[115, 116, 111, 114, 101]⟩, ⟨#[110, 97, 109, 101]⟩, ⟨#[107, 101, 121]⟩], [⟨#[115, 99, 104, 101, 109, 97]⟩, ⟨#[115, 116, 111, 114, 101]⟩, ⟨#[110, 97, 109, 101]⟩, ⟨#[107, 101, 121]⟩, ⟨#[102, 111, 117, 110, 100]⟩, ⟨#[114, 111, 119]⟩], .mini, false, b_row_with⟩
def b_checked_row : MSs := (.cons (.asg false (.slot 4) (.call 5 (.cons false (.var 0) (.cons false (.var 1) (.cons false (.var 2) (.cons false (.var 3) .nil))))))
 (.cons (.ite (.isN false (.var 4))
 (.cons (.raise 2 (.cons false (.var 3) .nil))
 .nil)
 .nil)
 (.cons (.ret (.var 4))
 .nil)))
def f_checked_row : FD := ⟨⟨#[99, 104, 101, 99, 107, 101, 100, 95, 114, 111, 119]⟩, [⟨#[115, 99, 104, 101, 109, 97]⟩, ⟨#[115, 116, 111, 114, 101]⟩, ⟨#[110, 97, 109, 101]⟩, ⟨#[107, 101, 121]⟩], [⟨#[115, 99, 104, 101, 109, 97]⟩, ⟨#[115, 116, 111, 114, 101]⟩, ⟨#[110, 97, 109, 101]⟩, ⟨#[107, 101, 121]⟩, ⟨#[114, 111, 119]⟩], .mini, false, b_checked_row⟩
def b_refers_to : MSs := (.cons (.asg false (.slot 3) (.call 3 (.cons false (.var 0) (.cons false (.var 1) .nil))))
 (.cons (.ret (.comp (.tup (.cons false (.var 5) (.cons false (.ix (.var 2) (.idx true (.ix (.var 3) (.cst (.int 1))) (.var 4))) .nil))) (.tup (.cons (.slot 4) (.cons (.slot 5) .nil))) (.it (.ix (.var 3) (.cst (.int 2)))) .nil [4, 5]))
 .nil))
def f_refers_to : FD := ⟨⟨#[114, 101, 102, 101, 114, 115, 95, 116, 111]⟩, [⟨#[115, 99, 104, 101, 109, 97]⟩, ⟨#[110, 97, 109, 101]⟩, ⟨#[114, 111, 119]⟩], [⟨#[115, 99, 104, 101, 109, 97]⟩, ⟨#[110, 97, 109, 101]⟩, ⟨#[114, 111, 119]⟩, ⟨#[107, 105, 110, 100]⟩, ⟨#[99, 111, 108, 117, 109, 110]⟩, ⟨#[111, 116, 104, 101, 114]⟩], .mini, false, b_refers_to⟩
def b_referrers : MSs := (.cons (.expr (.call 6 (.cons false (.var 0) (.cons false (.var 1) (.cons false (.var 2) (.cons false (.var 3) .nil))))))
 (.cons (.asg false (.slot 4) (.comp2 (.tup (.cons false (.var 6) (.cons false (.var 5) .nil))) (.tup (.cons (.slot 6) (.cons (.slot 7) .nil))) (.zip (.call 1 (.cons false (.var 0) .nil)) (.call 0 (.cons false (.var 1) .nil))) (.slot 5) (.it (.var 7)) .nil [6, 7, 5]))
 (.cons (.ret (.bi .tuple (.bi .sort (.comp (.tup (.cons false (.var 6) (.cons false (.ix (.var 5) (.cst (.int 0))) .nil))) (.tup (.cons (.slot 6) (.cons (.slot 5) .nil))) (.it (.var 4)) (.cons false (.op .inn (.tup (.cons false (.var 2) (.cons false (.var 3) .nil))) (.call 7 (.cons false (.var 0) (.cons false (.var 6) (.cons false (.var 5) .nil))))) .nil) [6, 5]))))
 .nil)))
def f_referrers : FD := ⟨⟨#[114, 101, 102, 101, 114, 114, 101, 114, 115]⟩, [⟨#[115, 99, 104, 101, 109, 97]⟩, ⟨#[115, 116, 111, 114, 101]⟩, ⟨#[110, 97, 109, 101]⟩, ⟨#[107, 101, 121]⟩], [⟨#[115, 99, 104, 101, 109, 97]⟩, ⟨#[115, 116, 111, 114, 101]⟩, ⟨#[110, 97, 109, 101]⟩, ⟨#[107, 101, 121]⟩, ⟨#[101, 118, 101, 114, 121]⟩, ⟨#[114, 111, 119]⟩, ⟨#[111, 119, 110]⟩, ⟨#[114, 111, 119, 115]⟩], .mini, false, b_referrers⟩
def b_with_rows : MSs := (.cons (.asg true (.slot 4) (.lst .nil))
 (.cons (.for_ (.tup (.cons (.slot 5) (.cons (.slot 6) .nil))) (.zip (.call 1 (.cons false (.var 0) .nil)) (.call 0 (.cons false (.var 1) .nil))) [5, 6]
 (.cons (.app 4 (.ite (.op .eq (.var 5) (.var 2)) (.bi .tuple (.bi .sort (.var 3))) (.var 6)))
 .nil))
 (.cons (.ret (.bi .tuple (.bor 4)))
 .nil)))
def f_with_rows : FD := ⟨⟨#[119, 105, 116, 104, 95, 114, 111, 119, 115]⟩, [⟨#[115, 99, 104, 101, 109, 97]⟩, ⟨#[115, 116, 111, 114, 101]⟩, ⟨#[110, 97, 109, 101]⟩, ⟨#[114, 111, 119, 115]⟩], [⟨#[115, 99, 104, 101, 109, 97]⟩, ⟨#[115, 116, 111, 114, 101]⟩, ⟨#[110, 97, 109, 101]⟩, ⟨#[114, 111, 119, 115]⟩, ⟨#[102, 111, 117, 110, 100]⟩, ⟨#[111, 119, 110]⟩, ⟨#[111, 116, 104, 101, 114, 115]⟩], .mini, false, b_with_rows⟩
def b_put_row : MSs := (.cons (.par 4 5 false false (.call 4 (.cons false (.var 0) (.cons false (.var 1) (.cons false (.var 2) .nil)))) (.call 0 (.cons false (.var 3) .nil)))
 (.cons (.ite (.op .ne (.bi .len (.var 5)) (.bi .len (.ix (.call 3 (.cons false (.var 0) (.cons false (.var 2) .nil))) (.cst (.int 1)))))
 (.cons (.raise 7 .nil)
 .nil)
 .nil)
 (.cons (.ite (.isN true (.call 5 (.cons false (.var 0) (.cons false (.var 1) (.cons false (.var 2) (.cons false (.ix (.var 5) (.cst (.int 0))) .nil))))))
 (.cons (.raise 6 (.cons false (.ix (.var 5) (.cst (.int 0))) .nil))
 .nil)
 .nil)
 (.cons (.for_ (.tup (.cons (.slot 6) (.cons (.slot 7) .nil))) (.it (.call 7 (.cons false (.var 0) (.cons false (.var 2) (.cons false (.var 5) .nil))))) [6, 7]
 (.cons (.expr (.call 6 (.cons false (.var 0) (.cons false (.var 1) (.cons false (.var 6) (.cons false (.var 7) .nil))))))
 .nil))
 (.cons (.ret (.call 9 (.cons false (.var 0) (.cons false (.var 1) (.cons false (.var 2) (.cons false (.lst (.cons true (.var 4) (.cons false (.var 5) .nil))) .nil))))))
 .nil)))))
def f_put_row : FD := ⟨⟨#[112, 117, 116, 95, 114, 111, 119]⟩, [⟨#[115, 99, 104, 101, 109, 97]⟩, ⟨#[115, 116, 111, 114, 101]⟩, ⟨#[110, 97, 109, 101]⟩, ⟨#[114, 111, 119]⟩], [⟨#[115, 99, 104, 101, 109, 97]⟩, ⟨#[115, 116, 111, 114, 101]⟩, ⟨#[110, 97, 109, 101]⟩, ⟨#[114, 111, 119]⟩, ⟨#[114, 111, 119, 115]⟩, ⟨#[111, 119, 110]⟩, ⟨#[111, 116, 104, 101, 114]⟩, ⟨#[107, 101, 121]⟩], .mini, false, b_put_row⟩
def b_take_row : MSs := (.cons (.ite (.op .gt (.bi .len (.call 8 (.cons false (.var 0) (.cons false (.var 1) (.cons false (.var 2) (.cons false (.var 3) .nil)))))) (.cst (.int 0)))
 (.cons (.raise 7 .nil)
 .nil)
 .nil)
 (.cons (.ret (.call 9 (.cons false (.var 0) (.cons false (.var 1) (.cons false (.var 2) (.cons false (.comp (.var 4) (.slot 4) (.it (.call 4 (.cons false (.var 0) (.cons false (.var 1) (.cons false (.var 2) .nil))))) (.cons false (.op .ne (.ix (.var 4) (.cst (.int 0))) (.var 3)) .nil) [4]) .nil))))))
 .nil))
def f_take_row : FD := ⟨⟨#[116, 97, 107, 101, 95, 114, 111, 119]⟩, [⟨#[115, 99, 104, 101, 109, 97]⟩, ⟨#[115, 116, 111, 114, 101]⟩, ⟨#[110, 97, 109, 101]⟩, ⟨#[107, 101, 121]⟩], [⟨#[115, 99, 104, 101, 109, 97]⟩, ⟨#[115, 116, 111, 114, 101]⟩, ⟨#[110, 97, 109, 101]⟩, ⟨#[107, 101, 121]⟩, ⟨#[114, 111, 119]⟩], .mini, false, b_take_row⟩
def b_l_box : MSs := (.cons (.asg false (.slot 2) (.ite (.op .lt (.var 1) (.bi .len (.var 0))) (.ix (.var 0) (.var 1)) (.cst (.int 0))))
 (.cons (.ret (.lst (.cons false (.op .mul (.bi .abs (.var 2)) (.bi .int (.op .ge (.bi .abs (.var 2)) (.op .pow (.cst (.int 10)) (.cst (.int 18)))))) (.cons false (.op .add (.op .add (.op .mod (.bi .int (.var 2)) (.cst (.int 2305843009213693951))) (.op .mul (.cst (.int 39373)) (.var 1))) (.cst (.int 36215))) (.cons false (.cst (.int 0)) .nil)))))
 .nil))
def f_l_box : FD := ⟨⟨#[95, 108, 97, 119, 95, 98, 111, 120]⟩, [⟨#[95, 108, 97, 119, 95, 115, 99, 114, 105, 112, 116]⟩, ⟨#[95, 108, 97, 119, 95, 107]⟩], [⟨#[95, 108, 97, 119, 95, 115, 99, 114, 105, 112, 116]⟩, ⟨#[95, 108, 97, 119, 95, 107]⟩, ⟨#[95, 108, 97, 119, 95, 103, 114, 97, 105, 110, 95, 115, 111]⟩], .mini, true, b_l_box⟩
def b_l_take : MSs := (.cons (.ite (.op .gt (.ix (.var 0) (.cst (.int 0))) (.cst (.int 0)))
 (.cons (.asg false (.slot 5) (.op .mod (.bi .int (.ix (.var 0) (.cst (.int 0)))) (.var 1)))
 (.cons (.bset 0 (.cst (.int 0)) (.op .fdiv (.ix (.var 0) (.cst (.int 0))) (.var 1)))
 (.cons (.ret (.var 5))
 .nil)))
 .nil)
 (.cons (.bset 0 (.cst (.int 2)) (.op .add (.ix (.var 0) (.cst (.int 2))) (.cst (.int 1))))
 (.cons (.asg false (.slot 2) (.op .mod (.bi .int (.op .mul (.op .add (.ix (.var 0) (.cst (.int 1))) (.op .mul (.cst (.int 48271)) (.ix (.var 0) (.cst (.int 2))))) (.op .add (.cst (.int 39373)) (.ix (.var 0) (.cst (.int 2)))))) (.cst (.int 2147483647))))
 (.cons (.asg false (.slot 3) (.op .add (.op .mod (.bi .int (.var 2)) (.cst (.int 40009))) (.cst (.int 7))))
 (.cons (.asg false (.slot 4) (.op .mod (.bi .int (.op .mul (.op .add (.op .add (.var 2) (.ix (.var 0) (.cst (.int 2)))) (.op .fdiv (.ix (.var 0) (.cst (.int 1))) (.cst (.int 1000003)))) (.var 3))) (.cst (.int 2147483629))))
 (.cons (.ret (.op .mod (.bi .int (.op .fdiv (.op .mod (.bi .int (.op .add (.op .mul (.var 4) (.cst (.int 48271))) (.var 2))) (.cst (.int 2147483587))) (.cst (.int 64)))) (.var 1)))
 .nil))))))
def f_l_take : FD := ⟨⟨#[95, 108, 97, 119, 95, 116, 97, 107, 101]⟩, [⟨#[95, 108, 97, 119, 95, 98, 111, 120, 95, 104, 101, 114, 101]⟩, ⟨#[95, 108, 97, 119, 95, 98, 101, 108, 111, 119, 95, 115, 111]⟩], [⟨#[95, 108, 97, 119, 95, 98, 111, 120, 95, 104, 101, 114, 101]⟩, ⟨#[95, 108, 97, 119, 95, 98, 101, 108, 111, 119, 95, 115, 111]⟩, ⟨#[95, 108, 97, 119, 95, 111, 110, 99, 101]⟩, ⟨#[95, 108, 97, 119, 95, 102, 97, 114, 95, 115, 111]⟩, ⟨#[95, 108, 97, 119, 95, 116, 119, 105, 99, 101, 95, 115, 111]⟩, ⟨#[95, 108, 97, 119, 95, 100, 114, 97, 119, 110, 95, 115, 111]⟩], .mini, false, b_l_take⟩
def b_l_cells : MSs := (.cons (.asg true (.slot 2) (.orE (.cons false (.bi .list (.sl (.var 0) .none (.some (.var 1)))) (.cons false (.lst (.cons false (.cst (.int 0)) .nil)) .nil))))
 (.cons (.for_ (.tup (.cons (.slot 3) (.cons (.slot 4) .nil))) (.enum (.sl (.var 0) (.some (.var 1)) (.some (.cst (.int 63))))) [3, 4, 5]
 (.cons (.asg false (.slot 5) (.op .mod (.bi .int (.var 3)) (.var 1)))
 (.cons (.seti 2 (.var 5) (.op .add (.ix (.bor 2) (.var 5)) (.op .mul (.var 4) (.op .add (.var 3) (.cst (.int 2))))))
 .nil)))
 (.cons (.share 2)
 (.cons (.ret (.var 2))
 .nil))))
def f_l_cells : FD := ⟨⟨#[95, 108, 97, 119, 95, 99, 101, 108, 108, 115]⟩, [⟨#[95, 108, 97, 119, 95, 115, 99, 114, 105, 112, 116]⟩, ⟨#[95, 108, 97, 119, 95, 109, 111, 115, 116, 95, 115, 111]⟩], [⟨#[95, 108, 97, 119, 95, 115, 99, 114, 105, 112, 116]⟩, ⟨#[95, 108, 97, 119, 95, 109, 111, 115, 116, 95, 115, 111]⟩, ⟨#[95, 108, 97, 119, 95, 99, 101, 108, 108, 115, 95, 104, 101, 114, 101]⟩, ⟨#[95, 108, 97, 119, 95, 107]⟩, ⟨#[95, 108, 97, 119, 95, 103, 114, 97, 105, 110, 95, 115, 111]⟩, ⟨#[95, 108, 97, 119, 95, 97, 116, 95, 115, 111]⟩], .mini, false, b_l_cells⟩
def b_l_of : MSs := (.cons (.ret (.ix (.var 1) (.call 13 (.cons false (.var 0) (.cons false (.bi .len (.var 1)) .nil)))))
 .nil)
def f_l_of : FD := ⟨⟨#[95, 108, 97, 119, 95, 111, 102]⟩, [⟨#[95, 108, 97, 119, 95, 98, 111, 120, 95, 104, 101, 114, 101]⟩, ⟨#[95, 108, 97, 119, 95, 112, 111, 111, 108, 95, 115, 111]⟩], [⟨#[95, 108, 97, 119, 95, 98, 111, 120, 95, 104, 101, 114, 101]⟩, ⟨#[95, 108, 97, 119, 95, 112, 111, 111, 108, 95, 115, 111]⟩], .mini, false, b_l_of⟩
def b_l_lists : MSs := (.cons (.ret (.ite (.isi (.var 0) false [.list, .tuple]) (.comp (.call 16 (.cons false (.var 1) .nil)) (.slot 1) (.it (.var 0)) .nil [1]) (.var 0)))
 .nil)
def f_l_lists : FD := ⟨⟨#[95, 108, 97, 119, 95, 108, 105, 115, 116, 115]⟩, [⟨#[95, 108, 97, 119, 95, 109, 97, 116, 116, 101, 114]⟩], [⟨#[95, 108, 97, 119, 95, 109, 97, 116, 116, 101, 114]⟩, ⟨#[95, 108, 97, 119, 95, 98, 105, 116]⟩], .mini, false, b_l_lists⟩
def b_l_same : MSs := (.cons (.ite (.isi (.var 1) false [.list, .tuple])
 (.cons (.ite (.orE (.cons false (.op .ne (.isi (.var 0) true [.list]) (.isi (.var 1) true [.list])) (.cons false (.op .ne (.isi (.var 0) true [.tuple]) (.isi (.var 1) true [.tuple])) .nil)))
 (.cons (.ret (.cst (.bl false)))
 .nil)
 .nil)
 (.cons (.ret (.andE (.cons false (.op .eq (.bi .len (.var 0)) (.bi .len (.var 1))) (.cons false (.bi .all (.comp (.call 17 (.cons false (.var 2) (.cons false (.var 3) .nil))) (.tup (.cons (.slot 2) (.cons (.slot 3) .nil))) (.zip (.var 0) (.var 1)) .nil [2, 3])) .nil))))
 .nil))
 .nil)
 (.cons (.ite (.orE (.cons false (.isN false (.var 1)) (.cons false (.isi (.var 1) false [.bool, .str]) .nil)))
 (.cons (.ret (.andE (.cons false (.op .eq (.var 0) (.var 1)) (.cons false (.op .eq (.isi (.var 0) true [.bool]) (.isi (.var 1) true [.bool])) (.cons false (.op .eq (.isN false (.var 0)) (.isN false (.var 1))) .nil)))))
 .nil)
 .nil)
 (.cons (.ret (.andE (.cons false (.isi (.var 0) true [.int]) (.cons false (.notE (.isi (.var 0) true [.bool])) (.cons false (.op .eq (.var 0) (.var 1)) .nil)))))
 .nil)))
def f_l_same : FD := ⟨⟨#[95, 108, 97, 119, 95, 115, 97, 109, 101]⟩, [⟨#[95, 108, 97, 119, 95, 103, 111, 116]⟩, ⟨#[95, 108, 97, 119, 95, 100, 117, 101, 95, 115, 111]⟩], [⟨#[95, 108, 97, 119, 95, 103, 111, 116]⟩, ⟨#[95, 108, 97, 119, 95, 100, 117, 101, 95, 115, 111]⟩, ⟨#[95, 108, 97, 119, 95, 111, 119, 110]⟩, ⟨#[95, 108, 97, 119, 95, 102, 97, 114, 95, 115, 111]⟩], .mini, false, b_l_same⟩
def b_l_spot : MSs := (.cons (.ret (.ix (.comp (.var 2) (.tup (.cons (.slot 2) (.cons (.slot 3) .nil))) (.enum (.var 0)) (.cons false (.op .eq (.var 3) (.var 1)) .nil) [2, 3]) (.cst (.int 0))))
 .nil)
def f_l_spot : FD := ⟨⟨#[95, 108, 97, 119, 95, 115, 112, 111, 116]⟩, [⟨#[95, 108, 97, 119, 95, 115, 111, 109, 101]⟩, ⟨#[95, 108, 97, 119, 95, 111, 119, 110]⟩], [⟨#[95, 108, 97, 119, 95, 115, 111, 109, 101]⟩, ⟨#[95, 108, 97, 119, 95, 111, 119, 110]⟩, ⟨#[95, 108, 97, 119, 95, 107]⟩, ⟨#[95, 108, 97, 119, 95, 98, 105, 116]⟩], .mini, false, b_l_spot⟩
def b_l_schema : MSs := (.cons (.asg false (.slot 2) (.tup (.cons false (.cst (.str ⟨#[100, 101, 112, 116]⟩)) (.cons false (.sl (.tup (.cons false (.cst (.str ⟨#[105, 100]⟩)) (.cons false (.cst (.str ⟨#[110, 97, 109, 101]⟩)) .nil))) .none (.some (.op .add (.cst (.int 1)) (.call 13 (.cons false (.var 0) (.cons false (.cst (.int 2)) .nil)))))) (.cons false (.tup .nil) .nil)))))
 (.cons (.ite (.notE (.var 1))
 (.cons (.ret (.tup (.cons false (.var 2) .nil)))
 .nil)
 .nil)
 (.cons (.asg false (.slot 3) (.ix (.tup (.cons false (.tup (.cons false (.tup (.cons false (.cst (.str ⟨#[100, 101, 112, 116]⟩)) (.cons false (.cst (.str ⟨#[100, 101, 112, 116]⟩)) .nil))) .nil)) (.cons false (.tup .nil) .nil))) (.call 13 (.cons false (.var 0) (.cons false (.cst (.int 2)) .nil)))))
 (.cons (.ret (.tup (.cons false (.var 2) (.cons false (.tup (.cons false (.cst (.str ⟨#[101, 109, 112]⟩)) (.cons false (.sl (.tup (.cons false (.cst (.str ⟨#[105, 100]⟩)) (.cons false (.cst (.str ⟨#[100, 101, 112, 116]⟩)) (.cons false (.cst (.str ⟨#[112, 97, 121]⟩)) .nil)))) .none (.some (.op .add (.cst (.int 2)) (.call 13 (.cons false (.var 0) (.cons false (.cst (.int 2)) .nil)))))) (.cons false (.var 3) .nil)))) .nil))))
 .nil))))
def f_l_schema : FD := ⟨⟨#[95, 108, 97, 119, 95, 115, 99, 104, 101, 109, 97]⟩, [⟨#[95, 108, 97, 119, 95, 98, 111, 120, 95, 104, 101, 114, 101]⟩, ⟨#[95, 108, 97, 119, 95, 116, 119, 111, 95, 115, 111]⟩], [⟨#[95, 108, 97, 119, 95, 98, 111, 120, 95, 104, 101, 114, 101]⟩, ⟨#[95, 108, 97, 119, 95, 116, 119, 111, 95, 115, 111]⟩, ⟨#[95, 108, 97, 119, 95, 100, 101, 112, 116, 95, 115, 111]⟩, ⟨#[95, 108, 97, 119, 95, 116, 105, 101, 115, 95, 115, 111]⟩], .mini, false, b_l_schema⟩
def b_l_store : MSs := (.cons (.asg true (.slot 4) (.lst .nil))
 (.cons (.for_ (.tup (.cons (.slot 5) (.cons (.slot 6) (.cons (.slot 7) .nil)))) (.it (.var 1)) [5, 6, 7, 8, 9, 10]
 (.cons (.par 9 10 true true (.lst .nil) (.lst .nil))
 (.cons (.for_ (.slot 8) (.range (.call 13 (.cons false (.var 0) (.cons false (.op .add (.var 2) (.cst (.int 1))) .nil)))) [8, 11, 12, 13, 14]
 (.cons (.asg true (.slot 11) (.comp (.call 13 (.cons false (.var 0) (.cons false (.var 3) .nil))) (.slot 17) (.it (.var 6)) .nil [17]))
 (.cons (.asg false (.slot 12) (.op .nin (.ix (.bor 11) (.cst (.int 0))) (.bor 10)))
 (.cons (.for_ (.tup (.cons (.slot 13) (.cons (.slot 14) .nil))) (.it (.var 7)) [13, 14, 15, 16]
 (.cons (.asg false (.slot 15) (.call 18 (.cons false (.comp (.ix (.var 17) (.cst (.int 0))) (.slot 17) (.it (.var 1)) .nil [17]) (.cons false (.var 14) .nil))))
 (.cons (.asg false (.slot 16) (.comp (.ix (.var 17) (.cst (.int 0))) (.slot 17) (.it (.ix (.bor 4) (.var 15))) .nil [17]))
 (.cons (.ite (.op .eq (.var 16) (.lst .nil))
 (.cons (.asg false (.slot 12) (.cst (.bl false)))
 .nil)
 (.cons (.seti 11 (.call 18 (.cons false (.var 6) (.cons false (.var 13) .nil))) (.call 15 (.cons false (.var 0) (.cons false (.var 16) .nil))))
 .nil))
 .nil))))
 (.cons (.ite (.var 12)
 (.cons (.app 9 (.bi .tuple (.bor 11)))
 (.cons (.app 10 (.ix (.bor 11) (.cst (.int 0))))
 .nil))
 .nil)
 .nil)))))
 (.cons (.app 4 (.bi .tuple (.bi .sort (.bor 9))))
 .nil))))
 (.cons (.ret (.bi .tuple (.bor 4)))
 .nil)))
def f_l_store : FD := ⟨⟨#[95, 108, 97, 119, 95, 115, 116, 111, 114, 101]⟩, [⟨#[95, 108, 97, 119, 95, 98, 111, 120, 95, 104, 101, 114, 101]⟩, ⟨#[95, 108, 97, 119, 95, 115, 99, 104, 101, 109, 97, 95, 115, 111]⟩, ⟨#[95, 108, 97, 119, 95, 109, 97, 110, 121, 95, 115, 111]⟩, ⟨#[95, 108, 97, 119, 95, 104, 105, 103, 104, 95, 115, 111]⟩], [⟨#[95, 108, 97, 119, 95, 98, 111, 120, 95, 104, 101, 114, 101]⟩, ⟨#[95, 108, 97, 119, 95, 115, 99, 104, 101, 109, 97, 95, 115, 111]⟩, ⟨#[95, 108, 97, 119, 95, 109, 97, 110, 121, 95, 115, 111]⟩, ⟨#[95, 108, 97, 119, 95, 104, 105, 103, 104, 95, 115, 111]⟩, ⟨#[95, 108, 97, 119, 95, 102, 111, 117, 110, 100]⟩, ⟨#[95, 108, 97, 119, 95, 110, 97, 109, 101, 95, 115, 111]⟩, ⟨#[95, 108, 97, 119, 95, 99, 111, 108, 117, 109, 110, 115, 95, 115, 111]⟩, ⟨#[95, 108, 97, 119, 95, 116, 105, 101, 115, 95, 115, 111]⟩, ⟨#[95, 108, 97, 119, 95, 116, 117, 114, 110]⟩, ⟨#[95, 108, 97, 119, 95, 114, 111, 119, 115, 95, 115, 111]⟩, ⟨#[95, 108, 97, 119, 95, 107, 101, 121, 115, 95, 115, 111]⟩, ⟨#[95, 108, 97, 119, 95, 114, 111, 119, 95, 115, 111]⟩, ⟨#[95, 108, 97, 119, 95, 103, 111, 111, 100, 95, 115, 111]⟩, ⟨#[95, 108, 97, 119, 95, 99, 111, 108, 117, 109, 110, 95, 115, 111]⟩, ⟨#[95, 108, 97, 119, 95, 111, 116, 104, 101, 114, 95, 115, 111]⟩, ⟨#[95, 108, 97, 119, 95, 115, 112, 111, 116, 95, 115, 111]⟩, ⟨#[95, 108, 97, 119, 95, 115, 111, 109, 101]⟩, ⟨#[95, 108, 97, 119, 95, 111, 119, 110]⟩], .mini, false, b_l_store⟩
def b_l_with : MSs := (.cons (.asg true (.slot 4) (.lst .nil))
 (.cons (.for_ (.tup (.cons (.slot 5) (.cons (.slot 6) .nil))) (.zip (.var 0) (.var 1)) [5, 6]
 (.cons (.app 4 (.ite (.op .eq (.ix (.var 5) (.cst (.int 0))) (.var 2)) (.bi .tuple (.bi .sort (.var 3))) (.var 6)))
 .nil))
 (.cons (.ret (.bi .tuple (.bor 4)))
 .nil)))
def f_l_with : FD := ⟨⟨#[95, 108, 97, 119, 95, 119, 105, 116, 104]⟩, [⟨#[95, 108, 97, 119, 95, 115, 99, 104, 101, 109, 97, 95, 115, 111]⟩, ⟨#[95, 108, 97, 119, 95, 115, 116, 111, 114, 101, 95, 115, 111]⟩, ⟨#[95, 108, 97, 119, 95, 116, 97, 103, 95, 115, 111]⟩, ⟨#[95, 108, 97, 119, 95, 114, 111, 119, 115, 95, 115, 111]⟩], [⟨#[95, 108, 97, 119, 95, 115, 99, 104, 101, 109, 97, 95, 115, 111]⟩, ⟨#[95, 108, 97, 119, 95, 115, 116, 111, 114, 101, 95, 115, 111]⟩, ⟨#[95, 108, 97, 119, 95, 116, 97, 103, 95, 115, 111]⟩, ⟨#[95, 108, 97, 119, 95, 114, 111, 119, 115, 95, 115, 111]⟩, ⟨#[95, 108, 97, 119, 95, 102, 111, 117, 110, 100]⟩, ⟨#[95, 108, 97, 119, 95, 107, 105, 110, 100, 95, 115, 111]⟩, ⟨#[95, 108, 97, 119, 95, 111, 119, 110]⟩], .mini, false, b_l_with⟩
def b_l_keys : MSs := (.cons (.ret (.comp (.ix (.var 3) (.cst (.int 0))) (.slot 3) (.it (.ix (.var 1) (.call 18 (.cons false (.comp (.ix (.var 4) (.cst (.int 0))) (.slot 4) (.it (.var 0)) .nil [4]) (.cons false (.var 2) .nil))))) .nil [3]))
 .nil)
def f_l_keys : FD := ⟨⟨#[95, 108, 97, 119, 95, 107, 101, 121, 115]⟩, [⟨#[95, 108, 97, 119, 95, 115, 99, 104, 101, 109, 97, 95, 115, 111]⟩, ⟨#[95, 108, 97, 119, 95, 115, 116, 111, 114, 101, 95, 115, 111]⟩, ⟨#[95, 108, 97, 119, 95, 116, 97, 103, 95, 115, 111]⟩], [⟨#[95, 108, 97, 119, 95, 115, 99, 104, 101, 109, 97, 95, 115, 111]⟩, ⟨#[95, 108, 97, 119, 95, 115, 116, 111, 114, 101, 95, 115, 111]⟩, ⟨#[95, 108, 97, 119, 95, 116, 97, 103, 95, 115, 111]⟩, ⟨#[95, 108, 97, 119, 95, 111, 119, 110]⟩, ⟨#[95, 108, 97, 119, 95, 98, 105, 116]⟩], .mini, false, b_l_keys⟩
def b_l_due_put : MSs := (.cons (.ite (.op .nin (.var 2) (.comp (.ix (.var 8) (.cst (.int 0))) (.slot 8) (.it (.var 0)) .nil [8]))
 (.cons (.ret (.lst (.cons false (.cst (.str ⟨#[107, 105, 110, 100]⟩)) (.cons false (.var 2) .nil))))
 .nil)
 .nil)
 (.cons (.asg false (.slot 4) (.call 18 (.cons false (.comp (.ix (.var 8) (.cst (.int 0))) (.slot 8) (.it (.var 0)) .nil [8]) (.cons false (.var 2) .nil))))
 (.cons (.ite (.op .ne (.bi .len (.var 3)) (.bi .len (.ix (.ix (.var 0) (.var 4)) (.cst (.int 1)))))
 (.cons (.ret (.lst (.cons false (.cst (.str ⟨#[117, 110, 102, 105, 116]⟩)) .nil)))
 .nil)
 .nil)
 (.cons (.ite (.op .inn (.ix (.var 3) (.cst (.int 0))) (.call 22 (.cons false (.var 0) (.cons false (.var 1) (.cons false (.var 2) .nil)))))
 (.cons (.ret (.lst (.cons false (.cst (.str ⟨#[116, 97, 107, 101, 110]⟩)) (.cons false (.ix (.var 3) (.cst (.int 0))) .nil))))
 .nil)
 .nil)
 (.cons (.for_ (.tup (.cons (.slot 5) (.cons (.slot 6) .nil))) (.it (.ix (.ix (.var 0) (.var 4)) (.cst (.int 2)))) [5, 6, 7]
 (.cons (.asg false (.slot 7) (.ix (.var 3) (.call 18 (.cons false (.ix (.ix (.var 0) (.var 4)) (.cst (.int 1))) (.cons false (.var 5) .nil)))))
 (.cons (.ite (.op .nin (.var 7) (.call 22 (.cons false (.var 0) (.cons false (.var 1) (.cons false (.var 6) .nil)))))
 (.cons (.ret (.lst (.cons false (.cst (.str ⟨#[114, 111, 119]⟩)) (.cons false (.var 7) .nil))))
 .nil)
 .nil)
 .nil)))
 (.cons (.ret (.call 21 (.cons false (.var 0) (.cons false (.var 1) (.cons false (.var 2) (.cons false (.op .add (.ix (.var 1) (.var 4)) (.tup (.cons false (.var 3) .nil))) .nil))))))
 .nil))))))
def f_l_due_put : FD := ⟨⟨#[95, 108, 97, 119, 95, 100, 117, 101, 95, 112, 117, 116]⟩, [⟨#[95, 108, 97, 119, 95, 115, 99, 104, 101, 109, 97, 95, 115, 111]⟩, ⟨#[95, 108, 97, 119, 95, 115, 116, 111, 114, 101, 95, 115, 111]⟩, ⟨#[95, 108, 97, 119, 95, 116, 97, 103, 95, 115, 111]⟩, ⟨#[95, 108, 97, 119, 95, 114, 111, 119, 95, 115, 111]⟩], [⟨#[95, 108, 97, 119, 95, 115, 99, 104, 101, 109, 97, 95, 115, 111]⟩, ⟨#[95, 108, 97, 119, 95, 115, 116, 111, 114, 101, 95, 115, 111]⟩, ⟨#[95, 108, 97, 119, 95, 116, 97, 103, 95, 115, 111]⟩, ⟨#[95, 108, 97, 119, 95, 114, 111, 119, 95, 115, 111]⟩, ⟨#[95, 108, 97, 119, 95, 107]⟩, ⟨#[95, 108, 97, 119, 95, 99, 111, 108, 117, 109, 110, 95, 115, 111]⟩, ⟨#[95, 108, 97, 119, 95, 111, 116, 104, 101, 114, 95, 115, 111]⟩, ⟨#[95, 108, 97, 119, 95, 107, 101, 121, 95, 115, 111]⟩, ⟨#[95, 108, 97, 119, 95, 111, 119, 110]⟩], .mini, false, b_l_due_put⟩
def b_l_due_take : MSs := (.cons (.ite (.op .nin (.var 2) (.comp (.ix (.var 10) (.cst (.int 0))) (.slot 10) (.it (.var 0)) .nil [10]))
 (.cons (.ret (.lst (.cons false (.cst (.str ⟨#[107, 105, 110, 100]⟩)) (.cons false (.var 2) .nil))))
 .nil)
 .nil)
 (.cons (.ite (.op .nin (.var 3) (.call 22 (.cons false (.var 0) (.cons false (.var 1) (.cons false (.var 2) .nil)))))
 (.cons (.ret (.lst (.cons false (.cst (.str ⟨#[114, 111, 119]⟩)) (.cons false (.var 3) .nil))))
 .nil)
 .nil)
 (.cons (.for_ (.tup (.cons (.slot 5) (.cons (.slot 6) .nil))) (.zip (.var 0) (.var 1)) [5, 6, 7, 8]
 (.cons (.for_ (.tup (.cons (.slot 7) (.cons (.slot 8) .nil))) (.it (.ix (.var 5) (.cst (.int 2)))) [7, 8, 9]
 (.cons (.asg false (.slot 9) (.call 18 (.cons false (.ix (.var 5) (.cst (.int 1))) (.cons false (.var 7) .nil))))
 (.cons (.ite (.andE (.cons false (.op .eq (.var 8) (.var 2)) (.cons false (.op .inn (.var 3) (.comp (.ix (.var 10) (.var 9)) (.slot 10) (.it (.var 6)) .nil [10])) .nil)))
 (.cons (.ret (.lst (.cons false (.cst (.str ⟨#[117, 110, 102, 105, 116]⟩)) .nil)))
 .nil)
 .nil)
 .nil)))
 .nil))
 (.cons (.asg false (.slot 4) (.call 18 (.cons false (.comp (.ix (.var 10) (.cst (.int 0))) (.slot 10) (.it (.var 0)) .nil [10]) (.cons false (.var 2) .nil))))
 (.cons (.ret (.call 21 (.cons false (.var 0) (.cons false (.var 1) (.cons false (.var 2) (.cons false (.comp (.var 10) (.slot 10) (.it (.ix (.var 1) (.var 4))) (.cons false (.op .ne (.ix (.var 10) (.cst (.int 0))) (.var 3)) .nil) [10]) .nil))))))
 .nil)))))
def f_l_due_take : FD := ⟨⟨#[95, 108, 97, 119, 95, 100, 117, 101, 95, 116, 97, 107, 101]⟩, [⟨#[95, 108, 97, 119, 95, 115, 99, 104, 101, 109, 97, 95, 115, 111]⟩, ⟨#[95, 108, 97, 119, 95, 115, 116, 111, 114, 101, 95, 115, 111]⟩, ⟨#[95, 108, 97, 119, 95, 116, 97, 103, 95, 115, 111]⟩, ⟨#[95, 108, 97, 119, 95, 107, 101, 121, 95, 115, 111]⟩], [⟨#[95, 108, 97, 119, 95, 115, 99, 104, 101, 109, 97, 95, 115, 111]⟩, ⟨#[95, 108, 97, 119, 95, 115, 116, 111, 114, 101, 95, 115, 111]⟩, ⟨#[95, 108, 97, 119, 95, 116, 97, 103, 95, 115, 111]⟩, ⟨#[95, 108, 97, 119, 95, 107, 101, 121, 95, 115, 111]⟩, ⟨#[95, 108, 97, 119, 95, 107]⟩, ⟨#[95, 108, 97, 119, 95, 107, 105, 110, 100, 95, 115, 111]⟩, ⟨#[95, 108, 97, 119, 95, 114, 111, 119, 115, 95, 115, 111]⟩, ⟨#[95, 108, 97, 119, 95, 99, 111, 108, 117, 109, 110, 95, 115, 111]⟩, ⟨#[95, 108, 97, 119, 95, 111, 116, 104, 101, 114, 95, 115, 111]⟩, ⟨#[95, 108, 97, 119, 95, 97, 116, 95, 115, 111]⟩, ⟨#[95, 108, 97, 119, 95, 111, 119, 110]⟩], .mini, false, b_l_due_take⟩
def b_l_heard : MSs := (.cons (.asg false (.slot 4) (.cst .non))
 (.cons (.try_ (.cons (.ite (.isi (.var 3) false [.list, .tuple])
 (.cons (.ret (.call 10 (.cons false (.var 0) (.cons false (.var 1) (.cons false (.var 2) (.cons false (.var 3) .nil))))))
 .nil)
 .nil)
 (.cons (.ret (.call 11 (.cons false (.var 0) (.cons false (.var 1) (.cons false (.var 2) (.cons false (.var 3) .nil))))))
 .nil)) [⟨0, (some 5), false, 4, (.lst [(.cst (.str ⟨#[107, 105, 110, 100]⟩)), (.fld ⟨#[110, 97, 109, 101]⟩)])⟩, ⟨7, (some 5), false, 4, (.ite (.isi .valueError) (.lst [(.cst (.str ⟨#[117, 110, 102, 105, 116]⟩))]) (.one (.cst .non)))⟩, ⟨6, (some 5), false, 4, (.lst [(.cst (.str ⟨#[116, 97, 107, 101, 110]⟩)), (.fld ⟨#[107, 101, 121]⟩)])⟩, ⟨2, (some 5), false, 4, (.lst [(.cst (.str ⟨#[114, 111, 119]⟩)), (.fld ⟨#[107, 101, 121]⟩)])⟩])
 (.cons (.ret (.var 4))
 .nil)))
def f_l_heard : FD := ⟨⟨#[95, 108, 97, 119, 95, 104, 101, 97, 114, 100]⟩, [⟨#[95, 108, 97, 119, 95, 115, 99, 104, 101, 109, 97, 95, 115, 111]⟩, ⟨#[95, 108, 97, 119, 95, 115, 116, 111, 114, 101, 95, 115, 111]⟩, ⟨#[95, 108, 97, 119, 95, 116, 97, 103, 95, 115, 111]⟩, ⟨#[95, 108, 97, 119, 95, 119, 104, 97, 116, 95, 115, 111]⟩], [⟨#[95, 108, 97, 119, 95, 115, 99, 104, 101, 109, 97, 95, 115, 111]⟩, ⟨#[95, 108, 97, 119, 95, 115, 116, 111, 114, 101, 95, 115, 111]⟩, ⟨#[95, 108, 97, 119, 95, 116, 97, 103, 95, 115, 111]⟩, ⟨#[95, 108, 97, 119, 95, 119, 104, 97, 116, 95, 115, 111]⟩, ⟨#[95, 108, 97, 119, 95, 99, 97, 117, 103, 104, 116]⟩, ⟨#[101, 114, 114, 111, 114]⟩], .mini, false, b_l_heard⟩
def b_l_three : MSs := (.cons (.asg false (.slot 0) (.tup (.cons false (.tup (.cons false (.cst (.str ⟨#[97]⟩)) (.cons false (.tup (.cons false (.cst (.str ⟨#[105, 100]⟩)) .nil)) (.cons false (.tup .nil) .nil)))) (.cons false (.tup (.cons false (.cst (.str ⟨#[98]⟩)) (.cons false (.tup (.cons false (.cst (.str ⟨#[107, 101, 121]⟩)) (.cons false (.cst (.str ⟨#[112]⟩)) (.cons false (.cst (.str ⟨#[113]⟩)) .nil)))) (.cons false (.tup (.cons false (.tup (.cons false (.cst (.str ⟨#[112]⟩)) (.cons false (.cst (.str ⟨#[97]⟩)) .nil))) .nil)) .nil)))) (.cons false (.tup (.cons false (.cst (.str ⟨#[99, 99]⟩)) (.cons false (.tup (.cons false (.cst (.str ⟨#[122]⟩)) (.cons false (.cst (.str ⟨#[101]⟩)) (.cons false (.cst (.str ⟨#[99]⟩)) (.cons false (.cst (.str ⟨#[100]⟩)) .nil))))) (.cons false (.tup (.cons false (.tup (.cons false (.cst (.str ⟨#[100]⟩)) (.cons false (.cst (.str ⟨#[97]⟩)) .nil))) (.cons false (.tup (.cons false (.cst (.str ⟨#[101]⟩)) (.cons false (.cst (.str ⟨#[98]⟩)) .nil))) .nil))) .nil)))) .nil)))))
 (.cons (.ret (.tup (.cons false (.var 0) (.cons false (.tup (.cons false (.tup (.cons false (.tup (.cons false (.cst (.int 1)) .nil)) (.cons false (.tup (.cons false (.cst (.int 2)) .nil)) .nil))) (.cons false (.tup (.cons false (.tup (.cons false (.neg (.cst (.int 4))) (.cons false (.cst (.int 1)) (.cons false (.op .pow (.cst (.int 10)) (.cst (.int 30))) .nil)))) (.cons false (.tup (.cons false (.cst (.int 7)) (.cons false (.cst (.int 2)) (.cons false (.cst (.int 0)) .nil)))) .nil))) (.cons false (.tup (.cons false (.tup (.cons false (.cst (.int 0)) (.cons false (.neg (.cst (.int 4))) (.cons false (.cst (.int 3)) (.cons false (.cst (.int 1)) .nil))))) (.cons false (.tup (.cons false (.cst (.int 5)) (.cons false (.neg (.cst (.int 4))) (.cons false (.neg (.cst (.int 9))) (.cons false (.cst (.int 1)) .nil))))) .nil))) .nil)))) .nil))))
 .nil))
def f_l_three : FD := ⟨⟨#[95, 108, 97, 119, 95, 116, 104, 114, 101, 101]⟩, [], [⟨#[95, 108, 97, 119, 95, 115, 99, 104, 101, 109, 97, 95, 115, 111]⟩], .mini, false, b_l_three⟩
def b_l_by_hand_right : MSs := (.cons (.asg false (.tup (.cons (.slot 5) (.cons (.slot 6) .nil))) (.call 26 .nil))
 (.cons (.asg false (.slot 0) (.lst (.cons false (.tup (.cons false (.cst (.str ⟨#[120]⟩)) (.cons false (.tup (.cons false (.cst (.int 1)) .nil)) .nil))) (.cons false (.tup (.cons false (.cst (.str ⟨#[97]⟩)) (.cons false (.tup (.cons false (.cst (.int 3)) .nil)) .nil))) (.cons false (.tup (.cons false (.cst (.str ⟨#[97]⟩)) (.cons false (.tup (.cons false (.cst (.int 1)) .nil)) .nil))) (.cons false (.tup (.cons false (.cst (.str ⟨#[97]⟩)) (.cons false (.tup .nil) .nil))) (.cons false (.tup (.cons false (.cst (.str ⟨#[97]⟩)) (.cons false (.tup (.cons false (.cst (.int 3)) (.cons false (.cst (.int 4)) .nil))) .nil))) (.cons false (.tup (.cons false (.cst (.str ⟨#[98]⟩)) (.cons false (.tup (.cons false (.cst (.int 8)) (.cons false (.cst (.int 2)) (.cons false (.cst (.int 5)) .nil)))) .nil))) (.cons false (.tup (.cons false (.cst (.str ⟨#[98]⟩)) (.cons false (.tup (.cons false (.cst (.int 8)) (.cons false (.cst (.int 9)) (.cons false (.cst (.int 5)) .nil)))) .nil))) .nil)))))))))
 (.cons (.asg false (.slot 0) (.op .add (.var 0) (.lst (.cons false (.tup (.cons false (.cst (.str ⟨#[98]⟩)) (.cons false (.tup (.cons false (.cst (.int 7)) (.cons false (.cst (.int 9)) (.cons false (.cst (.int 5)) .nil)))) .nil))) (.cons false (.tup (.cons false (.cst (.str ⟨#[98]⟩)) (.cons false (.tup (.cons false (.cst (.int 7)) (.cons false (.cst (.int 9)) .nil))) .nil))) (.cons false (.tup (.cons false (.cst (.str ⟨#[99, 99]⟩)) (.cons false (.tup (.cons false (.cst (.int 9)) (.cons false (.cst (.int 7)) (.cons false (.cst (.int 0)) (.cons false (.cst (.int 2)) .nil))))) .nil))) (.cons false (.tup (.cons false (.cst (.str ⟨#[99, 99]⟩)) (.cons false (.tup (.cons false (.cst (.int 9)) (.cons false (.cst (.int 8)) (.cons false (.cst (.int 0)) (.cons false (.cst (.int 6)) .nil))))) .nil))) (.cons false (.tup (.cons false (.cst (.str ⟨#[99, 99]⟩)) (.cons false (.tup (.cons false (.cst (.int 9)) (.cons false (.cst (.int 8)) (.cons false (.cst (.int 0)) (.cons false (.cst (.int 2)) .nil))))) .nil))) .nil))))))))
 (.cons (.asg false (.slot 0) (.op .add (.var 0) (.lst (.cons false (.tup (.cons false (.cst (.str ⟨#[99, 99]⟩)) (.cons false (.tup (.cons false (.cst (.int 9)) (.cons false (.cst (.int 7)) (.cons false (.cst (.int 0)) (.cons false (.cst (.int 6)) .nil))))) .nil))) (.cons false (.tup (.cons false (.cst (.str ⟨#[99, 99]⟩)) (.cons false (.tup (.cons false (.cst (.int 0)) (.cons false (.cst (.int 8)) (.cons false (.cst (.int 0)) (.cons false (.cst (.int 6)) .nil))))) .nil))) (.cons false (.tup (.cons false (.cst (.str ⟨#[99, 99]⟩)) (.cons false (.tup (.cons false (.neg (.op .pow (.cst (.int 10)) (.cst (.int 30)))) (.cons false (.neg (.cst (.int 4))) (.cons false (.op .pow (.cst (.int 10)) (.cst (.int 30))) (.cons false (.cst (.int 1)) .nil))))) .nil))) (.cons false (.tup (.cons false (.cst (.str ⟨#[]⟩)) (.cons false (.tup (.cons false (.cst (.int 1)) .nil)) .nil))) .nil)))))))
 (.cons (.asg true (.slot 1) (.lst (.cons false (.comp (.call 25 (.cons false (.var 5) (.cons false (.var 6) (.cons false (.ix (.var 7) (.cst (.int 0))) (.cons false (.ix (.var 7) (.cst (.int 1))) .nil))))) (.slot 7) (.it (.var 0)) .nil [7]) .nil)))
 (.cons (.asg true (.slot 2) (.lst (.cons false (.lst (.cons false (.lst (.cons false (.cst (.str ⟨#[107, 105, 110, 100]⟩)) (.cons false (.cst (.str ⟨#[120]⟩)) .nil))) (.cons false (.op .add (.tup (.cons false (.tup (.cons false (.tup (.cons false (.cst (.int 1)) .nil)) (.cons false (.tup (.cons false (.cst (.int 2)) .nil)) (.cons false (.tup (.cons false (.cst (.int 3)) .nil)) .nil)))) .nil)) (.sl (.var 6) (.some (.cst (.int 1))) .none)) (.cons false (.lst (.cons false (.cst (.str ⟨#[116, 97, 107, 101, 110]⟩)) (.cons false (.cst (.int 1)) .nil))) (.cons false (.lst (.cons false (.cst (.str ⟨#[117, 110, 102, 105, 116]⟩)) .nil)) (.cons false (.lst (.cons false (.cst (.str ⟨#[117, 110, 102, 105, 116]⟩)) .nil)) .nil)))))) .nil)))
 (.cons (.seti 2 (.cst (.int 0)) (.op .add (.ix (.bor 2) (.cst (.int 0))) (.lst (.cons false (.tup (.cons false (.ix (.var 6) (.cst (.int 0))) (.cons false (.op .add (.ix (.var 6) (.cst (.int 1))) (.tup (.cons false (.tup (.cons false (.cst (.int 8)) (.cons false (.cst (.int 2)) (.cons false (.cst (.int 5)) .nil)))) .nil))) (.cons false (.ix (.var 6) (.cst (.int 2))) .nil)))) (.cons false (.lst (.cons false (.cst (.str ⟨#[114, 111, 119]⟩)) (.cons false (.cst (.int 9)) .nil))) (.cons false (.lst (.cons false (.cst (.str ⟨#[116, 97, 107, 101, 110]⟩)) (.cons false (.cst (.int 7)) .nil))) (.cons false (.lst (.cons false (.cst (.str ⟨#[117, 110, 102, 105, 116]⟩)) .nil)) .nil)))))))
 (.cons (.seti 2 (.cst (.int 0)) (.op .add (.ix (.bor 2) (.cst (.int 0))) (.lst (.cons false (.op .add (.sl (.var 6) .none (.some (.cst (.int 2)))) (.tup (.cons false (.op .add (.ix (.var 6) (.cst (.int 2))) (.tup (.cons false (.tup (.cons false (.cst (.int 9)) (.cons false (.cst (.int 7)) (.cons false (.cst (.int 0)) (.cons false (.cst (.int 2)) .nil))))) .nil))) .nil))) (.cons false (.lst (.cons false (.cst (.str ⟨#[114, 111, 119]⟩)) (.cons false (.cst (.int 6)) .nil))) (.cons false (.lst (.cons false (.cst (.str ⟨#[114, 111, 119]⟩)) (.cons false (.cst (.int 8)) .nil))) (.cons false (.lst (.cons false (.cst (.str ⟨#[114, 111, 119]⟩)) (.cons false (.cst (.int 6)) .nil))) (.cons false (.lst (.cons false (.cst (.str ⟨#[116, 97, 107, 101, 110]⟩)) (.cons false (.cst (.int 0)) .nil))) .nil))))))))
 (.cons (.seti 2 (.cst (.int 0)) (.op .add (.ix (.bor 2) (.cst (.int 0))) (.lst (.cons false (.op .add (.sl (.var 6) .none (.some (.cst (.int 2)))) (.tup (.cons false (.op .add (.tup (.cons false (.tup (.cons false (.neg (.op .pow (.cst (.int 10)) (.cst (.int 30)))) (.cons false (.neg (.cst (.int 4))) (.cons false (.op .pow (.cst (.int 10)) (.cst (.int 30))) (.cons false (.cst (.int 1)) .nil))))) .nil)) (.ix (.var 6) (.cst (.int 2)))) .nil))) (.cons false (.lst (.cons false (.cst (.str ⟨#[107, 105, 110, 100]⟩)) (.cons false (.cst (.str ⟨#[]⟩)) .nil))) .nil)))))
 (.cons (.asg false (.slot 0) (.lst (.cons false (.tup (.cons false (.cst (.str ⟨#[120]⟩)) (.cons false (.cst (.int 1)) .nil))) (.cons false (.tup (.cons false (.cst (.str ⟨#[97]⟩)) (.cons false (.cst (.int 3)) .nil))) (.cons false (.tup (.cons false (.cst (.str ⟨#[97]⟩)) (.cons false (.cst (.int 1)) .nil))) (.cons false (.tup (.cons false (.cst (.str ⟨#[97]⟩)) (.cons false (.cst (.int 2)) .nil))) (.cons false (.tup (.cons false (.cst (.str ⟨#[98]⟩)) (.cons false (.neg (.cst (.int 4))) .nil))) (.cons false (.tup (.cons false (.cst (.str ⟨#[98]⟩)) (.cons false (.cst (.int 7)) .nil))) (.cons false (.tup (.cons false (.cst (.str ⟨#[98]⟩)) (.cons false (.cst (.int 0)) .nil))) (.cons false (.tup (.cons false (.cst (.str ⟨#[99, 99]⟩)) (.cons false (.cst (.int 0)) .nil))) (.cons false (.tup (.cons false (.cst (.str ⟨#[99, 99]⟩)) (.cons false (.cst (.int 5)) .nil))) (.cons false (.tup (.cons false (.cst (.str ⟨#[99, 99]⟩)) (.cons false (.cst (.int 9)) .nil))) .nil))))))))))))
 (.cons (.app 1 (.comp (.call 25 (.cons false (.var 5) (.cons false (.var 6) (.cons false (.ix (.var 7) (.cst (.int 0))) (.cons false (.ix (.var 7) (.cst (.int 1))) .nil))))) (.slot 7) (.it (.var 0)) .nil [7]))
 (.cons (.app 2 (.lst (.cons false (.lst (.cons false (.cst (.str ⟨#[107, 105, 110, 100]⟩)) (.cons false (.cst (.str ⟨#[120]⟩)) .nil))) (.cons false (.lst (.cons false (.cst (.str ⟨#[114, 111, 119]⟩)) (.cons false (.cst (.int 3)) .nil))) (.cons false (.lst (.cons false (.cst (.str ⟨#[117, 110, 102, 105, 116]⟩)) .nil)) (.cons false (.lst (.cons false (.cst (.str ⟨#[117, 110, 102, 105, 116]⟩)) .nil)) (.cons false (.lst (.cons false (.cst (.str ⟨#[117, 110, 102, 105, 116]⟩)) .nil)) (.cons false (.tup (.cons false (.ix (.var 6) (.cst (.int 0))) (.cons false (.sl (.ix (.var 6) (.cst (.int 1))) .none (.some (.cst (.int 1)))) (.cons false (.ix (.var 6) (.cst (.int 2))) .nil)))) .nil))))))))
 (.cons (.seti 2 (.cst (.int 1)) (.op .add (.ix (.bor 2) (.cst (.int 1))) (.lst (.cons false (.lst (.cons false (.cst (.str ⟨#[114, 111, 119]⟩)) (.cons false (.cst (.int 0)) .nil))) (.cons false (.op .add (.sl (.var 6) .none (.some (.cst (.int 2)))) (.tup (.cons false (.sl (.ix (.var 6) (.cst (.int 2))) (.some (.cst (.int 1))) .none) .nil))) (.cons false (.op .add (.sl (.var 6) .none (.some (.cst (.int 2)))) (.tup (.cons false (.sl (.ix (.var 6) (.cst (.int 2))) .none (.some (.cst (.int 1)))) .nil))) (.cons false (.lst (.cons false (.cst (.str ⟨#[114, 111, 119]⟩)) (.cons false (.cst (.int 9)) .nil))) .nil)))))))
 (.cons (.asg false (.slot 3) (.call 16 (.cons false (.lst (.cons false (.var 5) (.cons false (.var 6) .nil))) .nil)))
 (.cons (.asg true (.slot 1) (.op .add (.bor 1) (.lst (.cons false (.callK 10 .nil (.cons false (.lst (.cons false (.cst (.int 3)) .nil)) (.cons false (.cst (.str ⟨#[97]⟩)) (.cons false (.ix (.var 3) (.cst (.int 1))) (.cons false (.ix (.var 3) (.cst (.int 0))) .nil)))) [3, 2, 1, 0]) (.cons false (.callK 11 .nil (.cons false (.cst (.int 5)) (.cons false (.cst (.str ⟨#[99, 99]⟩)) (.cons false (.ix (.var 3) (.cst (.int 1))) (.cons false (.ix (.var 3) (.cst (.int 0))) .nil)))) [3, 2, 1, 0]) (.cons false (.var 3) .nil))))))
 (.cons (.asg true (.slot 2) (.op .add (.bor 2) (.lst (.cons false (.ix (.ix (.bor 2) (.cst (.int 0))) (.cst (.int 1))) (.cons false (.ix (.ix (.bor 2) (.cst (.int 1))) (.cst (.int 8))) (.cons false (.call 16 (.cons false (.lst (.cons false (.var 5) (.cons false (.var 6) .nil))) .nil)) .nil))))))
 (.cons (.asg false (.slot 4) (.lst (.cons false (.tup (.cons false (.lst (.cons false (.lst (.cons false (.cst (.int 1)) .nil)) (.cons false (.tup (.cons false (.cst (.int 2)) .nil)) .nil))) (.cons false (.ix (.var 6) (.cst (.int 1))) (.cons false (.lst (.cons false (.tup (.cons false (.cst (.int 0)) (.cons false (.neg (.cst (.int 4))) (.cons false (.cst (.int 3)) (.cons false (.cst (.int 1)) .nil))))) (.cons false (.lst (.cons false (.cst (.int 5)) (.cons false (.neg (.cst (.int 4))) (.cons false (.neg (.cst (.int 9))) (.cons false (.cst (.int 1)) .nil))))) .nil))) .nil)))) (.cons false (.op .add (.tup (.cons false (.lst (.cons false (.cst (.str ⟨#[97]⟩)) (.cons false (.tup (.cons false (.cst (.str ⟨#[105, 100]⟩)) .nil)) (.cons false (.lst .nil) .nil)))) .nil)) (.sl (.var 5) (.some (.cst (.int 1))) .none)) .nil))))
 (.cons (.asg true (.slot 1) (.op .add (.bor 1) (.lst (.cons false (.call 25 (.cons false (.ix (.var 4) (.cst (.int 1))) (.cons false (.ix (.var 4) (.cst (.int 0))) (.cons false (.cst (.str ⟨#[99, 99]⟩)) (.cons false (.tup (.cons false (.cst (.int 9)) (.cons false (.cst (.int 7)) (.cons false (.cst (.int 0)) (.cons false (.cst (.int 2)) .nil))))) .nil))))) .nil))))
 (.cons (.asg true (.slot 1) (.op .add (.bor 1) (.lst (.cons false (.call 25 (.cons false (.ix (.var 4) (.cst (.int 1))) (.cons false (.ix (.var 4) (.cst (.int 0))) (.cons false (.cst (.str ⟨#[98]⟩)) (.cons false (.cst (.int 7)) .nil))))) .nil))))
 (.cons (.ret (.lend 17 (.cons false (.bor 1) (.cons false (.op .add (.bor 2) (.lst (.cons false (.ix (.ix (.bor 2) (.cst (.int 0))) (.cst (.int 9))) (.cons false (.ix (.ix (.bor 2) (.cst (.int 1))) (.cst (.int 5))) .nil)))) .nil))))
 .nil))))))))))))))))))))
def f_l_by_hand_right : FD := ⟨⟨#[95, 108, 97, 119, 95, 98, 121, 95, 104, 97, 110, 100, 95, 114, 105, 103, 104, 116]⟩, [], [⟨#[95, 108, 97, 119, 95, 115, 111, 109, 101, 95, 115, 111]⟩, ⟨#[95, 108, 97, 119, 95, 103, 111, 116]⟩, ⟨#[95, 108, 97, 119, 95, 100, 117, 101]⟩, ⟨#[95, 108, 97, 119, 95, 115, 111, 102, 116]⟩, ⟨#[95, 108, 97, 119, 95, 109, 105, 120, 101, 100, 95, 115, 111]⟩, ⟨#[95, 108, 97, 119, 95, 119, 105, 100, 101, 95, 115, 111]⟩, ⟨#[95, 108, 97, 119, 95, 102, 97, 114, 95, 115, 111]⟩, ⟨#[95, 108, 97, 119, 95, 111, 119, 110]⟩], .mini, false, b_l_by_hand_right⟩
def b_l_right : MSs := (.cons (.for_ (.slot 1) (.range (.cst (.int 8))) [1, 2, 3, 4, 5]
 (.cons (.asg false (.slot 2) (.call 19 (.cons false (.var 0) (.cons false (.op .gt (.call 13 (.cons false (.var 0) (.cons false (.cst (.int 4)) .nil))) (.cst (.int 0))) .nil))))
 (.cons (.asg false (.slot 3) (.call 20 (.cons false (.var 0) (.cons false (.var 2) (.cons false (.cst (.int 5)) (.cons false (.cst (.int 6)) .nil))))))
 (.cons (.asg false (.slot 4) (.call 16 (.cons false (.lst (.cons false (.var 2) (.cons false (.var 3) .nil))) .nil)))
 (.cons (.for_ (.slot 5) (.it (.op .add (.var 2) (.tup (.cons false (.tup (.cons false (.cst (.str ⟨#[110, 111, 110, 101]⟩)) (.cons false (.tup (.cons false (.cst (.str ⟨#[105, 100]⟩)) .nil)) (.cons false (.tup .nil) .nil)))) .nil)))) [5, 6, 7, 8, 9, 10]
 (.cons (.asg false (.slot 6) (.bi .tuple (.comp (.call 13 (.cons false (.var 0) (.cons false (.cst (.int 7)) .nil))) (.slot 11) (.it (.ix (.var 5) (.cst (.int 1)))) .nil [11])))
 (.cons (.asg false (.slot 6) (.sl (.var 6) .none (.some (.op .sub (.bi .len (.var 6)) (.bi .int (.op .eq (.call 13 (.cons false (.var 0) (.cons false (.cst (.int 6)) .nil))) (.cst (.int 0))))))))
 (.cons (.asg false (.slot 7) (.call 25 (.cons false (.var 2) (.cons false (.var 3) (.cons false (.ix (.var 5) (.cst (.int 0))) (.cons false (.var 6) .nil))))))
 (.cons (.asg false (.slot 8) (.call 13 (.cons false (.var 0) (.cons false (.cst (.int 7)) .nil))))
 (.cons (.asg false (.slot 9) (.lst (.cons false (.var 7) (.cons false (.call 25 (.cons false (.ix (.var 4) (.cst (.int 0))) (.cons false (.ix (.var 4) (.cst (.int 1))) (.cons false (.ix (.var 5) (.cst (.int 0))) (.cons false (.bi .list (.var 6)) .nil))))) .nil))))
 (.cons (.asg false (.slot 9) (.op .add (.var 9) (.lst (.cons false (.call 25 (.cons false (.var 2) (.cons false (.var 3) (.cons false (.ix (.var 5) (.cst (.int 0))) (.cons false (.var 8) .nil))))) (.cons false (.call 25 (.cons false (.ix (.var 4) (.cst (.int 0))) (.cons false (.ix (.var 4) (.cst (.int 1))) (.cons false (.ix (.var 5) (.cst (.int 0))) (.cons false (.var 8) .nil))))) .nil)))))
 (.cons (.asg false (.slot 10) (.op .mul (.lst (.cons false (.call 23 (.cons false (.var 2) (.cons false (.var 3) (.cons false (.ix (.var 5) (.cst (.int 0))) (.cons false (.var 6) .nil))))) .nil)) (.cst (.int 2))))
 (.cons (.ite (.notE (.call 17 (.cons false (.var 9) (.cons false (.op .add (.var 10) (.op .mul (.lst (.cons false (.call 24 (.cons false (.var 2) (.cons false (.var 3) (.cons false (.ix (.var 5) (.cst (.int 0))) (.cons false (.var 8) .nil))))) .nil)) (.cst (.int 2)))) .nil))))
 (.cons (.ret (.cst (.bl false)))
 .nil)
 .nil)
 (.cons (.ite (.andE (.cons false (.isi (.var 7) true [.tuple]) (.cons false (.op .ne (.call 11 (.cons false (.var 2) (.cons false (.var 7) (.cons false (.ix (.var 5) (.cst (.int 0))) (.cons false (.ix (.var 6) (.cst (.int 0))) .nil))))) (.var 3)) .nil)))
 (.cons (.ret (.cst (.bl false)))
 .nil)
 .nil)
 .nil))))))))))
 (.cons (.ite (.notE (.call 17 (.cons false (.var 4) (.cons false (.call 16 (.cons false (.lst (.cons false (.var 2) (.cons false (.var 3) .nil))) .nil)) .nil))))
 (.cons (.ret (.cst (.bl false)))
 .nil)
 .nil)
 .nil))))))
 (.cons (.ret (.cst (.bl true)))
 .nil))
def f_l_right : FD := ⟨⟨#[95, 108, 97, 119, 95, 114, 105, 103, 104, 116]⟩, [⟨#[95, 108, 97, 119, 95, 98, 111, 120, 95, 104, 101, 114, 101]⟩], [⟨#[95, 108, 97, 119, 95, 98, 111, 120, 95, 104, 101, 114, 101]⟩, ⟨#[95, 108, 97, 119, 95, 116, 117, 114, 110]⟩, ⟨#[95, 108, 97, 119, 95, 115, 99, 104, 101, 109, 97, 95, 115, 111]⟩, ⟨#[95, 108, 97, 119, 95, 115, 116, 111, 114, 101, 95, 115, 111]⟩, ⟨#[95, 108, 97, 119, 95, 115, 111, 102, 116]⟩, ⟨#[95, 108, 97, 119, 95, 111, 119, 110]⟩, ⟨#[95, 108, 97, 119, 95, 114, 111, 119, 95, 115, 111]⟩, ⟨#[95, 108, 97, 119, 95, 116, 111, 108, 100, 95, 115, 111]⟩, ⟨#[95, 108, 97, 119, 95, 107, 101, 121, 95, 115, 111]⟩, ⟨#[95, 108, 97, 119, 95, 103, 111, 116]⟩, ⟨#[95, 108, 97, 119, 95, 100, 117, 101]⟩, ⟨#[95, 108, 97, 119, 95, 98, 105, 116]⟩], .mini, false, b_l_right⟩
def b_law : MSs := (.cons (.ite (.notE (.call 27 .nil))
 (.cons (.ret (.cst (.bl false)))
 .nil)
 .nil)
 (.cons (.asg false (.slot 1) (.call 14 (.cons false (.var 0) (.cons false (.cst (.int 3)) .nil))))
 (.cons (.ret (.bi .all (.comp (.boxed 28 (.call 12 (.cons false (.var 1) (.cons false (.var 2) .nil)))) (.slot 2) (.range (.bi .len (.var 1))) .nil [2])))
 .nil)))
def f_law : FD := ⟨⟨#[108, 97, 119]⟩, [⟨#[95, 108, 97, 119, 95, 115, 99, 114, 105, 112, 116]⟩], [⟨#[95, 108, 97, 119, 95, 115, 99, 114, 105, 112, 116]⟩, ⟨#[95, 108, 97, 119, 95, 99, 101, 108, 108, 115, 95, 115, 111]⟩, ⟨#[95, 108, 97, 119, 95, 107]⟩], .mini, false, b_law⟩
def prog : Prg := ⟨[f_tupled, f_kind_names, f_check_kind, f_kind_with, f_rows_of, f_row_with, f_checked_row, f_refers_to, f_referrers, f_with_rows, f_put_row, f_take_row, f_l_box, f_l_take, f_l_cells, f_l_of, f_l_lists, f_l_same, f_l_spot, f_l_schema, f_l_store, f_l_with, f_l_keys, f_l_due_put, f_l_due_take, f_l_heard, f_l_three, f_l_by_hand_right, f_l_right, f_law], []⟩
def i_tupled : Nat := 0
def i_kind_names : Nat := 1
def i_check_kind : Nat := 2
def i_kind_with : Nat := 3
def i_rows_of : Nat := 4
def i_row_with : Nat := 5
def i_checked_row : Nat := 6
def i_refers_to : Nat := 7
def i_referrers : Nat := 8
def i_with_rows : Nat := 9
def i_put_row : Nat := 10
def i_take_row : Nat := 11
def i_l_box : Nat := 12
def i_l_take : Nat := 13
def i_l_cells : Nat := 14
def i_l_of : Nat := 15
def i_l_lists : Nat := 16
def i_l_same : Nat := 17
def i_l_spot : Nat := 18
def i_l_schema : Nat := 19
def i_l_store : Nat := 20
def i_l_with : Nat := 21
def i_l_keys : Nat := 22
def i_l_due_put : Nat := 23
def i_l_due_take : Nat := 24
def i_l_heard : Nat := 25
def i_l_three : Nat := 26
def i_l_by_hand_right : Nat := 27
def i_l_right : Nat := 28
def i_law : Nat := 29
abbrev RW : PySem.W.OpenLaw := PySem.Challenge.rw_columnsfelt_k24_rows_put_and_taken
def top (i : Nat) : Stmt := PySem.Challenge.pw_columnsfelt_k24_rows_put_and_taken.main.body.getD i (.Pass ⟨0, 0, 0, 0⟩)
def defName (s : Stmt) : Str := match s with
  | .FunctionDef n _ _ _ _ _ _ _ _ _ => n
  | _ => "law"
def mkD (i : Nat) : He.DefD := ⟨(defName (top i), none), defName (top i), defName (top i), defArgs (top i), defBody (top i), defScope (top i), [], []⟩
def clsPart (i k : Nat) : Stmt := match top i with
  | .ClassDef _ _ _ body _ _ _ _ _ _ _ => body.getD k (.Pass ⟨0, 0, 0, 0⟩)
  | _ => .Pass ⟨0, 0, 0, 0⟩
def clsRow (j : Nat) (me : Str) (i k : Nat) : CD := ⟨j, me, defArgs (clsPart i k), defBody (clsPart i k), defScope (clsPart i k)⟩
def fn : List He.DefD := [6, 8, 9, 10, 11, 12, 13, 14, 15, 17, 18, 19, 21, 22, 23, 24, 25, 26, 27, 28, 29, 30, 31, 32, 33, 34, 35, 36, 37, 38].map mkD
def free : List Str := ([PySem.Str.ofString "LookupError", PySem.Str.ofString "ValueError", PySem.Str.ofString "abs", PySem.Str.ofString "all", PySem.Str.ofString "bool", PySem.Str.ofString "enumerate", PySem.Str.ofString "int", PySem.Str.ofString "isinstance", PySem.Str.ofString "len", PySem.Str.ofString "list", PySem.Str.ofString "range", PySem.Str.ofString "sorted", PySem.Str.ofString "str", PySem.Str.ofString "super", PySem.Str.ofString "tuple", PySem.Str.ofString "zip"] : List PySem.Str)
def cs : List Nat := [0, 2, 6, 7]
def cds : List CD := [clsRow 0 "self" 1 0, clsRow 2 "self" 2 0, clsRow 6 "self" 3 0]
abbrev fa : List He.Fa := faOf prog free
abbrev R : PySem.W.OpenRow := PySem.W.OpenLaw.row RW
def file : Str := RW.prog.main.file
theorem ck : ckAll prog free cs cds fn = true := by kernel_rfl
abbrev hk : PySem.W.Hook := hookX 5 file cs cds fa fn
def ob (s : PySem.W.SharedT) : AlX := obsXG 5 file cs cds fa fn (HandSHeadRun.getT s)
theorem ob_eq (s : PySem.W.SharedT) : ob s = hk.obs s.abs := obsXG_eq (HandSHeadRun.getT_eq s)
def names : List PySem.Str := ([PySem.Str.ofString "NoKind", PySem.Str.ofString "NoRow", PySem.Str.ofString "Taken", PySem.Str.ofString "Unfit", PySem.Str.ofString "tupled", PySem.Str.ofString "kind_names", PySem.Str.ofString "check_kind", PySem.Str.ofString "kind_with", PySem.Str.ofString "rows_of", PySem.Str.ofString "row_with", PySem.Str.ofString "checked_row", PySem.Str.ofString "refers_to", PySem.Str.ofString "referrers", PySem.Str.ofString "with_rows", PySem.Str.ofString "put_row", PySem.Str.ofString "take_row", PySem.Str.ofString "_law_box", PySem.Str.ofString "_law_take", PySem.Str.ofString "_law_cells", PySem.Str.ofString "_law_of", PySem.Str.ofString "_law_lists", PySem.Str.ofString "_law_same", PySem.Str.ofString "_law_spot", PySem.Str.ofString "_law_schema", PySem.Str.ofString "_law_store", PySem.Str.ofString "_law_with", PySem.Str.ofString "_law_keys", PySem.Str.ofString "_law_due_put", PySem.Str.ofString "_law_due_take", PySem.Str.ofString "_law_heard", PySem.Str.ofString "_law_three", PySem.Str.ofString "_law_by_hand_right", PySem.Str.ofString "_law_right"] : List PySem.Str)
theorem run_head (w : World) : HandSHeadRun.RunEq R (PySem.W.view R.prog [38]) hk ob 4000 names w := by
  intro os
  kernel_rfl
end LK
namespace LK
open PySem Mi
def cf (ns : List Int) (k : Nat) : Cfg := ⟨run prog ns k, prog.glob, ns⟩
theorem cf_cl (ns : List Int) (k : Nat) : (cf ns k).cl = run prog ns k := nr rfl
theorem cf_ns (ns : List Int) (k : Nat) : (cf ns k).ns = ns := nr rfl
theorem x_tupled (ns : List Int) (k : Nat) (a0 : D) : run prog ns (k + 1) 0 [a0] = (exSs (cf ns k) b_tupled [.vl a0, .no]).bd rtM := nr rfl
theorem x_kind_names (ns : List Int) (k : Nat) (a0 : D) : run prog ns (k + 1) 1 [a0] = (exSs (cf ns k) b_kind_names [.vl a0, .no]).bd rtM := nr rfl
theorem x_check_kind (ns : List Int) (k : Nat) (a0 a1 : D) : run prog ns (k + 1) 2 [a0, a1] = (exSs (cf ns k) b_check_kind [.vl a0, .vl a1]).bd rtM := nr rfl
theorem x_kind_with (ns : List Int) (k : Nat) (a0 a1 : D) : run prog ns (k + 1) 3 [a0, a1] = (exSs (cf ns k) b_kind_with [.vl a0, .vl a1]).bd rtM := nr rfl
theorem x_rows_of (ns : List Int) (k : Nat) (a0 a1 a2 : D) : run prog ns (k + 1) 4 [a0, a1, a2] = (exSs (cf ns k) b_rows_of [.vl a0, .vl a1, .vl a2]).bd rtM := nr rfl
theorem x_row_with (ns : List Int) (k : Nat) (a0 a1 a2 a3 : D) : run prog ns (k + 1) 5 [a0, a1, a2, a3] = (exSs (cf ns k) b_row_with [.vl a0, .vl a1, .vl a2, .vl a3, .no, .no]).bd rtM := nr rfl
theorem x_checked_row (ns : List Int) (k : Nat) (a0 a1 a2 a3 : D) : run prog ns (k + 1) 6 [a0, a1, a2, a3] = (exSs (cf ns k) b_checked_row [.vl a0, .vl a1, .vl a2, .vl a3, .no]).bd rtM := nr rfl
theorem x_refers_to (ns : List Int) (k : Nat) (a0 a1 a2 : D) : run prog ns (k + 1) 7 [a0, a1, a2] = (exSs (cf ns k) b_refers_to [.vl a0, .vl a1, .vl a2, .no, .no, .no]).bd rtM := nr rfl
theorem x_referrers (ns : List Int) (k : Nat) (a0 a1 a2 a3 : D) : run prog ns (k + 1) 8 [a0, a1, a2, a3] = (exSs (cf ns k) b_referrers [.vl a0, .vl a1, .vl a2, .vl a3, .no, .no, .no, .no]).bd rtM := nr rfl
theorem x_with_rows (ns : List Int) (k : Nat) (a0 a1 a2 a3 : D) : run prog ns (k + 1) 9 [a0, a1, a2, a3] = (exSs (cf ns k) b_with_rows [.vl a0, .vl a1, .vl a2, .vl a3, .no, .no, .no]).bd rtM := nr rfl
theorem x_put_row (ns : List Int) (k : Nat) (a0 a1 a2 a3 : D) : run prog ns (k + 1) 10 [a0, a1, a2, a3] = (exSs (cf ns k) b_put_row [.vl a0, .vl a1, .vl a2, .vl a3, .no, .no, .no, .no]).bd rtM := nr rfl
theorem x_take_row (ns : List Int) (k : Nat) (a0 a1 a2 a3 : D) : run prog ns (k + 1) 11 [a0, a1, a2, a3] = (exSs (cf ns k) b_take_row [.vl a0, .vl a1, .vl a2, .vl a3, .no]).bd rtM := nr rfl
theorem x_l_box (ns : List Int) (k : Nat) (a0 a1 : D) : run prog ns (k + 1) 12 [a0, a1] = (exSs (cf ns k) b_l_box [.vl a0, .vl a1, .no]).bd rtM := nr rfl
theorem x_l_take (ns : List Int) (k : Nat) (a0 a1 : D) : run prog ns (k + 1) 13 [a0, a1] = (exSs (cf ns k) b_l_take [.vl a0, .vl a1, .no, .no, .no, .no]).bd rtM := nr rfl
theorem x_l_cells (ns : List Int) (k : Nat) (a0 a1 : D) : run prog ns (k + 1) 14 [a0, a1] = (exSs (cf ns k) b_l_cells [.vl a0, .vl a1, .no, .no, .no, .no]).bd rtM := nr rfl
theorem x_l_of (ns : List Int) (k : Nat) (a0 a1 : D) : run prog ns (k + 1) 15 [a0, a1] = (exSs (cf ns k) b_l_of [.vl a0, .vl a1]).bd rtM := nr rfl
theorem x_l_lists (ns : List Int) (k : Nat) (a0 : D) : run prog ns (k + 1) 16 [a0] = (exSs (cf ns k) b_l_lists [.vl a0, .no]).bd rtM := nr rfl
theorem x_l_same (ns : List Int) (k : Nat) (a0 a1 : D) : run prog ns (k + 1) 17 [a0, a1] = (exSs (cf ns k) b_l_same [.vl a0, .vl a1, .no, .no]).bd rtM := nr rfl
theorem x_l_spot (ns : List Int) (k : Nat) (a0 a1 : D) : run prog ns (k + 1) 18 [a0, a1] = (exSs (cf ns k) b_l_spot [.vl a0, .vl a1, .no, .no]).bd rtM := nr rfl
theorem x_l_schema (ns : List Int) (k : Nat) (a0 a1 : D) : run prog ns (k + 1) 19 [a0, a1] = (exSs (cf ns k) b_l_schema [.vl a0, .vl a1, .no, .no]).bd rtM := nr rfl
theorem x_l_store (ns : List Int) (k : Nat) (a0 a1 a2 a3 : D) : run prog ns (k + 1) 20 [a0, a1, a2, a3] = (exSs (cf ns k) b_l_store [.vl a0, .vl a1, .vl a2, .vl a3, .no, .no, .no, .no, .no, .no, .no, .no, .no, .no, .no, .no, .no, .no]).bd rtM := nr rfl
theorem x_l_with (ns : List Int) (k : Nat) (a0 a1 a2 a3 : D) : run prog ns (k + 1) 21 [a0, a1, a2, a3] = (exSs (cf ns k) b_l_with [.vl a0, .vl a1, .vl a2, .vl a3, .no, .no, .no]).bd rtM := nr rfl
theorem x_l_keys (ns : List Int) (k : Nat) (a0 a1 a2 : D) : run prog ns (k + 1) 22 [a0, a1, a2] = (exSs (cf ns k) b_l_keys [.vl a0, .vl a1, .vl a2, .no, .no]).bd rtM := nr rfl
theorem x_l_due_put (ns : List Int) (k : Nat) (a0 a1 a2 a3 : D) : run prog ns (k + 1) 23 [a0, a1, a2, a3] = (exSs (cf ns k) b_l_due_put [.vl a0, .vl a1, .vl a2, .vl a3, .no, .no, .no, .no, .no]).bd rtM := nr rfl
theorem x_l_due_take (ns : List Int) (k : Nat) (a0 a1 a2 a3 : D) : run prog ns (k + 1) 24 [a0, a1, a2, a3] = (exSs (cf ns k) b_l_due_take [.vl a0, .vl a1, .vl a2, .vl a3, .no, .no, .no, .no, .no, .no, .no]).bd rtM := nr rfl
theorem x_l_heard (ns : List Int) (k : Nat) (a0 a1 a2 a3 : D) : run prog ns (k + 1) 25 [a0, a1, a2, a3] = (exSs (cf ns k) b_l_heard [.vl a0, .vl a1, .vl a2, .vl a3, .no, .no]).bd rtM := nr rfl
theorem x_l_three (ns : List Int) (k : Nat) : run prog ns (k + 1) 26 [] = (exSs (cf ns k) b_l_three [.no]).bd rtM := nr rfl
theorem x_l_by_hand_right (ns : List Int) (k : Nat) : run prog ns (k + 1) 27 [] = (exSs (cf ns k) b_l_by_hand_right [.no, .no, .no, .no, .no, .no, .no, .no]).bd rtM := nr rfl
theorem x_l_right (ns : List Int) (k : Nat) (a0 : D) : run prog ns (k + 1) 28 [a0] = (exSs (cf ns k) b_l_right [.vl a0, .no, .no, .no, .no, .no, .no, .no, .no, .no, .no, .no]).bd rtM := nr rfl
theorem x_law (ns : List Int) (k : Nat) (a0 : D) : run prog ns (k + 1) 29 [a0] = (exSs (cf ns k) b_law [.vl a0, .no, .no]).bd rtM := nr rfl
end LK
set_option maxHeartbeats 4000000
namespace LK
open PySem Mi
local macro_rules | `(tactic| push_cast [$xs,*]) => `(tactic| simp only [cf_cl, cf_ns, q_ret, q_no, q_rs, q_some, q_none, q_nexR, q_asc, q_asB, vlAt_v, borAt_v, borAt_o, ownK_o, optK_s, optK_n, q_var, q_bor, q_cst, q_glo, q_tup, q_lst, q_op, q_chain, q_neg, q_not, q_if, q_isN, q_ix, q_sl, q_rev, q_call, q_lend, q_callK, q_bi, q_isi, q_and, q_or, q_and1, q_and2, q_or1, q_or2, q_idx, q_mk, q_attr, q_cT, q_comp, q_cT2, q_comp2, q_lstR, t_not, t_and, t_or, t_and0, t_and1, t_or0, t_or1, t_var, t_bor, t_cst, t_op, t_chain, t_isN, t_ix, t_call, t_lend, t_bi, t_isi, q_es0, q_es1, q_es2, q_o0, q_o1, t_b, t_nb, q_ts0, q_ts1, q_it, q_rng, q_rng2, q_enum, q_zip, s_nil, s_asg, s_asgO, s_ret, s_guard, s_gRaise, s_raise, s_iteA, s_for, s_app, s_ext, lstK_l, shK_o, shK_v, s_share, s_par, s_asgT, s_expr, s_pass, a_nx, a_rt, r_rt, r_nx, f_nil, cg_of, cg_map, cg_flt, cg_fltN, cg_nil, cg_cons, cg2_of, cg2_map, q_allP, q_anyP, b_slot, b_tup, b_lst, b_sq, b_nil, b_cons, Option.bind_some, Option.bind_none, sq_walk, sq_items, sq_len, sq_ix, sq_list, sq_tuple, sq_any, sq_isT, List.getElem?_cons_zero, List.getElem?_cons_succ, y_str_lt, y_str_bs, y_str_i, y_str_b, y_str_l, y_str_t, y_str_s, y_int_lt, y_int_bs, y_int_i, y_int_b, y_int_l, y_int_t, y_int_s, y_bl_lt, y_bl_bs, y_bl_i, y_bl_b, y_bl_l, y_bl_t, y_bl_s, y_non_lt, y_non_bs, y_non_i, y_non_b, y_non_l, y_non_t, y_non_s, y_lst_lt, y_lst_bs, y_lst_i, y_lst_b, y_lst_l, y_lst_t, y_lst_s, y_tup_lt, y_tup_bs, y_tup_i, y_tup_b, y_tup_l, y_tup_t, y_tup_s, sq_isL, truth_non, truth_bl, truth_int, truth_lst, truth_tup, asB_bl, asI_int, walk_lst, walk_tup, walk_str, items_lst, items_tup, len_lst, len_tup, len_str, int_int, int_bl, abs_int, list_lst, list_tup, tuple_lst, tuple_tup, lt_int, le_int, gt_int, ge_int, add_int, sub_int, eq_int, ne_int, ix_lst, ix_tup, sl_lst, sl_tup, rev_tup, rev_lst, at0, at1, at2, slOf_lst, slOf_tup, slOf_int, slOf_bl, slOf_str, slOf_non, slOf_f, List.set_cons_zero, List.set_cons_succ, List.length_cons, List.length_nil, List.length_map, Env.kill, Env.noOw, isOw_vl, isOw_ow, isOw_no, List.all_cons, List.all_nil, Option.getD_some, Option.getD_none, Option.map_some, Option.map_none, Bool.not_true, Bool.not_false, Bool.true_and, Bool.and_true, Bool.false_and, Bool.and_false, Bool.false_eq_true, Bool.true_eq_false, if_true, if_false, ite_true, ite_false, Nat.reduceAdd, Nat.reduceLT, Nat.reduceLeDiff, Nat.zero_lt_succ, Nat.zero_le, Nat.zero_add, Bool.xor_false, Bool.false_xor, Bool.true_xor, List.map_cons, List.map_nil, ln0, ln1, ln2, ln3, ln4, ln5, ln6, ln7, ln8, ln9, ln10, ln11, ln12, ln13, ln14, ln15, ln16, s_try, ct_ret, ct_rs, $xs,*])
local macro_rules | `(tactic| norm_cast0) => `(tactic| simp only [cf_cl, cf_ns, q_ret, q_no, q_rs, q_some, q_none, q_nexR, q_asc, q_asB, vlAt_v, borAt_v, borAt_o, ownK_o, optK_s, optK_n, q_var, q_bor, q_cst, q_glo, q_tup, q_lst, q_op, q_chain, q_neg, q_not, q_if, q_isN, q_ix, q_sl, q_rev, q_call, q_lend, q_callK, q_bi, q_isi, q_and, q_or, q_and1, q_and2, q_or1, q_or2, q_idx, q_mk, q_attr, q_cT, q_comp, q_cT2, q_comp2, q_lstR, t_not, t_and, t_or, t_and0, t_and1, t_or0, t_or1, t_var, t_bor, t_cst, t_op, t_chain, t_isN, t_ix, t_call, t_lend, t_bi, t_isi, q_es0, q_es1, q_es2, q_o0, q_o1, t_b, t_nb, q_ts0, q_ts1, q_it, q_rng, q_rng2, q_enum, q_zip, s_nil, s_asg, s_asgO, s_ret, s_guard, s_gRaise, s_raise, s_iteA, s_for, s_app, s_ext, lstK_l, shK_o, shK_v, s_share, s_par, s_asgT, s_expr, s_pass, a_nx, a_rt, r_rt, r_nx, f_nil, cg_of, cg_map, cg_flt, cg_fltN, cg_nil, cg_cons, cg2_of, cg2_map, q_allP, q_anyP, b_slot, b_tup, b_lst, b_sq, b_nil, b_cons, Option.bind_some, Option.bind_none, sq_walk, sq_items, sq_len, sq_ix, sq_list, sq_tuple, sq_any, sq_isT, List.getElem?_cons_zero, List.getElem?_cons_succ, y_str_lt, y_str_bs, y_str_i, y_str_b, y_str_l, y_str_t, y_str_s, y_int_lt, y_int_bs, y_int_i, y_int_b, y_int_l, y_int_t, y_int_s, y_bl_lt, y_bl_bs, y_bl_i, y_bl_b, y_bl_l, y_bl_t, y_bl_s, y_non_lt, y_non_bs, y_non_i, y_non_b, y_non_l, y_non_t, y_non_s, y_lst_lt, y_lst_bs, y_lst_i, y_lst_b, y_lst_l, y_lst_t, y_lst_s, y_tup_lt, y_tup_bs, y_tup_i, y_tup_b, y_tup_l, y_tup_t, y_tup_s, sq_isL, truth_non, truth_bl, truth_int, truth_lst, truth_tup, asB_bl, asI_int, walk_lst, walk_tup, walk_str, items_lst, items_tup, len_lst, len_tup, len_str, int_int, int_bl, abs_int, list_lst, list_tup, tuple_lst, tuple_tup, lt_int, le_int, gt_int, ge_int, add_int, sub_int, eq_int, ne_int, ix_lst, ix_tup, sl_lst, sl_tup, rev_tup, rev_lst, at0, at1, at2, slOf_lst, slOf_tup, slOf_int, slOf_bl, slOf_str, slOf_non, slOf_f, List.set_cons_zero, List.set_cons_succ, List.length_cons, List.length_nil, List.length_map, Env.kill, Env.noOw, isOw_vl, isOw_ow, isOw_no, List.all_cons, List.all_nil, Option.getD_some, Option.getD_none, Option.map_some, Option.map_none, Bool.not_true, Bool.not_false, Bool.true_and, Bool.and_true, Bool.false_and, Bool.and_false, Bool.false_eq_true, Bool.true_eq_false, if_true, if_false, ite_true, ite_false, Nat.reduceAdd, Nat.reduceLT, Nat.reduceLeDiff, Nat.zero_lt_succ, Nat.zero_le, Nat.zero_add, Bool.xor_false, Bool.false_xor, Bool.true_xor, List.map_cons, List.map_nil, ln0, ln1, ln2, ln3, ln4, ln5, ln6, ln7, ln8, ln9, ln10, ln11, ln12, ln13, ln14, ln15, ln16, s_try, ct_ret, ct_rs])
local macro_rules | `(tactic| push_cast only [$xs,*]) => `(tactic| simp only [evE, evT, evP, evTOr, evTAnd, evAnd, evOr, evEs, evSrc, evO, evTs, tr, bd_ret, nex_ret, bd_assoc, bd_no, ofO_some, ofO_none, asB_ret, asB_no, List.getElem?_cons_zero, List.getElem?_cons_succ, anyTy, D.isTy, truth_non, truth_bl, truth_int, truth_lst, truth_tup, asB_bl, asI_int, walk_lst, walk_tup, walk_str, items_lst, items_tup, len_lst, len_tup, len_str, int_int, int_bl, abs_int, list_lst, list_tup, tuple_lst, tuple_tup, all_lst, any_lst, lt_int, le_int, gt_int, ge_int, add_int, sub_int, eq_int, ne_int, ix_lst, ix_tup, sl_lst, sl_tup, rev_tup, rev_lst, at0, at1, at2,  bindT, bindTs, setOwn, slOf_lst, slOf_tup, slOf_int, slOf_bl, slOf_str, slOf_non, slOf_f,  List.set_cons_zero, List.set_cons_succ, List.length_cons, List.length_nil, Env.kill, Env.noOw, isOw_vl, isOw_ow, isOw_no, evs_nil, List.all_cons, List.all_nil, Option.getD_some, Option.getD_none, Option.map_some, Option.map_none, rtM_rt, rtM_nx, Bool.not_true, Bool.not_false, Bool.true_and, Bool.and_true, Bool.false_and, Bool.and_false, Bool.false_eq_true, if_true, if_false, ite_true, ite_false, Nat.reduceAdd, Nat.reduceLT, Nat.reduceLeDiff, Nat.zero_lt_succ, Nat.zero_le, Bool.xor_false, Bool.false_xor, Bool.true_xor, List.map_cons, List.map_nil, $xs,*])
section
variable {ns : List Int} {k : Nat}
theorem tup_leaf {d : D} (h : anyTy d [.list, .tuple] = some false) : run prog ns (k + 1) 0 [d] = M.ret d := by
  rw [x_tupled]
  push_cast [b_tupled, h]
theorem tup_str (a : Str) : run prog ns (k + 1) 0 [.str a] = M.ret (.str a) := tup_leaf rfl
theorem tup_int (a : Int) : run prog ns (k + 1) 0 [.int a] = M.ret (.int a) := tup_leaf rfl
theorem tup_seq {α : Type} {b : Bool} {xs : List α} {f g : α → D} (hl : xs.length ≤ 10000000) (h : ∀ x ∈ xs, run prog ns k 0 [f x] = M.ret (g x)) : run prog ns (k + 1) 0 [sq b (xs.map f)] = M.ret (.tup (xs.map g)) := by
  rw [x_tupled]
  push_cast [b_tupled, ln_of hl]
  rw [cg_congr (G := fun x => M.ret (some (g x))) fun x hx => by rw [h x hx]; rfl]
  push_cast [ln_of hl]
theorem tup_strs {b : Bool} {xs : List Str} (h : xs.length ≤ 10000000) : run prog ns (k + 2) 0 [sq b (xs.map .str)] = M.ret (.tup (xs.map .str)) := tup_seq h fun x _ => tup_str x
theorem tup_row {b : Bool} {xs : Row} (h : xs.2.length + 1 ≤ 10000000) : run prog ns (k + 2) 0 [eR b xs] = M.ret (eR true xs) := tup_seq h fun x _ => tup_int x
theorem tup_tie {b : Bool} (t : Str × Str) : run prog ns (k + 2) 0 [eTie b t] = M.ret (eTie true t) := tup_strs (b := b) (xs := [t.1, t.2]) (by simp)
theorem tup_kd {b : Bool} {K : Kd} (h : KOk K) : run prog ns (k + 4) 0 [eK b K] = M.ret (eK true K) :=
  tup_seq (b := b) (xs := [(D.str K.nm, D.str K.nm), (sq b (K.cols.map .str), .tup (K.cols.map .str)), (sq b (K.ties.map (eTie b)), .tup (K.ties.map (eTie true)))]) (f := Prod.fst) (g := Prod.snd) (by simp) fun x hx => by
    simp only [List.mem_cons, List.not_mem_nil, or_false] at hx
    have h2 := h.c2
    have h3 := h.t
    rcases hx with rfl | rfl | rfl
    · exact tup_str _
    · exact tup_strs (k := k + 1) (by omega)
    · exact tup_seq (by omega) fun t _ => tup_tie t
theorem tup_S {b : Bool} {Z : List Zt} (h : ZOk Z) : run prog ns (k + 5) 0 [eS b Z] = M.ret (eS true Z) := tup_seq (by have := h.n; omega) fun z hz => tup_kd (h.k z hz)
theorem tup_rows {b : Bool} {K : Kd} {rs : List Row} (h : KOk K) (r : ROk K rs) : run prog ns (k + 3) 0 [eRs b rs] = M.ret (eRs true rs) := tup_seq (by have := r.len; omega) fun x hx => tup_row (by have := r.wid x hx; have := h.c2; omega)
theorem tup_T {b : Bool} {Z : List Zt} (h : ZOk Z) : run prog ns (k + 4) 0 [eT b Z] = M.ret (eT true Z) := tup_seq (by have := h.n; omega) fun z hz => tup_rows (h.k z hz) (h.r z hz)
theorem kind_names_eq {b : Bool} {Z : List Zt} (h : ZOk Z) : run prog ns (k + 1) 1 [eS b Z] = M.ret (.lst ((nmsZ Z).map .str)) := by
  have hl := h.n
  rw [x_kind_names, eS]
  push_cast [b_kind_names, eK_0, ln_of (show Z.length ≤ 10000000 by omega), nmsZ_map, nms_len]
theorem check_kind_ok {b : Bool} {Z : List Zt} (h : ZOk Z) {a : Str} (ha : a ∈ nmsZ Z) : run prog ns (k + 2) 2 [eS b Z, .str a] = M.ret .non := by
  rw [x_check_kind]
  push_cast [b_check_kind, kind_names_eq h, nin_lst, decide_eq_true ha]
theorem check_kind_no {b : Bool} {Z : List Zt} (h : ZOk Z) {a : Str} (ha : a ∉ nmsZ Z) : run prog ns (k + 2) 2 [eS b Z, .str a] = M.raise 0 [.str a] := by
  rw [x_check_kind]
  push_cast [b_check_kind, kind_names_eq h, nin_lst, decide_eq_false ha, mx_0, fl_str]
theorem kind_with_eq {b : Bool} {Z : List Zt} (h : ZOk Z) {z : Zt} (hz : z ∈ Z) : run prog ns (k + 6) 3 [eS b Z, .str z.1.nm] = M.ret (eK true z.1) := by
  rw [x_kind_with]
  push_cast [b_kind_with, check_kind_ok h (in_nms hz), tup_S h, kind_names_eq h, idx_recvL, idx_at (in_nms hz)]
  rw [eS, sq_ix, atI_mapN (at_Z h hz)]
  rfl
theorem kind_with_no {b : Bool} {Z : List Zt} (h : ZOk Z) {a : Str} (ha : a ∉ nmsZ Z) : run prog ns (k + 6) 3 [eS b Z, .str a] = M.raise 0 [.str a] := by
  rw [x_kind_with]
  push_cast [b_kind_with, check_kind_no h ha]
theorem rows_of_eq {b : Bool} {Z : List Zt} (h : ZOk Z) {z : Zt} (hz : z ∈ Z) : run prog ns (k + 6) 4 [eS b Z, eT b Z, .str z.1.nm] = M.ret (eRs true z.2) := by
  rw [x_rows_of]
  push_cast [b_rows_of, check_kind_ok h (in_nms hz), tup_T h, kind_names_eq h, idx_recvL, idx_at (in_nms hz)]
  rw [eT, sq_ix, atI_mapN (at_Z h hz)]
  rfl
theorem rows_of_no {b : Bool} {Z : List Zt} (h : ZOk Z) {a : Str} (ha : a ∉ nmsZ Z) : run prog ns (k + 6) 4 [eS b Z, eT b Z, .str a] = M.raise 0 [.str a] := by
  rw [x_rows_of]
  push_cast [b_rows_of, check_kind_no h ha]
theorem row_with_eq {b : Bool} {Z : List Zt} (h : ZOk Z) {z : Zt} (hz : z ∈ Z) {r : Row} (hr : r ∈ z.2) : run prog ns (k + 7) 5 [eS b Z, eT b Z, .str z.1.nm, .int r.1] = M.ret (eR true r) := by
  rw [x_row_with]
  push_cast [b_row_with, rows_of_eq h hz, eRs, sqT, eR_0, asc_filter (h.r z hz).asc hr]
  rfl
theorem row_with_non {b : Bool} {Z : List Zt} (h : ZOk Z) {z : Zt} (hz : z ∈ Z) {i : Int} (hi : i ∉ keysR z.2) : run prog ns (k + 7) 5 [eS b Z, eT b Z, .str z.1.nm, .int i] = M.ret .non := by
  rw [x_row_with]
  push_cast [b_row_with, rows_of_eq h hz, eRs, sqT, eR_0, flt_none hi]
  rfl
theorem row_with_no {b : Bool} {Z : List Zt} (h : ZOk Z) {a : Str} (ha : a ∉ nmsZ Z) (i : D) : run prog ns (k + 7) 5 [eS b Z, eT b Z, .str a, i] = M.raise 0 [.str a] := by
  rw [x_row_with]
  push_cast [b_row_with, rows_of_no h ha]
theorem checked_row_eq {b : Bool} {Z : List Zt} (h : ZOk Z) {z : Zt} (hz : z ∈ Z) {r : Row} (hr : r ∈ z.2) : run prog ns (k + 8) 6 [eS b Z, eT b Z, .str z.1.nm, .int r.1] = M.ret (eR true r) := by
  rw [x_checked_row]
  push_cast [b_checked_row, row_with_eq h hz hr, show isNon (eR true r) = false from rfl]
theorem checked_row_non {b : Bool} {Z : List Zt} (h : ZOk Z) {z : Zt} (hz : z ∈ Z) {i : Int} (hi : i ∉ keysR z.2) : run prog ns (k + 8) 6 [eS b Z, eT b Z, .str z.1.nm, .int i] = M.raise 2 [.int i] := by
  rw [x_checked_row]
  push_cast [b_checked_row, row_with_non h hz hi, show isNon .non = true from rfl, mx_2, fl_int]
theorem checked_row_no {b : Bool} {Z : List Zt} (h : ZOk Z) {a : Str} (ha : a ∉ nmsZ Z) (i : D) : run prog ns (k + 8) 6 [eS b Z, eT b Z, .str a, i] = M.raise 0 [.str a] := by
  rw [x_checked_row]
  push_cast [b_checked_row, row_with_no h ha]
end
section
variable {ns : List Int} {k : Nat}
theorem refers_to_eq {b : Bool} {Z : List Zt} (h : ZOk Z) {z : Zt} (hz : z ∈ Z) (r : Row) (hw : r.2.length + 1 = z.1.cols.length) (ht : ∀ t ∈ z.1.ties, t.1 ∈ z.1.cols) : run prog ns (k + 7) 7 [eS b Z, .str z.1.nm, eR true r] = M.ret (.lst ((refsK z.1 r).map eP)) := by
  have h3 := (h.k z hz).t
  rw [x_refers_to]
  push_cast [b_refers_to, kind_with_eq h hz, eK_1, eK_2, eTie, sqT, idx_recvT]
  rw [cg_congr (G := fun t => M.ret (some (D.tup [.str t.2, .int (atC z.1 r t.1)]))) fun t hm => by
    have hl : plc t.1 z.1.cols < r.2.length + 1 := by rw [hw]; exact plc_lt (ht t hm)
    push_cast [idx_at (ht t hm), eR_at true hl, atC_e]]
  push_cast [refs_map, refs_len, ln_of (show z.1.ties.length ≤ 10000000 by omega)]
theorem referrers_eq {b : Bool} {Z : List Zt} (h : ZOk Z) (T : TiesOk Z) {z : Zt} (hz : z ∈ Z) {r : Row} (hr : r ∈ z.2) : run prog ns (k + 9) 8 [eS b Z, eT b Z, .str z.1.nm, .int r.1] = M.ret (.tup ((srtP (refer Z (z.1.nm, r.1))).map eP)) := by
  have hl := allR_len h
  have hl2 := refer_len h (z.1.nm, r.1)
  rw [x_referrers]
  push_cast [b_referrers, checked_row_eq h hz hr, kind_names_eq h, tup_T h, zip_NZ, walk_Rs, tSlots]
  rw [allR_map]
  push_cast [ln_of (show (allR Z).length ≤ 10000000 by omega), eQ]
  rw [cg_congr (G := fun q => if decide ((z.1.nm, r.1) ∈ refsK q.1.1 q.2) = true then M.ret (some (eP (q.1.1.nm, q.2.1))) else M.ret none) fun q hq => by
    obtain ⟨h1, h2⟩ := allR_mem hq
    push_cast [refers_to_eq h h1 q.2 ((h.r q.1 h1).wid q.2 h2) (fun t ht => (T q.1 h1 t ht).1), eP_e, in_pairs, eR_0]]
  push_cast [refer_map, refer_len, ln_of (show (refer Z (z.1.nm, r.1)).length ≤ 10000000 by omega), ev_pairs (show (refer Z (z.1.nm, r.1)).length ≤ 10000000 by omega)]
theorem referrers_non {b : Bool} {Z : List Zt} (h : ZOk Z) {z : Zt} (hz : z ∈ Z) {i : Int} (hi : i ∉ keysR z.2) : run prog ns (k + 9) 8 [eS b Z, eT b Z, .str z.1.nm, .int i] = M.raise 2 [.int i] := by
  rw [x_referrers]
  push_cast [b_referrers, checked_row_non h hz hi]
theorem referrers_no {b : Bool} {Z : List Zt} (h : ZOk Z) {a : Str} (ha : a ∉ nmsZ Z) (i : D) : run prog ns (k + 9) 8 [eS b Z, eT b Z, .str a, i] = M.raise 0 [.str a] := by
  rw [x_referrers]
  push_cast [b_referrers, checked_row_no h ha]
def bodyWR : MSs := (.cons (.app 4 (.ite (.op .eq (.var 5) (.var 2)) (.bi .tuple (.bi .sort (.var 3))) (.var 6))) .nil)
theorem b_with_rows_eq : b_with_rows = (.cons (.asg true (.slot 4) (.lst .nil)) (.cons (.for_ (.tup (.cons (.slot 5) (.cons (.slot 6) .nil))) (.zip (.call 1 (.cons false (.var 0) .nil)) (.call 0 (.cons false (.var 1) .nil))) [5, 6] bodyWR) (.cons (.ret (.bi .tuple (.bor 4))) .nil))) := nr rfl
def envWR (b : Bool) (Z : List Zt) (nm : Str) (rs : List Row) (a : List (List Row)) : Mi.Env := [.vl (eS b Z), .vl (eT b Z), .vl (.str nm), .vl (.lst (rs.map (eR true))), .ow (.lst (a.map (eRs true))), .no, .no]
theorem with_rows_eq {b : Bool} {Z : List Zt} (h : ZOk Z) (nm : Str) (rs : List Row) (hl : rs.length ≤ 2000) : run prog ns (k + 6) 9 [eS b Z, eT b Z, .str nm, .lst (rs.map (eR true))] = M.ret (.tup ((Z.map (pick nm (srtR rs))).map (eRs true))) := by
  have hn := h.n
  rw [x_with_rows, b_with_rows_eq]
  push_cast [kind_names_eq h, tup_T h, zip_NZ]
  have := (forGo_fold (t := .tup (.cons (.slot 5) (.cons (.slot 6) .nil))) (dead := [5, 6]) (body := exSs (cf ns (k + 5)) bodyWR) (f := fun z : Zt => D.tup [.str z.1.nm, eRs true z.2]) (envWR b Z nm rs) (fun acc z => acc ++ [pick nm (srtR rs) z]) (fun zs acc => acc.length + zs.length ≤ 100) (fun z r acc hi => ?_) Z [] (by rw [List.length_nil]; omega)).1
  · rw [show ([.vl (eS b Z), .vl (eT b Z), .vl (.str nm), .vl (.lst (rs.map (eR true))), .ow (.lst []), .no, .no] : Mi.Env) = envWR b Z nm rs [] from rfl, this, foldl_map, List.nil_append]
    generalize hq : Z.map (pick nm (srtR rs)) = q
    push_cast [envWR]
    try rw [← hq, List.map_map]
  · rw [List.length_cons] at hi
    have hlt : (acc.length < lineMax) = True := eq_true (by unfold lineMax; omega)
    refine ⟨_, [.vl (eS b Z), .vl (eT b Z), .vl (.str nm), .vl (.lst (rs.map (eR true))), .ow (.lst ((acc ++ [pick nm (srtR rs) z]).map (eRs true))), .vl (.str z.1.nm), .vl (eRs true z.2)], rfl, ?_, rfl, by rw [List.length_append]; simp only [List.length_cons, List.length_nil]; omega⟩
    show exSs (cf ns (k + 5)) bodyWR [.vl (eS b Z), .vl (eT b Z), .vl (.str nm), .vl (.lst (rs.map (eR true))), .ow (.lst (acc.map (eRs true))), .vl (.str z.1.nm), .vl (eRs true z.2)] = _
    by_cases e : z.1.nm = nm
    · push_cast [bodyWR, eqS, decide_eq_true e, ev_rows (show rs.length ≤ 10000000 by omega), hlt, List.map_append, pick, if_pos e]
      rfl
    · push_cast [bodyWR, eqS, decide_eq_false e, hlt, List.map_append, pick, if_neg e]
end
section
variable {ns : List Int} {k : Nat}
def bodyPR : MSs := (.cons (.expr (.call 6 (.cons false (.var 0) (.cons false (.var 1) (.cons false (.var 6) (.cons false (.var 7) .nil)))))) .nil)
def tailPR : MSs := (.cons (.ret (.call 9 (.cons false (.var 0) (.cons false (.var 1) (.cons false (.var 2) (.cons false (.lst (.cons true (.var 4) (.cons false (.var 5) .nil))) .nil)))))) .nil)
theorem b_put_row_eq : b_put_row = (.cons (.par 4 5 false false (.call 4 (.cons false (.var 0) (.cons false (.var 1) (.cons false (.var 2) .nil)))) (.call 0 (.cons false (.var 3) .nil))) (.cons (.ite (.op .ne (.bi .len (.var 5)) (.bi .len (.ix (.call 3 (.cons false (.var 0) (.cons false (.var 2) .nil))) (.cst (.int 1))))) (.cons (.raise 7 .nil) .nil) .nil) (.cons (.ite (.isN true (.call 5 (.cons false (.var 0) (.cons false (.var 1) (.cons false (.var 2) (.cons false (.ix (.var 5) (.cst (.int 0))) .nil)))))) (.cons (.raise 6 (.cons false (.ix (.var 5) (.cst (.int 0))) .nil)) .nil) .nil) (.cons (.for_ (.tup (.cons (.slot 6) (.cons (.slot 7) .nil))) (.it (.call 7 (.cons false (.var 0) (.cons false (.var 2) (.cons false (.var 5) .nil))))) [6, 7] bodyPR) tailPR)))) := nr rfl
def envPR (S T nm row rows : D) : Mi.Env := [.vl S, .vl T, .vl nm, .vl row, .vl rows, .vl row, .no, .no]
theorem loopPR {b : Bool} {Z : List Zt} (h : ZOk Z) (nm row rows own : D) : ∀ (ps : List Pr), (∀ p ∈ ps, p.1 ∈ nmsZ Z) → forGo (.tup (.cons (.slot 6) (.cons (.slot 7) .nil))) [6, 7] (exSs (cf ns (k + 8)) bodyPR) (ps.map eP) [.vl (eS b Z), .vl (eT b Z), .vl nm, .vl row, .vl rows, .vl own, .no, .no] = (match miss Z ps with
    | some i => M.raise 2 [.int i]
    | none => M.ret (.nx, [.vl (eS b Z), .vl (eT b Z), .vl nm, .vl row, .vl rows, .vl own, .no, .no]))
  | [], _ => rfl
  | p :: ps, hp => by
    have ih := loopPR (b := b) h nm row rows own ps fun q hq => hp q (List.mem_cons_of_mem _ hq)
    obtain ⟨z, hz, e⟩ := nms_of (hp p (List.mem_cons_self ..))
    obtain ⟨a, i⟩ := p
    have e : z.1.nm = a := e
    subst e
    rw [List.map_cons, forGo_cons, show bindT (.tup (.cons (.slot 6) (.cons (.slot 7) .nil))) (eP (z.1.nm, i)) [.vl (eS b Z), .vl (eT b Z), .vl nm, .vl row, .vl rows, .vl own, .no, .no] = some [.vl (eS b Z), .vl (eT b Z), .vl nm, .vl row, .vl rows, .vl own, .vl (.str z.1.nm), .vl (.int i)] from rfl, q_some, q_ret, miss, keysN_in h hz]
    by_cases hk : i ∈ keysR z.2
    · obtain ⟨r, hr, er⟩ := key_row hk
      subst er
      rw [if_pos hk, show exSs (cf ns (k + 8)) bodyPR [.vl (eS b Z), .vl (eT b Z), .vl nm, .vl row, .vl rows, .vl own, .vl (.str z.1.nm), .vl (.int r.1)] = M.ret (.nx, [.vl (eS b Z), .vl (eT b Z), .vl nm, .vl row, .vl rows, .vl own, .vl (.str z.1.nm), .vl (.int r.1)]) from by push_cast [bodyPR, checked_row_eq h hz hr], q_ret]
      exact ih
    · rw [if_neg hk, show exSs (cf ns (k + 8)) bodyPR [.vl (eS b Z), .vl (eT b Z), .vl nm, .vl row, .vl rows, .vl own, .vl (.str z.1.nm), .vl (.int i)] = M.raise 2 [.int i] from by push_cast [bodyPR, checked_row_non h hz hk], q_rs]
theorem tup_ints {b : Bool} {xs : List Int} (h : xs.length ≤ 1000) : run prog ns (k + 2) 0 [sq b (xs.map .int)] = M.ret (.tup (xs.map .int)) := tup_seq (by omega) fun x _ => tup_int x
theorem put_row_eq {b c : Bool} {Z : List Zt} (h : ZOk Z) (T : TiesOk Z) (nm : Str) (row : List Int) (hl : row.length ≤ 1000) : run prog ns (k + 9) 10 [eS b Z, eT b Z, .str nm, sq c (row.map .int)] = (putO Z nm row).m := by
  rw [x_put_row, b_put_row_eq]
  by_cases hn : nm ∈ nmsZ Z
  · obtain ⟨z, hz, e⟩ := nms_of hn
    subst e
    have K := h.k z hz
    have hc1 := K.c1
    by_cases hw : row.length = z.1.cols.length
    · match row, hw, hl with
      | [], hw, _ => simp only [List.length_nil] at hw; omega
      | x :: l, hw, hl =>
        simp only [List.length_cons] at hw hl
        rw [putO_in h hz x l hw]
        have et : run prog ns (k + 8) 0 [sq c ((x :: l).map .int)] = M.ret (eR true (x, l)) := tup_ints (k := k + 6) (b := c) (xs := x :: l) (by rw [List.length_cons]; omega)
        generalize sq c ((x :: l).map D.int) = X at et ⊢
        have el : (((l.length + 1 : Nat) : Int) == (z.1.cols.length : Int)) = true := by rw [hw]; exact beq_self_eq_true _
        by_cases hk : x ∈ keysR z.2
        · rw [if_pos hk]
          obtain ⟨r, hr, er⟩ := key_row hk
          subst er
          push_cast [rows_of_eq h hz, et, len_R, kind_with_eq h hz, eK_1, ne_int, el, eR_0, row_with_eq h hz hr, isN_R, mx_6, fl_int]
          rfl
        · rw [if_neg hk]
          have e3 := refers_to_eq (ns := ns) (k := k + 1) (b := b) h hz (x, l) hw (fun t ht => (T z hz t ht).1)
          have hp : ∀ p ∈ refsK z.1 (x, l), p.1 ∈ nmsZ Z := refs_in T hz (x, l)
          push_cast [rows_of_eq h hz, et, len_R, kind_with_eq h hz, eK_1, ne_int, el, eR_0, row_with_non h hz hk, isN_non, e3]
          rw [loopPR (b := b) h _ _ _ _ _ hp]
          cases hm : miss Z (refsK z.1 (x, l)) with
          | some i =>
            norm_cast0
            rfl
          | none =>
            have hz2 := row_len Z h z hz
            push_cast [tailPR, itm_Rs, List.append_nil, rows_snoc, ln_of (show (z.2 ++ [(x, l)]).length ≤ 10000000 by rw [List.length_append, List.length_singleton]; omega)]
            rw [with_rows_eq h z.1.nm (z.2 ++ [(x, l)]) (by rw [List.length_append, List.length_singleton]; omega)]
            norm_cast0
            rfl
    · rw [putO_un h hz hw]
      have el : ((row.length : Int) == (z.1.cols.length : Int)) = false := beq_eq_false_iff_ne.mpr fun e => hw (by omega)
      push_cast [rows_of_eq h hz, tup_ints hl, kind_with_eq h hz, eK_1, ne_int, el, mx_7]
      rfl
  · rw [putO_no hn]
    push_cast [rows_of_no h hn]
    rfl
theorem take_row_eq {b : Bool} {Z : List Zt} (h : ZOk Z) (T : TiesOk Z) (nm : Str) (i : Int) : run prog ns (k + 10) 11 [eS b Z, eT b Z, .str nm, .int i] = (takeO Z nm i).m := by
  rw [x_take_row]
  by_cases hn : nm ∈ nmsZ Z
  · obtain ⟨z, hz, e⟩ := nms_of hn
    subst e
    have hz2 := row_len Z h z hz
    rw [takeO_in h hz]
    by_cases hk : i ∈ keysR z.2
    · rw [if_pos hk]
      obtain ⟨r, hr, er⟩ := key_row hk
      subst er
      have e1 := referrers_eq (ns := ns) (k := k) (b := b) h T hz hr
      by_cases he : refer Z (z.1.nm, r.1) = []
      · rw [if_pos he]
        rw [he] at e1
        have e2 : srtP [] = [] := by rw [srtP, List.mergeSort_nil]
        rw [e2] at e1
        have hf := List.length_filter_le (fun q : Row => !(q.1 == r.1)) z.2
        push_cast [b_take_row, e1, rows_of_eq h hz, walk_Rs, eR_0, ln_of (show (z.2.filter fun q : Row => !(q.1 == r.1)).length ≤ 10000000 by omega), show decide ((0 : Int) < ((0 : Nat) : Int)) = false from rfl]
        rw [with_rows_eq h z.1.nm _ (by omega)]
        norm_cast0
        rfl
      · rw [if_neg he]
        have e2 : 0 < (srtP (refer Z (z.1.nm, r.1))).length := by rw [srtP_len]; exact List.length_pos_iff.mpr he
        push_cast [b_take_row, e1, decide_eq_true (show (0 : Int) < ((srtP (refer Z (z.1.nm, r.1))).length : Int) by omega), mx_7]
        rfl
    · rw [if_neg hk]
      push_cast [b_take_row, referrers_non h hz hk]
      rfl
  · rw [takeO_no hn]
    push_cast [b_take_row, referrers_no h hn]
    rfl
end
section
variable {ns : List Int} {k : Nat}
theorem lists_leaf {d : D} (h : anyTy d [.list, .tuple] = some false) : run prog ns (k + 1) 16 [d] = M.ret d := by
  rw [x_l_lists]
  push_cast [b_l_lists, h]
theorem lists_str (a : Str) : run prog ns (k + 1) 16 [.str a] = M.ret (.str a) := lists_leaf rfl
theorem lists_int (a : Int) : run prog ns (k + 1) 16 [.int a] = M.ret (.int a) := lists_leaf rfl
theorem lists_seq {α : Type} {b : Bool} {xs : List α} {f g : α → D} (hl : xs.length ≤ 10000000) (h : ∀ x ∈ xs, run prog ns k 16 [f x] = M.ret (g x)) : run prog ns (k + 1) 16 [sq b (xs.map f)] = M.ret (.lst (xs.map g)) := by
  rw [x_l_lists]
  push_cast [b_l_lists, ln_of hl]
  rw [cg_congr (G := fun x => M.ret (some (g x))) fun x hx => by rw [h x hx]; rfl]
  push_cast [ln_of hl]
theorem lists_strs {b : Bool} {xs : List Str} (h : xs.length ≤ 10000000) : run prog ns (k + 2) 16 [sq b (xs.map .str)] = M.ret (.lst (xs.map .str)) := lists_seq h fun x _ => lists_str x
theorem lists_row {b : Bool} {xs : Row} (h : xs.2.length + 1 ≤ 10000000) : run prog ns (k + 2) 16 [eR b xs] = M.ret (eR false xs) := lists_seq h fun x _ => lists_int x
theorem lists_tie {b : Bool} (t : Str × Str) : run prog ns (k + 2) 16 [eTie b t] = M.ret (eTie false t) := lists_strs (b := b) (xs := [t.1, t.2]) (by simp)
theorem lists_kd {b : Bool} {K : Kd} (h : KOk K) : run prog ns (k + 4) 16 [eK b K] = M.ret (eK false K) :=
  lists_seq (b := b) (xs := [(D.str K.nm, D.str K.nm), (sq b (K.cols.map .str), .lst (K.cols.map .str)), (sq b (K.ties.map (eTie b)), .lst (K.ties.map (eTie false)))]) (f := Prod.fst) (g := Prod.snd) (by simp) fun x hx => by
    simp only [List.mem_cons, List.not_mem_nil, or_false] at hx
    have h2 := h.c2
    have h3 := h.t
    rcases hx with rfl | rfl | rfl
    · exact lists_str _
    · exact lists_strs (k := k + 1) (by omega)
    · exact lists_seq (by omega) fun t _ => lists_tie t
theorem lists_S {b : Bool} {Z : List Zt} (h : ZOk Z) : run prog ns (k + 5) 16 [eS b Z] = M.ret (eS false Z) := lists_seq (by have := h.n; omega) fun z hz => lists_kd (h.k z hz)
theorem lists_rows {b : Bool} {K : Kd} {rs : List Row} (h : KOk K) (r : ROk K rs) : run prog ns (k + 3) 16 [eRs b rs] = M.ret (eRs false rs) := lists_seq (by have := r.len; omega) fun x hx => lists_row (by have := r.wid x hx; have := h.c2; omega)
theorem lists_T {b : Bool} {Z : List Zt} (h : ZOk Z) : run prog ns (k + 4) 16 [eT b Z] = M.ret (eT false Z) := lists_seq (by have := h.n; omega) fun z hz => lists_rows (h.k z hz) (h.r z hz)
theorem lists_ST {Z : List Zt} (h : ZOk Z) : run prog ns (k + 6) 16 [.lst [eS true Z, eT true Z]] = M.ret (.lst [eS false Z, eT false Z]) :=
  lists_seq (b := false) (xs := [(eS true Z, eS false Z), (eT true Z, eT false Z)]) (f := Prod.fst) (g := Prod.snd) (by simp) fun x hx => by
    simp only [List.mem_cons, List.not_mem_nil, or_false] at hx
    rcases hx with rfl | rfl
    · exact lists_S (b := true) h
    · exact lists_T (b := true) (k := k + 1) h
theorem spot_fun (a : Str) (b : Bool) (xs : List Str) (i : Nat) (y : Str) : cT (cf ns k) (.var 2) (.tup (.cons (.slot 2) (.cons (.slot 3) .nil))) (.cons false (.op .eq (.var 3) (.var 1)) .nil) [.vl (sq b (xs.map .str)), .vl (.str a), .no, .no] (.tup [.int i, .str y]) = if y = a then M.ret (some (.int i)) else M.ret none := by
  push_cast [eqS]
  by_cases h : y = a
  · rw [if_pos h, decide_eq_true h]; rfl
  · rw [if_neg h, decide_eq_false h]; rfl
theorem spot_eq {b : Bool} {xs : List Str} {a : Str} (h : a ∈ xs) (hl : xs.length ≤ 10000000) : run prog ns (k + 1) 18 [sq b (xs.map .str), .str a] = M.ret (.int (plc a xs)) := by
  have h2 := places_len a xs 0
  rw [x_l_spot]
  push_cast [b_l_spot]
  rw [places_go (spot_fun a b xs)]
  push_cast [ln_of (show (places a xs 0).length ≤ 10000000 by omega), at_places h]
theorem spot_l {xs : List Str} {a : Str} (h : a ∈ xs) (hl : xs.length ≤ 10000000) : run prog ns (k + 1) 18 [.lst (xs.map .str), .str a] = M.ret (.int (plc a xs)) := spot_eq (b := false) h hl
theorem spot_t {xs : List Str} {a : Str} (h : a ∈ xs) (hl : xs.length ≤ 10000000) : run prog ns (k + 1) 18 [.tup (xs.map .str), .str a] = M.ret (.int (plc a xs)) := spot_eq (b := true) h hl
theorem spot_nmsZ {Z : List Zt} (h : ZOk Z) {z : Zt} (hz : z ∈ Z) : run prog ns (k + 1) 18 [.lst ((nmsZ Z).map .str), .str z.1.nm] = M.ret (.int (plc z.1.nm (nmsZ Z))) := spot_l (in_nms hz) (by rw [nms_len]; have := h.n; omega)
theorem same_sq {b : Bool} {xs : List D} (hl : xs.length ≤ 10000000) (h : ∀ x ∈ xs, run prog ns k 17 [x, x] = M.ret (.bl true)) : run prog ns (k + 1) 17 [sq b xs, sq b xs] = M.ret (.bl true) := by
  rw [x_l_same]
  push_cast [b_l_same, neB, beq_self_eq_true, eq_int, zip_self]
  rw [cg_congr (G := fun x => M.ret (some (.bl true))) fun x hx => by rw [h x hx]; rfl]
  push_cast [ln_of hl]
  rw [show xs.all (fun _ => true) = true from List.all_eq_true.mpr fun _ _ => rfl]
theorem same_int (i : Int) : run prog ns (k + 1) 17 [.int i, .int i] = M.ret (.bl true) := by
  rw [x_l_same]
  push_cast [b_l_same, beq_self_eq_true, eq_int, isNon]
theorem same_str (i : Str) : run prog ns (k + 1) 17 [.str i, .str i] = M.ret (.bl true) := by
  rw [x_l_same]
  push_cast [b_l_same, beq_self_eq_true, eqS, eqBl, isNon, decide_true]
theorem same_bl (i : Bool) : run prog ns (k + 1) 17 [.bl i, .bl i] = M.ret (.bl true) := by
  rw [x_l_same]
  push_cast [b_l_same, beq_self_eq_true, eqBl, isNon]
theorem same_non : run prog ns (k + 1) 17 [.non, .non] = M.ret (.bl true) := by
  rw [x_l_same]
  push_cast [b_l_same, beq_self_eq_true, eqBl, eqN, isNon]
theorem same_refl : ∀ (n : Nat) (d : D), fits n d = true → run prog ns (k + n + 1) 17 [d, d] = M.ret (.bl true)
  | n, .int i, _ => same_int i
  | n, .str i, _ => same_str i
  | n, .bl i, _ => same_bl i
  | n, .non, _ => same_non
  | 0, .tup xs, h => by simp [fits] at h
  | 0, .lst xs, h => by simp [fits] at h
  | n + 1, .tup xs, h => by
    simp only [fits, Bool.and_eq_true, decide_eq_true_eq] at h
    exact same_sq (b := true) h.1 fun x hx => same_refl n x (fitsL_mem h.2 x hx)
  | n + 1, .lst xs, h => by
    simp only [fits, Bool.and_eq_true, decide_eq_true_eq] at h
    exact same_sq (b := false) h.1 fun x hx => same_refl n x (fitsL_mem h.2 x hx)
theorem same5 {d : D} (h : fits 5 d = true) : run prog ns (k + 6) 17 [d, d] = M.ret (.bl true) := same_refl (k := k) 5 d h
theorem same7 {d : D} (h : fits 7 d = true) : run prog ns (k + 8) 17 [d, d] = M.ret (.bl true) := same_refl (k := k) 7 d h
end
section
variable {ns : List Int} {k : Nat}
theorem take_dr {N : Int} (h1 : 0 < N) (h2 : N < 1073741824) : Dr 1 (run prog ns (k + 1) i_l_take [.box, .int N]) fun v => ∃ i : Int, v = .int i ∧ 0 ≤ i ∧ i < N := by
  intro M b ⟨g, m, c, e, c0, c1⟩
  subst e
  have c2 : c + 1 ≤ 2 ^ 60 := by omega
  show WP ((exSs ⟨run prog ns k, prog.glob, ns⟩ b_l_take [.vl .box, .vl (.int N), .no, .no, .no, .no]).bd rtM) _ _
  rw [b_l_take]
  by_cases hg : 0 < g
  · rw [sq_ite]
    push_cast only [WP_bd, WP_ret, WP_ix0, WP_ofO, decide_eq_true hg]
    rw [sq_asg (lenlt rfl)]
    push_cast only [WP_bd, WP_ret, WP_ix0, WP_ofO, mod_int h1]
    rw [sq_bset rfl]
    push_cast only [WP_bd, WP_ret, WP_ix0, WP_set0, WP_ofO, fdiv_int h1 h2]
    rw [sq_ret]
    push_cast only [WP_bd, WP_ret, WP_ofO]
    exact ⟨⟨_, rfl, Int.emod_nonneg _ (by omega), Int.emod_lt_of_pos _ h1⟩, _, _, _, rfl, c0, by omega⟩
  · have s1 : small64 48271 = true := by decide
    have s2 : small64 (39373 + (c + 1)) = true := small_of (by omega) (by omega)
    have s3 : ∀ x : Int, small64 (x % 40009 + 7) = true := fun x => small_of (by have := Int.emod_nonneg x (show (40009 : Int) ≠ 0 by decide); omega) (by have := Int.emod_lt_of_pos x (show (0 : Int) < 40009 by decide); omega)
    rw [sq_ite]
    push_cast only [WP_bd, WP_ret, WP_ix0, WP_ofO, decide_eq_false hg, sq_nil]
    rw [sq_bset rfl]
    push_cast only [WP_bd, WP_ret, WP_ix0, WP_ix2, WP_set2, WP_ofO]
    generalize hc : c + 1 = c' at s2 ⊢
    rw [sq_asg (lenlt rfl)]
    push_cast only [WP_bd, WP_ret, WP_ix1, WP_ix2, WP_ofO, mulL s1, mulR s2, mod_int (show (0 : Int) < 2147483647 by omega)]
    generalize ((m + 48271 * c') * (39373 + c')) % 2147483647 = once
    rw [sq_asg (lenlt rfl)]
    push_cast only [WP_bd, WP_ret, WP_ix1, WP_ix2, WP_ofO, mod_int (show (0 : Int) < 40009 by omega)]
    have s4 := s3 once
    generalize once % 40009 + 7 = far at s4 ⊢
    rw [sq_asg (lenlt rfl)]
    push_cast only [WP_bd, WP_ret, WP_ix1, WP_ix2, WP_ofO, fdiv_int (show (0 : Int) < 1000003 by omega) (show (1000003 : Int) < 1073741824 by omega), mulR s4, mod_int (show (0 : Int) < 2147483629 by omega)]
    generalize ((once + c' + m / 1000003) * far) % 2147483629 = twice
    rw [sq_ret]
    push_cast only [WP_bd, WP_ret, WP_ofO, mulR s1, mod_int (show (0 : Int) < 2147483587 by omega), fdiv_int (show (0 : Int) < 64 by omega) (show (64 : Int) < 1073741824 by omega), mod_int h1]
    exact ⟨⟨_, rfl, Int.emod_nonneg _ (by omega), Int.emod_lt_of_pos _ h1⟩, _, _, _, rfl, by omega, by omega⟩
theorem of_sq {b : Bool} {xs : List D} (h : xs ≠ []) (hl : xs.length < 1000000000) : Dr 1 (run prog ns (k + 2) 15 [.box, sq b xs]) fun v => v ∈ xs := by
  have h0 : 0 < xs.length := List.length_pos_iff.mpr h
  rw [x_l_of]
  push_cast [b_l_of]
  refine Dr.rt (take_dr (ns := ns) (k := k) (show (0 : Int) < xs.length by omega) (by omega)) fun v ⟨i, hv, i0, i1⟩ => ?_
  subst hv
  obtain ⟨j, rfl⟩ : ∃ j : Nat, i = j := ⟨i.toNat, by omega⟩
  norm_cast0
  rw [atI_nat, List.getElem?_eq_getElem (by omega)]
  exact Dr.ret (List.getElem_mem _)
theorem of_dr {xs : List D} (h : xs ≠ []) (hl : xs.length < 1000000000) : Dr 1 (run prog ns (k + 2) 15 [.box, .lst xs]) fun v => v ∈ xs := of_sq (b := false) h hl
theorem take_nat {N : Int} (h1 : 0 < N) (h2 : N < 1073741824) : Dr 1 (run prog ns (k + 1) i_l_take [.box, .int N]) fun v => ∃ i : Nat, v = .int i ∧ (i : Int) < N :=
  (take_dr h1 h2).imp fun v ⟨i, e, h0, hN⟩ => ⟨i.toNat, by rw [e, Int.toNat_of_nonneg h0], by rw [Int.toNat_of_nonneg h0]; exact hN⟩
end
section
variable {ns : List Int} {k : Nat}
def sDept : Str := ⟨#[100, 101, 112, 116]⟩
def sEmp : Str := ⟨#[101, 109, 112]⟩
def sId : Str := ⟨#[105, 100]⟩
def sName : Str := ⟨#[110, 97, 109, 101]⟩
def sPay : Str := ⟨#[112, 97, 121]⟩
def deptK (i : Nat) : Kd := ⟨sDept, [sId, sName].take (1 + i), []⟩
def empK (j t : Nat) : Kd := ⟨sEmp, [sId, sDept, sPay].take (2 + j), if t = 0 then [(sDept, sDept)] else []⟩
def schs : List (List Kd) := [0, 1].flatMap fun i => [deptK i] :: [0, 1].flatMap fun j => [0, 1].map fun t => [deptK i, empK j t]
theorem schs_ok : schs.all (fun Ks => decide (Ks.length ≤ 3) && schChk [] Ks) = true := by decide +kernel
theorem sch_ok {Ks : List Kd} (h : Ks ∈ schs) : SchOk Ks := by
  have hc := List.all_eq_true.mp schs_ok Ks h
  simp only [Bool.and_eq_true, decide_eq_true_eq] at hc
  exact sch_of hc.1 hc.2
theorem mem_schs1 : ∀ i, i < 2 → [deptK i] ∈ schs := by decide +kernel
theorem mem_schs2 : ∀ i, i < 2 → ∀ j, j < 2 → ∀ t, t < 2 → [deptK i, empK j t] ∈ schs := by decide +kernel
def bodyW : MSs := (.cons (.asg false (.slot 3) (.ix (.tup (.cons false (.tup (.cons false (.tup (.cons false (.cst (.str ⟨#[100, 101, 112, 116]⟩)) (.cons false (.cst (.str ⟨#[100, 101, 112, 116]⟩)) .nil))) .nil)) (.cons false (.tup .nil) .nil))) (.call 13 (.cons false (.var 0) (.cons false (.cst (.int 2)) .nil))))) (.cons (.ret (.tup (.cons false (.var 2) (.cons false (.tup (.cons false (.cst (.str ⟨#[101, 109, 112]⟩)) (.cons false (.sl (.tup (.cons false (.cst (.str ⟨#[105, 100]⟩)) (.cons false (.cst (.str ⟨#[100, 101, 112, 116]⟩)) (.cons false (.cst (.str ⟨#[112, 97, 121]⟩)) .nil)))) .none (.some (.op .add (.cst (.int 2)) (.call 13 (.cons false (.var 0) (.cons false (.cst (.int 2)) .nil)))))) (.cons false (.var 3) .nil)))) .nil)))) .nil))
theorem b_l_schema_eq : b_l_schema = (.cons (.asg false (.slot 2) (.tup (.cons false (.cst (.str ⟨#[100, 101, 112, 116]⟩)) (.cons false (.sl (.tup (.cons false (.cst (.str ⟨#[105, 100]⟩)) (.cons false (.cst (.str ⟨#[110, 97, 109, 101]⟩)) .nil))) .none (.some (.op .add (.cst (.int 1)) (.call 13 (.cons false (.var 0) (.cons false (.cst (.int 2)) .nil)))))) (.cons false (.tup .nil) .nil))))) (.cons (.ite (.notE (.var 1)) (.cons (.ret (.tup (.cons false (.var 2) .nil))) .nil) .nil) bodyW)) := nr rfl
theorem deptK_e (i : Nat) : D.tup [.str ⟨#[100, 101, 112, 116]⟩, .tup ([D.str ⟨#[105, 100]⟩, D.str ⟨#[110, 97, 109, 101]⟩].take (1 + i)), .tup []] = eK true (deptK i) := by
  rw [eK, deptK, List.map_take]; rfl
theorem empK_e (j t : Nat) : D.tup [.str ⟨#[101, 109, 112]⟩, .tup ([D.str ⟨#[105, 100]⟩, D.str ⟨#[100, 101, 112, 116]⟩, D.str ⟨#[112, 97, 121]⟩].take (2 + j)), if t = 0 then .tup [.tup [.str ⟨#[100, 101, 112, 116]⟩, .str ⟨#[100, 101, 112, 116]⟩]] else .tup []] = eK true (empK j t) := by
  rw [eK, empK, List.map_take]
  by_cases h : t = 0
  · rw [if_pos h, if_pos h]; rfl
  · rw [if_neg h, if_neg h]; rfl
theorem schema_dr (two : Bool) : Dr 3 (run prog ns (k + 2) 19 [.box, .bl two]) fun v => ∃ Ks ∈ schs, v = eSk true Ks := by
  rw [x_l_schema, b_l_schema_eq]
  norm_cast0
  refine (Dr.bd (n2 := 2) (take_nat (ns := ns) (k := k) (show (0 : Int) < 2 by omega) (by omega)) fun v ⟨i, hv, hi⟩ => ?_).more (n := 1 + 2) (by omega)
  subst hv
  have hi : i < 2 := by omega
  push_cast [add1i, cut_to, deptK_e]
  cases two with
  | false =>
    norm_cast0
    exact (Dr.ret ⟨_, mem_schs1 i hi, rfl⟩).more (by omega)
  | true =>
    push_cast [bodyW]
    refine (Dr.bd (n2 := 1) (take_nat (ns := ns) (k := k) (show (0 : Int) < 2 by omega) (by omega)) fun v ⟨t, hv, ht⟩ => ?_).more (n := 1 + 1) (by omega)
    subst hv
    have ht : t < 2 := by omega
    push_cast [at_two _ _ ht]
    refine Dr.rt (take_nat (ns := ns) (k := k) (show (0 : Int) < 2 by omega) (by omega)) fun v ⟨j, hv, hj⟩ => ?_
    subst hv
    have hj : j < 2 := by omega
    push_cast [add2i, cut_to, empK_e]
    exact Dr.ret ⟨_, mem_schs2 i hi j hj t ht, rfl⟩
end
section
variable {ns : List Int} {k : Nat}
def bodyT : MSs := (.cons (.asg false (.slot 15) (.call 18 (.cons false (.comp (.ix (.var 17) (.cst (.int 0))) (.slot 17) (.it (.var 1)) .nil [17]) (.cons false (.var 14) .nil)))) (.cons (.asg false (.slot 16) (.comp (.ix (.var 17) (.cst (.int 0))) (.slot 17) (.it (.ix (.bor 4) (.var 15))) .nil [17])) (.cons (.ite (.op .eq (.var 16) (.lst .nil)) (.cons (.asg false (.slot 12) (.cst (.bl false))) .nil) (.cons (.seti 11 (.call 18 (.cons false (.var 6) (.cons false (.var 13) .nil))) (.call 15 (.cons false (.var 0) (.cons false (.var 16) .nil)))) .nil)) .nil)))
def restM : MSs := (.cons (.ite (.var 12) (.cons (.app 9 (.bi .tuple (.bor 11))) (.cons (.app 10 (.ix (.bor 11) (.cst (.int 0)))) .nil)) .nil) .nil)
def rowE : ME := (.comp (.call 13 (.cons false (.var 0) (.cons false (.var 3) .nil))) (.slot 17) (.it (.var 6)) .nil [17])
def bodyM : MSs := (.cons (.asg true (.slot 11) rowE) (.cons (.asg false (.slot 12) (.op .nin (.ix (.bor 11) (.cst (.int 0))) (.bor 10))) (.cons (.for_ (.tup (.cons (.slot 13) (.cons (.slot 14) .nil))) (.it (.var 7)) [13, 14, 15, 16] bodyT) restM)))
def srcM : MSrc := (.range (.call 13 (.cons false (.var 0) (.cons false (.op .add (.var 2) (.cst (.int 1))) .nil))))
def restO : MSs := (.cons (.app 4 (.bi .tuple (.bi .sort (.bor 9)))) .nil)
def bodyO : MSs := (.cons (.par 9 10 true true (.lst .nil) (.lst .nil)) (.cons (.for_ (.slot 8) srcM [8, 11, 12, 13, 14] bodyM) restO))
theorem b_l_store_eq : b_l_store = (.cons (.asg true (.slot 4) (.lst .nil)) (.cons (.for_ (.tup (.cons (.slot 5) (.cons (.slot 6) (.cons (.slot 7) .nil)))) (.it (.var 1)) [5, 6, 7, 8, 9, 10] bodyO) (.cons (.ret (.bi .tuple (.bor 4))) .nil))) := nr rfl
def envS (Ks : List Kd) (m h : Int) (Z : List Zt) (K : Kd) (turn : Sl) (R : List Row) (row : Sl) (g : Sl) (s13 s14 : Sl) : Mi.Env :=
  [.vl .box, .vl (eSk true Ks), .vl (.int m), .vl (.int h), .ow (.lst ((RsZ Z).map (eRs true))), .vl (.str K.nm), .vl (sq true (K.cols.map .str)), .vl (sq true (K.ties.map (eTie true))), turn, .ow (.lst (R.map (eR true))), .ow (.lst ((keysR R).map .int)), row, g, s13, s14, .no, .no, .no]
theorem bodyT_dr {Ks : List Kd} {m h : Int} {Z : List Zt} {K : Kd} {t : Str × Str} (T : TOk Ks Z K t) (hK : Ks.length ≤ 3) (hF : ∀ z ∈ Z, z.2.length ≤ 1000 ∧ ∀ r ∈ z.2, Lw h r) (hc : K.cols.length ≤ 4) (turn : Sl) (R : List Row) (r : Row) (hr : r.2.length + 1 = K.cols.length) (lw : Lw h r) (g : Bool) :
    Dr 1 (exSs (cf ns (k + 2)) bodyT (envS Ks m h Z K turn R (.ow (.lst ((rl r).map .int))) (.vl (.bl g)) (.vl (.str t.1)) (.vl (.str t.2)))) fun q => q.1 = .nx ∧ ∃ (r' : Row) (g' : Bool), r'.1 = r.1 ∧ r'.2.length = r.2.length ∧ Lw h r' ∧ (g' = true → g = true ∧ ∃ x ∈ keysN Z t.2, r' = setRow (plc t.1 K.cols) x r) ∧ q.2.kill [13, 14, 15, 16] = envS Ks m h Z K turn R (.ow (.lst ((rl r').map .int))) (.vl (.bl g')) .no .no := by
  obtain ⟨X, e1, e2, z, hz, ez⟩ := T.o
  have hX := hF z hz
  rw [ez] at hX
  have hs : (nmsK Ks).length ≤ 10000000 := by rw [nmsK_len]; omega
  have hpl := plc_lt T.c
  have hXl := hX.1
  rw [bodyT, envS]
  push_cast [eSk, sqT, eK_0, nmsK_map, nmsK_len, ln_of (show Ks.length ≤ 10000000 by omega), spot_l T.i hs, atI_mapN e1, walk_Rs, eR_0, keysR_map, keysR_len, ln_of (show X.length ≤ 10000000 by omega), eq_nil (row_py (keysR X)).1]
  by_cases hE : ((keysR X).map D.int).isEmpty = true
  · push_cast [hE]
    refine (Dr.ret ⟨rfl, r, false, rfl, rfl, lw, (fun h => nomatch h), rfl⟩).more (Nat.zero_le _)
  · have hne : (keysR X).map D.int ≠ [] := fun z => hE (by rw [z]; rfl)
    rw [Bool.not_eq_true] at hE
    push_cast [hE]
    rw [s_seti rfl]
    norm_cast0
    refine Dr.rt (of_dr (ns := ns) (k := k) hne (by rw [List.length_map, keysR_len]; omega)) fun v hv => ?_
    obtain ⟨x, hx, rfl⟩ := List.mem_map.mp hv
    push_cast [spot_t T.c (show K.cols.length ≤ 10000000 by omega), ixN_nat (show plc t.1 K.cols < (rl r).length by rw [rl_len]; omega)]
    rw [setRow_map T.p]
    have hx2 : 0 ≤ x ∧ x < h := by
      obtain ⟨q, hq, e⟩ := List.mem_map.mp hx
      have := hX.2 q hq q.1 (List.mem_cons_self ..)
      rw [e] at this
      exact this
    exact Dr.ret ⟨rfl, setRow (plc t.1 K.cols) x r, g, rfl, by rw [setRow, List.length_set], lw_set T.p hx2 lw, fun h => ⟨h, x, by rw [e2]; exact hx, rfl⟩, rfl⟩
theorem loopT_dr {Ks : List Kd} {m h : Int} {Z : List Zt} {K : Kd} (hT : ∀ t ∈ K.ties, TOk Ks Z K t) (tn : (K.ties.map fun t => t.1).Nodup) (hK : Ks.length ≤ 3) (hF : ∀ z ∈ Z, z.2.length ≤ 1000 ∧ ∀ r ∈ z.2, Lw h r) (hc : K.cols.length ≤ 4) (turn : Sl) (R : List Row) (r : Row) (hr : r.2.length + 1 = K.cols.length) (lw : Lw h r) (g : Bool) :
    Dr K.ties.length (forGo (.tup (.cons (.slot 13) (.cons (.slot 14) .nil))) [13, 14, 15, 16] (exSs (cf ns (k + 2)) bodyT) (K.ties.map (eTie true)) (envS Ks m h Z K turn R (.ow (.lst ((rl r).map .int))) (.vl (.bl g)) .no .no)) fun q => q.1 = .nx ∧ ∃ (r' : Row) (g' : Bool), r'.1 = r.1 ∧ r'.2.length = r.2.length ∧ Lw h r' ∧ (g' = true → g = true ∧ ∀ t ∈ K.ties, atC K r' t.1 ∈ keysN Z t.2) ∧ q.2 = envS Ks m h Z K turn R (.ow (.lst ((rl r').map .int))) (.vl (.bl g')) .no .no := by
  have := forGo_dr (t := .tup (.cons (.slot 13) (.cons (.slot 14) .nil))) (dead := [13, 14, 15, 16]) (body := exSs (cf ns (k + 2)) bodyT) (c := 1) (fun ds s => ∃ (r' : Row) (g' : Bool) (done rest : List (Str × Str)), s = envS Ks m h Z K turn R (.ow (.lst ((rl r').map .int))) (.vl (.bl g')) .no .no ∧ r'.1 = r.1 ∧ r'.2.length = r.2.length ∧ Lw h r' ∧ (g' = true → g = true ∧ ∀ t ∈ done, atC K r' t.1 ∈ keysN Z t.2) ∧ ds = rest.map (eTie true) ∧ done ++ rest = K.ties)
    (fun d ds s ⟨r', g', done, rest, h1, h2, h3, h4, h5, h6, h7⟩ => by
      subst h1
      cases rest with
      | nil => cases h6
      | cons t rest =>
        rw [List.map_cons] at h6
        injection h6 with h6 h6'
        subst h6
        subst h6'
        have hm : t ∈ K.ties := by rw [← h7]; exact List.mem_append_right _ (List.mem_cons_self ..)
        have T := hT t hm
        have hpl := plc_lt T.c
        refine ⟨_, rfl, (bodyT_dr (ns := ns) (k := k) T hK hF hc turn R r' (by omega) h4 g').imp fun q ⟨e1, r2, g2, e2, e3, e4, e5, e6⟩ => ⟨e1, r2, g2, done ++ [t], rest, e6, by omega, by omega, e4, fun hg => ?_, rfl, by rw [List.append_assoc]; exact h7⟩⟩
        obtain ⟨f1, x, f2, f3⟩ := e5 hg
        obtain ⟨f4, f5⟩ := h5 f1
        refine ⟨f4, fun u hu => ?_⟩
        rw [f3]
        rcases List.mem_append.mp hu with hu | hu
        · have hne : plc u.1 K.cols ≠ plc t.1 K.cols := fun e => by
            have hu2 : u ∈ K.ties := by rw [← h7]; exact List.mem_append_left _ hu
            have e := plc_inj (hT u hu2).c T.c e
            rw [← h7, List.map_append, List.nodup_append] at tn
            exact tn.2.2 u.1 (List.mem_map_of_mem (f := fun t : Str × Str => t.1) hu) t.1 (by rw [List.map_cons]; exact List.mem_cons_self ..) e
          rw [atC_ne T.p hne]
          exact f5 u hu
        · rw [List.mem_singleton.mp hu, atC_same T.p (by omega)]
          exact f2)
    (K.ties.map (eTie true)) _ ⟨r, g, [], K.ties, rfl, rfl, rfl, lw, fun h => ⟨h, fun _ h => nomatch h⟩, rfl, rfl⟩
  refine (this.more (by rw [List.length_map]; omega)).imp fun q ⟨e1, r2, g2, done, rest, e2, e3, e4, e5, e6, e7, e8⟩ => ⟨e1, r2, g2, e3, e4, e5, fun hg => ?_, e2⟩
  have : rest = [] := by
    cases rest with
    | nil => rfl
    | cons _ _ => cases e7
  subst this
  rw [List.append_nil] at e8
  rw [← e8]
  exact e6 hg
theorem cg_dr {α : Type} {P : Int → Prop} {F : α → M (Option D)} : ∀ (ds : List α), (∀ d ∈ ds, Dr 1 (F d) fun o => ∃ i : Int, o = some (.int i) ∧ P i) → Dr ds.length (cg F ds) fun xs => ∃ is : List Int, xs = is.map .int ∧ is.length = ds.length ∧ ∀ i ∈ is, P i
  | [], _ => Dr.ret ⟨[], rfl, rfl, fun _ h => nomatch h⟩
  | d :: ds, h => by
    rw [cg, List.length_cons]
    refine (Dr.bd (h d (List.mem_cons_self ..)) fun o ⟨i, e, p⟩ => ?_).more (n := 1 + ds.length) (by omega)
    subst e
    refine Dr.rt (cg_dr ds fun x hx => h x (List.mem_cons_of_mem _ hx)) fun xs ⟨is, e1, e2, e3⟩ => Dr.ret ⟨i :: is, ?_, ?_, ?_⟩
    · rw [e1]; rfl
    · rw [List.length_cons, e2]
    · intro j hj
      rcases List.mem_cons.mp hj with rfl | hj
      · exact p
      · exact e3 j hj
theorem lstM_dr {α : Type} {n : Nat} {P : Int → Prop} {F : α → M (Option D)} {ds : List α} (hl : ds.length ≤ 10000000) (h : Dr n (cg F ds) fun xs => ∃ is : List Int, xs = is.map .int ∧ is.length = ds.length ∧ ∀ i ∈ is, P i) : Dr n (lstM (cg F ds)) fun v => ∃ is : List Int, v = .lst (is.map .int) ∧ is.length = ds.length ∧ ∀ i ∈ is, P i := by
  unfold lstM
  refine Dr.rt h.nex fun xs ⟨is, e1, e2, e3⟩ => ?_
  subst e1
  rw [List.length_map, if_pos (by unfold lineMax; omega)]
  exact Dr.ret ⟨is, rfl, e2, e3⟩
theorem rowE_dr {Ks : List Kd} {m h : Int} (hh : 0 < h ∧ h ≤ 1000) {Z : List Zt} {K : Kd} (hc : 0 < K.cols.length) (hc2 : K.cols.length ≤ 4) (turn : Sl) (R : List Row) : Dr K.cols.length (evE (cf ns (k + 2)) rowE (envS Ks m h Z K turn R .no .no .no .no)) fun v => ∃ r : Row, r.2.length + 1 = K.cols.length ∧ Lw h r ∧ v = .lst ((rl r).map .int) := by
  rw [rowE, envS]
  push_cast [sqT]
  have h := cg_dr (α := Str) (P := fun i => 0 ≤ i ∧ i < h) (F := fun _ => (run prog ns (k + 2) 13 [.box, .int h]).bd fun x => M.ret (some x)) K.cols fun d hd => Dr.rt (take_dr (ns := ns) (k := k + 1) hh.1 (by omega)) fun v ⟨i, hv, h1, h2⟩ => Dr.ret ⟨i, by rw [hv], h1, h2⟩
  refine Dr.rt h.nex fun xs ⟨is, e1, e2, e3⟩ => ?_
  subst e1
  rw [List.length_map, if_pos (by unfold lineMax; omega)]
  match is, e2, e3 with
  | x :: l, e2, e3 => exact Dr.ret ⟨(x, l), by rw [← e2]; rfl, e3, rfl⟩
  | [], e2, _ => exact absurd e2 (by simp only [List.length_nil]; omega)
theorem bodyM_dr {Ks : List Kd} {m h : Int} (hh : 0 < h ∧ h ≤ 1000) {Z : List Zt} {K : Kd} (hT : ∀ t ∈ K.ties, TOk Ks Z K t) (tn : (K.ties.map fun t => t.1).Nodup) (hK : Ks.length ≤ 3) (hF : ∀ z ∈ Z, z.2.length ≤ 1000 ∧ ∀ r ∈ z.2, Lw h r) (hc : 0 < K.cols.length) (hc2 : K.cols.length ≤ 4) (ht : K.ties.length ≤ 3) (d : D) (R : List Row) (hR : RInv Z h K R) (hl : R.length ≤ 100) :
    Dr 7 (exSs (cf ns (k + 2)) bodyM (envS Ks m h Z K (.vl d) R .no .no .no .no)) fun q => q.1 = .nx ∧ ∃ R', RInv Z h K R' ∧ R'.length ≤ R.length + 1 ∧ q.2.kill [8, 11, 12, 13, 14] = envS Ks m h Z K .no R' .no .no .no .no := by
  have hlt : (R.length < lineMax) = True := eq_true (by unfold lineMax; omega)
  rw [bodyM, s_asgO (lenlt rfl)]
  refine (Dr.bd (n2 := 3) (rowE_dr (ns := ns) (k := k) hh hc (by omega) _ _) fun v ⟨r, hr, lw, hv⟩ => ?_).more (n := K.cols.length + 3) (by omega)
  subst hv
  rw [show (envS Ks m h Z K (.vl d) R .no .no .no .no).set 11 (slOf true (.lst ((rl r).map .int))) = envS Ks m h Z K (.vl d) R (.ow (.lst ((rl r).map .int))) .no .no .no from rfl, s_asg (lenlt rfl)]
  have h1 : evE (cf ns (k + 2)) (.op .nin (.ix (.bor 11) (.cst (.int 0))) (.bor 10)) (envS Ks m h Z K (.vl d) R (.ow (.lst ((rl r).map .int))) .no .no .no) = M.ret (.bl (!decide (r.1 ∈ keysR R))) := by
    rw [envS]
    push_cast [at_rl, nin_ints]
  rw [h1, q_ret, show (envS Ks m h Z K (.vl d) R (.ow (.lst ((rl r).map .int))) .no .no .no).set 12 (.vl (.bl (!decide (r.1 ∈ keysR R)))) = envS Ks m h Z K (.vl d) R (.ow (.lst ((rl r).map .int))) (.vl (.bl (!decide (r.1 ∈ keysR R)))) .no .no from rfl, s_for]
  have h2 : evSrc (cf ns (k + 2)) (.it (.var 7)) (envS Ks m h Z K (.vl d) R (.ow (.lst ((rl r).map .int))) (.vl (.bl (!decide (r.1 ∈ keysR R)))) .no .no) = M.ret (K.ties.map (eTie true)) := by
    rw [envS]
    norm_cast0
  rw [h2, q_ret]
  refine (Dr.rt (loopT_dr (ns := ns) (k := k) hT tn hK hF (by omega) (.vl d) R r hr lw (!decide (r.1 ∈ keysR R))) fun q ⟨e1, r', g', e2, e3, el, e4, e5⟩ => ?_).more ht
  obtain ⟨fl, s⟩ := q
  subst e1
  subst e5
  rw [a_nx]
  cases g' with
  | false =>
    rw [restM, envS]
    norm_cast0
    exact Dr.ret ⟨rfl, R, hR, by omega, rfl⟩
  | true =>
    obtain ⟨hk, href⟩ := e4 rfl
    have hk : r.1 ∉ keysR R := by simpa using hk
    rw [restM, envS]
    push_cast [at_rl, hlt, keysR_len]
    refine Dr.ret ⟨rfl, R ++ [r'], ⟨?_, fun y hy => ?_, fun y hy => ?_, fun y hy => ?_⟩, by rw [List.length_append]; exact Nat.le_refl _, ?_⟩
    · rw [keysR, List.map_append]
      refine List.nodup_append.mpr ⟨hR.nd, by simp, fun a ha b hb => ?_⟩
      rw [List.mem_singleton.mp hb]
      intro e
      have ha : a ∈ keysR R := ha
      have e : a = r.1 := e.trans e2
      rw [e] at ha
      exact hk ha
    · rcases List.mem_append.mp hy with hy | hy
      · exact hR.wid y hy
      · rw [List.mem_singleton.mp hy]; omega
    · rcases List.mem_append.mp hy with hy | hy
      · exact hR.low y hy
      · rw [List.mem_singleton.mp hy]; exact el
    · rcases List.mem_append.mp hy with hy | hy
      · exact hR.ref y hy
      · rw [List.mem_singleton.mp hy]; exact href
    · simp only [envS, keysR, List.map_append]
      rfl
def env0 (Ks : List Kd) (m h : Int) (Z : List Zt) : Mi.Env := [.vl .box, .vl (eSk true Ks), .vl (.int m), .vl (.int h), .ow (.lst ((RsZ Z).map (eRs true))), .no, .no, .no, .no, .no, .no, .no, .no, .no, .no, .no, .no, .no]
theorem loopM_dr {Ks : List Kd} {m h : Int} (hh : 0 < h ∧ h ≤ 1000) {Z : List Zt} {K : Kd} (hT : ∀ t ∈ K.ties, TOk Ks Z K t) (tn : (K.ties.map fun t => t.1).Nodup) (hK : Ks.length ≤ 3) (hF : ∀ z ∈ Z, z.2.length ≤ 1000 ∧ ∀ r ∈ z.2, Lw h r) (hc : 0 < K.cols.length) (hc2 : K.cols.length ≤ 4) (ht : K.ties.length ≤ 3) (ds : List D) (hd : ds.length ≤ 20) :
    Dr 140 (forGo (.slot 8) [8, 11, 12, 13, 14] (exSs (cf ns (k + 2)) bodyM) ds (envS Ks m h Z K .no [] .no .no .no .no)) fun q => q.1 = .nx ∧ ∃ R, RInv Z h K R ∧ R.length ≤ ds.length ∧ q.2 = envS Ks m h Z K .no R .no .no .no .no := by
  have := forGo_dr (t := .slot 8) (dead := [8, 11, 12, 13, 14]) (body := exSs (cf ns (k + 2)) bodyM) (c := 7) (fun es s => ∃ R : List Row, s = envS Ks m h Z K .no R .no .no .no .no ∧ RInv Z h K R ∧ R.length + es.length ≤ ds.length)
    (fun d es s ⟨R, h1, h2, h3⟩ => by
      subst h1
      rw [List.length_cons] at h3
      exact ⟨_, rfl, (bodyM_dr (ns := ns) (k := k) hh hT tn hK hF hc hc2 ht d R h2 (by omega)).imp fun q ⟨e1, R', e2, e3, e4⟩ => ⟨e1, R', e4, e2, by omega⟩⟩)
    ds _ ⟨[], rfl, ⟨List.nodup_nil, fun _ h => (nomatch h), fun _ h => (nomatch h), fun _ h => nomatch h⟩, by simp⟩
  refine (this.more (by omega)).imp fun q ⟨e1, R, e2, e3, e4⟩ => ⟨e1, R, e3, by simpa using e4, e2⟩
theorem bodyO_dr {Ks : List Kd} {m h : Int} (hm : 0 ≤ m ∧ m ≤ 20) (hh : 0 < h ∧ h ≤ 1000) {Z : List Zt} {K : Kd} (hT : ∀ t ∈ K.ties, TOk Ks Z K t) (tn : (K.ties.map fun t => t.1).Nodup) (hK : Ks.length ≤ 3) (hF : ∀ z ∈ Z, z.2.length ≤ 1000 ∧ ∀ r ∈ z.2, Lw h r) (hFl : Z.length ≤ 100) (hc : 0 < K.cols.length) (hc2 : K.cols.length ≤ 4) (ht : K.ties.length ≤ 3) :
    Dr 141 (exSs (cf ns (k + 2)) bodyO [.vl .box, .vl (eSk true Ks), .vl (.int m), .vl (.int h), .ow (.lst ((RsZ Z).map (eRs true))), .vl (.str K.nm), .vl (sq true (K.cols.map .str)), .vl (sq true (K.ties.map (eTie true))), .no, .no, .no, .no, .no, .no, .no, .no, .no, .no]) fun q => q.1 = .nx ∧ ∃ R, RInv Z h K R ∧ (R.length : Int) ≤ m ∧ q.2.kill [5, 6, 7, 8, 9, 10] = env0 Ks m h (Z ++ [(K, srtR R)]) := by
  have hlZ : (RsZ Z).length = Z.length := by rw [RsZ, List.length_map]
  have hlt : ((RsZ Z).length < lineMax) = True := eq_true (by unfold lineMax; omega)
  rw [bodyO, s_par (lenlt rfl) (lenlt rfl)]
  norm_cast0
  have hs : Dr 1 (evSrc (cf ns (k + 2)) srcM (envS Ks m h Z K .no [] .no .no .no .no)) fun ds => (ds.length : Int) ≤ m := by
    rw [srcM, envS]
    norm_cast0
    refine Dr.rt (take_nat (ns := ns) (k := k + 1) (show (0 : Int) < m + 1 by omega) (by omega)) fun v ⟨i, hv, hi⟩ => ?_
    subst hv
    push_cast [range_n (show i < 1000000 by omega)]
    exact Dr.ret (by rw [upTo_len]; omega)
  refine (Dr.bd (n2 := 140) (Dr.congr rfl hs) fun ds hd => ?_).more (n := 1 + 140) (by omega)
  refine Dr.rt (loopM_dr (ns := ns) (k := k) hh hT tn hK hF hc hc2 ht ds (by omega)) fun q ⟨e1, R, e2, e3, e4⟩ => ?_
  obtain ⟨fl, s⟩ := q
  subst e1
  subst e4
  rw [a_nx, restO, envS]
  push_cast [ev_rows (show R.length ≤ 10000000 by omega), hlt]
  refine Dr.ret ⟨rfl, R, e2, by omega, ?_⟩
  simp only [env0, RsZ, List.map_append]
  rfl
theorem store_dr {Ks : List Kd} {m h : Int} (hm : 0 ≤ m ∧ m ≤ 20) (hh : 0 < h ∧ h ≤ 1000) (S : SchOk Ks) : Dr 423 (run prog ns (k + 3) 20 [.box, eSk true Ks, .int m, .int h]) fun v => ∃ Z, StOk Ks m h Z ∧ v = eT true Z := by
  have hn := S.n
  rw [x_l_store, b_l_store_eq, s_asgO (lenlt rfl)]
  norm_cast0
  rw [show ([.vl .box, .vl (eSk true Ks), .vl (.int m), .vl (.int h), .ow (.lst []), .no, .no, .no, .no, .no, .no, .no, .no, .no, .no, .no, .no, .no] : Mi.Env) = env0 Ks m h [] from rfl]
  have hb : walkOf (eSk true Ks) = some (Ks.map (eK true)) := rfl
  push_cast [hb]
  have := forGo_dr (t := .tup (.cons (.slot 5) (.cons (.slot 6) (.cons (.slot 7) .nil)))) (dead := [5, 6, 7, 8, 9, 10]) (body := exSs (cf ns (k + 2)) bodyO) (c := 141) (fun ds s => ∃ (Z : List Zt) (rest : List Kd), s = env0 Ks m h Z ∧ (Z.map fun z => z.1) ++ rest = Ks ∧ ds = rest.map (eK true) ∧ (∀ z ∈ Z, ROk z.1 z.2 ∧ (z.2.length : Int) ≤ m ∧ ∀ r ∈ z.2, Lw h r) ∧ (∀ z ∈ Z, ∀ t ∈ z.1.ties, t.1 ∈ z.1.cols ∧ t.2 ∈ nmsZ Z) ∧ ∀ z ∈ Z, ∀ r ∈ z.2, ∀ t ∈ z.1.ties, atC z.1 r t.1 ∈ keysN Z t.2)
    (fun d ds s ⟨Z, rest, h1, h2, h3, h4, h5, h6⟩ => by
      subst h1
      cases rest with
      | nil => cases h3
      | cons K rest =>
        rw [List.map_cons] at h3
        injection h3 with h3 h3'
        subst h3
        subst h3'
        have hm2 : K ∈ Ks := by rw [← h2]; exact List.mem_append_right _ (List.mem_cons_self ..)
        have hc := S.c K hm2
        have hZ : Z.length ≤ 3 := by
          have := congrArg List.length h2
          rw [List.length_append, List.length_map] at this
          omega
        have hT : ∀ t ∈ K.ties, TOk Ks Z K t := fun t ht => tok_of S h2 ht
        have h3 : ∀ t ∈ K.ties, t.2 ∈ nmsZ Z := fun t ht => by
          have := (S.t _ K rest h2.symm t ht).2.2
          rwa [nmsK_Z] at this
        refine ⟨_, rfl, (bodyO_dr (ns := ns) (k := k) hm hh hT (S.tn K hm2) hn (fun z hz => ⟨(h4 z hz).1.len, (h4 z hz).2.2⟩) (by omega) (S.k K hm2).c1 hc.1 hc.2).imp fun q ⟨e1, R, e2, e3, e4⟩ => ?_⟩
        obtain ⟨o1, o2⟩ := row_ok e2 (by omega)
        have hmem : ∀ r ∈ srtR R, r ∈ R := fun r hr => (srtR_perm R).mem_iff.mp hr
        have hnm : nmsZ (Z ++ [(K, srtR R)]) = nmsZ Z ++ [K.nm] := by rw [nmsZ, List.map_append]; rfl
        refine ⟨e1, Z ++ [(K, srtR R)], rest, e4, ?_, rfl, fun z hz => ?_, fun z hz t ht => ?_, fun z hz r hr t ht => ?_⟩
        · rw [List.map_append, List.append_assoc]; exact h2
        · rcases List.mem_append.mp hz with hz | hz
          · exact h4 z hz
          · rw [List.mem_singleton.mp hz]
            exact ⟨o1, by rw [o2]; exact e3, fun r hr => e2.low r (hmem r hr)⟩
        · rw [hnm]
          rcases List.mem_append.mp hz with hz | hz
          · exact ⟨(h5 z hz t ht).1, List.mem_append_left _ (h5 z hz t ht).2⟩
          · rw [List.mem_singleton.mp hz] at ht ⊢
            exact ⟨(hT t ht).c, List.mem_append_left _ (h3 t ht)⟩
        · rcases List.mem_append.mp hz with hz | hz
          · rw [keysN_app (h5 z hz t ht).2]
            exact h6 z hz r hr t ht
          · rw [List.mem_singleton.mp hz] at ht hr ⊢
            rw [keysN_app (h3 t ht)]
            exact e2.ref r (hmem r hr) t ht)
    (Ks.map (eK true)) (env0 Ks m h []) ⟨[], Ks, rfl, rfl, rfl, fun _ h => (nomatch h), fun _ h => (nomatch h), fun _ h => nomatch h⟩
  refine (Dr.rt this fun q ⟨f1, Z, rest, f2, f3, f4, f5, f6, f7⟩ => ?_).more (by rw [List.length_map]; omega)
  obtain ⟨fl, s⟩ := q
  subst f1
  subst f2
  have f4 : rest = [] := by
    cases rest with
    | nil => rfl
    | cons _ _ => cases f4
  subst f4
  rw [List.append_nil] at f3
  have hZ : Z.length ≤ 3 := by
    have := congrArg List.length f3
    rw [List.length_map] at this
    omega
  rw [env0]
  norm_cast0
  refine Dr.ret ⟨Z, ⟨f3, ⟨by omega, ?_, fun z hz => ?_, fun z hz => (f5 z hz).1⟩, fun z hz => (f5 z hz).2.1, f6, fun z hz r hr p hp => ?_, fun z hz => (f5 z hz).2.2⟩, ?_⟩
  · have := S.nd
    rw [← f3, nmsK, List.map_map] at this
    exact this
  · exact S.k z.1 (by rw [← f3]; exact List.mem_map_of_mem (f := fun z => z.1) hz)
  · obtain ⟨t, ht, rfl⟩ := List.mem_map.mp hp
    exact f7 z hz r hr t ht
  · rw [eT]
    simp only [RsZ, List.map_map]
    rfl
end
section
variable {ns : List Int} {k : Nat}
def bodyLW : MSs := (.cons (.app 4 (.ite (.op .eq (.ix (.var 5) (.cst (.int 0))) (.var 2)) (.bi .tuple (.bi .sort (.var 3))) (.var 6))) .nil)
theorem b_l_with_eq : b_l_with = (.cons (.asg true (.slot 4) (.lst .nil)) (.cons (.for_ (.tup (.cons (.slot 5) (.cons (.slot 6) .nil))) (.zip (.var 0) (.var 1)) [5, 6] bodyLW) (.cons (.ret (.bi .tuple (.bor 4))) .nil))) := nr rfl
def envLW (Z : List Zt) (nm : Str) (v : D) (a : List (List Row)) : Mi.Env := [.vl (eS true Z), .vl (eT true Z), .vl (.str nm), .vl v, .ow (.lst (a.map (eRs true))), .no, .no]
theorem l_with_go {Z : List Zt} (h : ZOk Z) (nm : Str) {v : D} {rs : List Row} (hv : evBi .sort v = some (.lst ((srtR rs).map (eR true)))) : run prog ns (k + 1) 21 [eS true Z, eT true Z, .str nm, v] = M.ret (.tup ((Z.map (pick nm (srtR rs))).map (eRs true))) := by
  have hn := h.n
  rw [x_l_with, b_l_with_eq]
  push_cast [zip_Z]
  have := (forGo_fold (t := .tup (.cons (.slot 5) (.cons (.slot 6) .nil))) (dead := [5, 6]) (body := exSs (cf ns k) bodyLW) (f := fun z : Zt => D.tup [eK true z.1, eRs true z.2]) (envLW Z nm v) (fun acc z => acc ++ [pick nm (srtR rs) z]) (fun zs acc => acc.length + zs.length ≤ 100) (fun z r acc hi => ?_) Z [] (by rw [List.length_nil]; omega)).1
  · rw [show ([.vl (eS true Z), .vl (eT true Z), .vl (.str nm), .vl v, .ow (.lst []), .no, .no] : Mi.Env) = envLW Z nm v [] from rfl, this, foldl_map, List.nil_append]
    push_cast [envLW]
  · rw [List.length_cons] at hi
    have hlt : (acc.length < lineMax) = True := eq_true (by unfold lineMax; omega)
    refine ⟨_, [.vl (eS true Z), .vl (eT true Z), .vl (.str nm), .vl v, .ow (.lst ((acc ++ [pick nm (srtR rs) z]).map (eRs true))), .vl (eK true z.1), .vl (eRs true z.2)], rfl, ?_, rfl, by rw [List.length_append]; simp only [List.length_cons, List.length_nil]; omega⟩
    show exSs (cf ns k) bodyLW [.vl (eS true Z), .vl (eT true Z), .vl (.str nm), .vl v, .ow (.lst (acc.map (eRs true))), .vl (eK true z.1), .vl (eRs true z.2)] = _
    by_cases e : z.1.nm = nm
    · push_cast [bodyLW, eK_0, eqS, decide_eq_true e, hv, hlt, List.map_append, pick, if_pos e]
      rfl
    · push_cast [bodyLW, eK_0, eqS, decide_eq_false e, hlt, List.map_append, pick, if_neg e]
theorem l_with_L {Z : List Zt} (h : ZOk Z) (nm : Str) {rs : List Row} (hl : rs.length ≤ 2000) : run prog ns (k + 1) 21 [eS true Z, eT true Z, .str nm, .lst (rs.map (eR true))] = M.ret (.tup ((Z.map (pick nm (srtR rs))).map (eRs true))) := l_with_go h nm (ev_rows (by omega))
theorem l_with_T {Z : List Zt} (h : ZOk Z) (nm : Str) {rs : List Row} (hl : rs.length ≤ 2000) : run prog ns (k + 1) 21 [eS true Z, eT true Z, .str nm, eRs true rs] = M.ret (.tup ((Z.map (pick nm (srtR rs))).map (eRs true))) := l_with_go h nm (ev_rowsT (by omega))
theorem l_keys_eq {Z : List Zt} (h : ZOk Z) {z : Zt} (hz : z ∈ Z) : run prog ns (k + 2) 22 [eS true Z, eT true Z, .str z.1.nm] = M.ret (.lst ((keysR z.2).map .int)) := by
  have hn := h.n
  have hl := row_len Z h z hz
  rw [x_l_keys]
  push_cast [b_l_keys, walk_S, eK_0, nmsZ_map, nms_len, ln_of (show Z.length ≤ 10000000 by omega), spot_nmsZ h hz, eT_at h hz, walk_Rs, eR_0, keysR_map, keysR_len, ln_of (show z.2.length ≤ 10000000 by omega)]
def bodyDP : MSs := (.cons (.asg false (.slot 7) (.ix (.var 3) (.call 18 (.cons false (.ix (.ix (.var 0) (.var 4)) (.cst (.int 1))) (.cons false (.var 5) .nil))))) (.cons (.ite (.op .nin (.var 7) (.call 22 (.cons false (.var 0) (.cons false (.var 1) (.cons false (.var 6) .nil))))) (.cons (.ret (.lst (.cons false (.cst (.str ⟨#[114, 111, 119]⟩)) (.cons false (.var 7) .nil)))) .nil) .nil) .nil))
def tailDP : MSs := (.cons (.ret (.call 21 (.cons false (.var 0) (.cons false (.var 1) (.cons false (.var 2) (.cons false (.op .add (.ix (.var 1) (.var 4)) (.tup (.cons false (.var 3) .nil))) .nil)))))) .nil)
theorem b_l_due_put_eq : b_l_due_put = (.cons (.ite (.op .nin (.var 2) (.comp (.ix (.var 8) (.cst (.int 0))) (.slot 8) (.it (.var 0)) .nil [8])) (.cons (.ret (.lst (.cons false (.cst (.str ⟨#[107, 105, 110, 100]⟩)) (.cons false (.var 2) .nil)))) .nil) .nil) (.cons (.asg false (.slot 4) (.call 18 (.cons false (.comp (.ix (.var 8) (.cst (.int 0))) (.slot 8) (.it (.var 0)) .nil [8]) (.cons false (.var 2) .nil)))) (.cons (.ite (.op .ne (.bi .len (.var 3)) (.bi .len (.ix (.ix (.var 0) (.var 4)) (.cst (.int 1))))) (.cons (.ret (.lst (.cons false (.cst (.str ⟨#[117, 110, 102, 105, 116]⟩)) .nil))) .nil) .nil) (.cons (.ite (.op .inn (.ix (.var 3) (.cst (.int 0))) (.call 22 (.cons false (.var 0) (.cons false (.var 1) (.cons false (.var 2) .nil))))) (.cons (.ret (.lst (.cons false (.cst (.str ⟨#[116, 97, 107, 101, 110]⟩)) (.cons false (.ix (.var 3) (.cst (.int 0))) .nil)))) .nil) .nil) (.cons (.for_ (.tup (.cons (.slot 5) (.cons (.slot 6) .nil))) (.it (.ix (.ix (.var 0) (.var 4)) (.cst (.int 2)))) [5, 6, 7] bodyDP) tailDP))))) := nr rfl
theorem due_put_eq {Z : List Zt} (h : ZOk Z) (T : TiesOk Z) (nm : Str) (row : List Int) : run prog ns (k + 3) 23 [eS true Z, eT true Z, .str nm, .tup (row.map .int)] = M.ret (putO Z nm row).d := by
  have hn := h.n
  rw [x_l_due_put, b_l_due_put_eq]
  by_cases hm : nm ∈ nmsZ Z
  · obtain ⟨z, hz, e⟩ := nms_of hm
    subst e
    have K := h.k z hz
    have hc1 := K.c1
    have hl := row_len Z h z hz
    push_cast [walk_S, eK_0, nmsZ_map, nms_len, ln_of (show Z.length ≤ 10000000 by omega), nin_lst, decide_eq_true hm, spot_nmsZ h hz, eS_at h hz, eK_1, sqT, ne_int]
    by_cases hw : row.length = z.1.cols.length
    · match row, hw with
      | [], hw => simp only [List.length_nil] at hw; omega
      | x :: l, hw =>
        have hw2 : l.length + 1 = z.1.cols.length := by simpa using hw
        have el : (((x :: l).length : Int) == (z.1.cols.length : Int)) = true := by rw [hw]; exact beq_self_eq_true _
        rw [putO_in h hz x l hw2, el]
        push_cast [l_keys_eq h hz, in_ints]
        by_cases hk : x ∈ keysR z.2
        · rw [if_pos hk]
          push_cast [decide_eq_true hk]
          rfl
        · rw [if_neg hk]
          rw [show (D.tup (D.int x :: l.map .int)) = eR true (x, l) from rfl]
          push_cast [decide_eq_false hk, eS_at h hz, eK_2]
          obtain ⟨s', e1, e2⟩ := forGo_fs (t := .tup (.cons (.slot 5) (.cons (.slot 6) .nil))) (dead := [5, 6, 7]) (body := exSs (cf ns (k + 2)) bodyDP) (f := eTie true) (g := fun t => if atC z.1 (x, l) t.1 ∈ keysN Z t.2 then none else some (D.lst [.str sRow, .int (atC z.1 (x, l) t.1)])) [.vl (eS true Z), .vl (eT true Z), .vl (.str z.1.nm), .vl (eR true (x, l)), .vl (.int (plc z.1.nm (nmsZ Z))), .no, .no, .no, .no] z.1.ties (fun t ht => by
            obtain ⟨t1, t2⟩ := T z hz t ht
            obtain ⟨y, hy, ey⟩ := nms_of t2
            have hp : plc t.1 z.1.cols < (x, l).2.length + 1 := by show _ < l.length + 1; rw [hw2]; exact plc_lt t1
            refine ⟨[.vl (eS true Z), .vl (eT true Z), .vl (.str z.1.nm), .vl (eR true (x, l)), .vl (.int (plc z.1.nm (nmsZ Z))), .vl (.str t.1), .vl (.str t.2), .no, .no], [.vl (eS true Z), .vl (eT true Z), .vl (.str z.1.nm), .vl (eR true (x, l)), .vl (.int (plc z.1.nm (nmsZ Z))), .vl (.str t.1), .vl (.str t.2), .vl (.int (atC z.1 (x, l) t.1)), .no], rfl, ?_, fun _ => rfl⟩
            rw [← ey, keysN_in h hy]
            have hc2 := K.c2
            push_cast [bodyDP, eS_at h hz, eK_1, sqT, spot_t t1 (show z.1.cols.length ≤ 10000000 by omega), eR_at true hp, atC_e, l_keys_eq h hy, nin_ints]
            by_cases hv : atC z.1 (x, l) t.1 ∈ keysR y.2
            · push_cast [decide_eq_true hv, if_pos hv]
              rfl
            · push_cast [decide_eq_false hv, if_neg hv]
              rfl)
          rw [e1]
          rw [miss_fs Z z.1 (x, l) (fun i => D.lst [.str sRow, .int i])] at e1 e2 ⊢
          rw [show (z.1.ties.map fun t => (t.2, atC z.1 (x, l) t.1)) = refsK z.1 (x, l) from rfl] at e1 e2 ⊢
          cases hms : miss Z (refsK z.1 (x, l)) with
          | some i =>
            rfl
          | none =>
            rw [hms] at e2
            rw [e2 rfl]
            show (M.ret (Flow.nx, _)).bd _ = _
            push_cast [tailDP, eT_at h hz, add_rows hl, l_with_T h z.1.nm (show (z.2 ++ [(x, l)]).length ≤ 2000 by rw [List.length_append, List.length_singleton]; omega)]
            rfl
    · have el : ((row.length : Int) == (z.1.cols.length : Int)) = false := beq_eq_false_iff_ne.mpr fun e => hw (by omega)
      rw [putO_un h hz hw, el]
      norm_cast0
      rfl
  · rw [putO_no hm]
    push_cast [walk_S, eK_0, nmsZ_map, nms_len, ln_of (show Z.length ≤ 10000000 by omega), nin_lst, decide_eq_false hm]
    rfl
end
section
variable {ns : List Int} {k : Nat}
def body2 : MSs := (.cons (.asg false (.slot 9) (.call 18 (.cons false (.ix (.var 5) (.cst (.int 1))) (.cons false (.var 7) .nil)))) (.cons (.ite (.andE (.cons false (.op .eq (.var 8) (.var 2)) (.cons false (.op .inn (.var 3) (.comp (.ix (.var 10) (.var 9)) (.slot 10) (.it (.var 6)) .nil [10])) .nil))) (.cons (.ret (.lst (.cons false (.cst (.str ⟨#[117, 110, 102, 105, 116]⟩)) .nil))) .nil) .nil) .nil))
def body1 : MSs := (.cons (.for_ (.tup (.cons (.slot 7) (.cons (.slot 8) .nil))) (.it (.ix (.var 5) (.cst (.int 2)))) [7, 8, 9] body2) .nil)
def tailDT : MSs := (.cons (.asg false (.slot 4) (.call 18 (.cons false (.comp (.ix (.var 10) (.cst (.int 0))) (.slot 10) (.it (.var 0)) .nil [10]) (.cons false (.var 2) .nil)))) (.cons (.ret (.call 21 (.cons false (.var 0) (.cons false (.var 1) (.cons false (.var 2) (.cons false (.comp (.var 10) (.slot 10) (.it (.ix (.var 1) (.var 4))) (.cons false (.op .ne (.ix (.var 10) (.cst (.int 0))) (.var 3)) .nil) [10]) .nil)))))) .nil))
theorem b_l_due_take_eq : b_l_due_take = (.cons (.ite (.op .nin (.var 2) (.comp (.ix (.var 10) (.cst (.int 0))) (.slot 10) (.it (.var 0)) .nil [10])) (.cons (.ret (.lst (.cons false (.cst (.str ⟨#[107, 105, 110, 100]⟩)) (.cons false (.var 2) .nil)))) .nil) .nil) (.cons (.ite (.op .nin (.var 3) (.call 22 (.cons false (.var 0) (.cons false (.var 1) (.cons false (.var 2) .nil))))) (.cons (.ret (.lst (.cons false (.cst (.str ⟨#[114, 111, 119]⟩)) (.cons false (.var 3) .nil)))) .nil) .nil) (.cons (.for_ (.tup (.cons (.slot 5) (.cons (.slot 6) .nil))) (.zip (.var 0) (.var 1)) [5, 6, 7, 8] body1) tailDT))) := nr rfl
theorem atC_map (z : Zt) (c : Str) : (z.2.map fun r => D.int (atC z.1 r c)) = (z.2.map fun r => atC z.1 r c).map .int := by rw [List.map_map]; rfl
theorem due_take_eq {Z : List Zt} (h : ZOk Z) (T : TiesOk Z) (nm : Str) (i : Int) : run prog ns (k + 3) 24 [eS true Z, eT true Z, .str nm, .int i] = M.ret (takeO Z nm i).d := by
  have hn := h.n
  rw [x_l_due_take, b_l_due_take_eq]
  by_cases hm : nm ∈ nmsZ Z
  · obtain ⟨y, hy, e⟩ := nms_of hm
    subst e
    have hl := row_len Z h y hy
    rw [takeO_in h hy]
    push_cast [walk_S, eK_0, nmsZ_map, nms_len, ln_of (show Z.length ≤ 10000000 by omega), nin_lst, decide_eq_true hm, l_keys_eq h hy, nin_ints]
    by_cases hk : i ∈ keysR y.2
    · rw [if_pos hk]
      push_cast [decide_eq_true hk, zip_Z]
      obtain ⟨s', e1, e2⟩ := forGo_fs (t := .tup (.cons (.slot 5) (.cons (.slot 6) .nil))) (dead := [5, 6, 7, 8]) (body := exSs (cf ns (k + 2)) body1) (f := fun z : Zt => D.tup [eK true z.1, eRs true z.2]) (g := fun z => if z.1.ties.any (hit y.1.nm i z) = true then some (D.lst [.str sUnfit]) else none) [.vl (eS true Z), .vl (eT true Z), .vl (.str y.1.nm), .vl (.int i), .no, .no, .no, .no, .no, .no, .no] Z (fun z hz => by
        have hlz := row_len Z h z hz
        have hc2 := (h.k z hz).c2
        obtain ⟨s2, f1, f2⟩ := forGo_fs (t := .tup (.cons (.slot 7) (.cons (.slot 8) .nil))) (dead := [7, 8, 9]) (body := exSs (cf ns (k + 2)) body2) (f := eTie true) (g := fun t => if hit y.1.nm i z t = true then some (D.lst [.str sUnfit]) else none) [.vl (eS true Z), .vl (eT true Z), .vl (.str y.1.nm), .vl (.int i), .no, .vl (eK true z.1), .vl (eRs true z.2), .no, .no, .no, .no] z.1.ties (fun t ht => by
          obtain ⟨t1, t2⟩ := T z hz t ht
          refine ⟨[.vl (eS true Z), .vl (eT true Z), .vl (.str y.1.nm), .vl (.int i), .no, .vl (eK true z.1), .vl (eRs true z.2), .vl (.str t.1), .vl (.str t.2), .no, .no], [.vl (eS true Z), .vl (eT true Z), .vl (.str y.1.nm), .vl (.int i), .no, .vl (eK true z.1), .vl (eRs true z.2), .vl (.str t.1), .vl (.str t.2), .vl (.int (plc t.1 z.1.cols)), .no], rfl, ?_, fun _ => rfl⟩
          by_cases he : t.2 = y.1.nm
          · push_cast [body2, eK_1, sqT, spot_t t1 (show z.1.cols.length ≤ 10000000 by omega), eqS, decide_eq_true he, walk_Rs]
            rw [cg_congr (G := fun r => M.ret (some (D.int (atC z.1 r t.1)))) fun r hr => by
              have hp : plc t.1 z.1.cols < r.2.length + 1 := by rw [(h.r z hz).wid r hr]; exact plc_lt t1
              push_cast [eR_at true hp, atC_e]]
            rw [cg_map, atC_map]
            push_cast [ln_of (show z.2.length ≤ 10000000 by omega), in_ints, hit, decide_eq_true he]
            by_cases hv : i ∈ z.2.map fun r => atC z.1 r t.1
            · push_cast [decide_eq_true hv]
              rfl
            · push_cast [decide_eq_false hv]
              rfl
          · push_cast [body2, eK_1, sqT, spot_t t1 (show z.1.cols.length ≤ 10000000 by omega), eqS, decide_eq_false he, hit]
            rfl)
        rw [any_fs] at f1 f2
        refine ⟨[.vl (eS true Z), .vl (eT true Z), .vl (.str y.1.nm), .vl (.int i), .no, .vl (eK true z.1), .vl (eRs true z.2), .no, .no, .no, .no], s2, rfl, ?_, fun hg => ?_⟩
        · push_cast [body1, eK_2]
          rw [f1]
          cases z.1.ties.any (hit y.1.nm i z) <;> rfl
        · rw [f2 hg]
          rfl)
      rw [e1]
      rw [any_fs, hit_refer] at e1 e2 ⊢
      by_cases hr : refer Z (y.1.nm, i) = []
      · rw [if_pos hr]
        rw [decide_eq_true hr] at e2 ⊢
        rw [e2 rfl]
        show (M.ret (Flow.nx, _)).bd _ = _
        have hf := List.length_filter_le (fun q : Row => !(q.1 == i)) y.2
        push_cast [tailDT, walk_S, eK_0, nmsZ_map, nms_len, ln_of (show Z.length ≤ 10000000 by omega), spot_nmsZ h hy, eT_at h hy, walk_Rs, eR_0, ne_int, ln_of (show (y.2.filter fun q : Row => !(q.1 == i)).length ≤ 10000000 by omega)]
        rw [l_with_L h y.1.nm (by omega)]
        rfl
      · rw [if_neg hr]
        rw [decide_eq_false hr]
        rfl
    · rw [if_neg hk]
      push_cast [decide_eq_false hk]
      rfl
  · rw [takeO_no hm]
    push_cast [walk_S, eK_0, nmsZ_map, nms_len, ln_of (show Z.length ≤ 10000000 by omega), nin_lst, decide_eq_false hm]
    rfl
theorem heard_put {b c : Bool} {Z : List Zt} (h : ZOk Z) (T : TiesOk Z) (nm : Str) (row : List Int) (hl : row.length ≤ 1000) : run prog ns (k + 11) 25 [eS b Z, eT b Z, .str nm, sq c (row.map .int)] = M.ret (putO Z nm row).d := by
  rw [x_l_heard]
  push_cast [b_l_heard, put_row_eq (k := k + 1) h T nm row hl]
  generalize putO Z nm row = o
  cases o <;> rfl
theorem heard_take {b : Bool} {Z : List Zt} (h : ZOk Z) (T : TiesOk Z) (nm : Str) (i : Int) : run prog ns (k + 11) 25 [eS b Z, eT b Z, .str nm, .int i] = M.ret (takeO Z nm i).d := by
  rw [x_l_heard]
  push_cast [b_l_heard, take_row_eq h T nm i]
  generalize takeO Z nm i = o
  cases o <;> rfl
end
section
variable {ns : List Int} {k : Nat}
def rowX : ME := (.bi .tuple (.comp (.call 13 (.cons false (.var 0) (.cons false (.cst (.int 7)) .nil))) (.slot 11) (.it (.ix (.var 5) (.cst (.int 1)))) .nil [11]))
def restI : MSs := (.cons (.asg false (.slot 6) (.sl (.var 6) .none (.some (.op .sub (.bi .len (.var 6)) (.bi .int (.op .eq (.call 13 (.cons false (.var 0) (.cons false (.cst (.int 6)) .nil))) (.cst (.int 0)))))))) (.cons (.asg false (.slot 7) (.call 25 (.cons false (.var 2) (.cons false (.var 3) (.cons false (.ix (.var 5) (.cst (.int 0))) (.cons false (.var 6) .nil)))))) (.cons (.asg false (.slot 8) (.call 13 (.cons false (.var 0) (.cons false (.cst (.int 7)) .nil)))) (.cons (.asg false (.slot 9) (.lst (.cons false (.var 7) (.cons false (.call 25 (.cons false (.ix (.var 4) (.cst (.int 0))) (.cons false (.ix (.var 4) (.cst (.int 1))) (.cons false (.ix (.var 5) (.cst (.int 0))) (.cons false (.bi .list (.var 6)) .nil))))) .nil)))) (.cons (.asg false (.slot 9) (.op .add (.var 9) (.lst (.cons false (.call 25 (.cons false (.var 2) (.cons false (.var 3) (.cons false (.ix (.var 5) (.cst (.int 0))) (.cons false (.var 8) .nil))))) (.cons false (.call 25 (.cons false (.ix (.var 4) (.cst (.int 0))) (.cons false (.ix (.var 4) (.cst (.int 1))) (.cons false (.ix (.var 5) (.cst (.int 0))) (.cons false (.var 8) .nil))))) .nil))))) (.cons (.asg false (.slot 10) (.op .mul (.lst (.cons false (.call 23 (.cons false (.var 2) (.cons false (.var 3) (.cons false (.ix (.var 5) (.cst (.int 0))) (.cons false (.var 6) .nil))))) .nil)) (.cst (.int 2)))) (.cons (.ite (.notE (.call 17 (.cons false (.var 9) (.cons false (.op .add (.var 10) (.op .mul (.lst (.cons false (.call 24 (.cons false (.var 2) (.cons false (.var 3) (.cons false (.ix (.var 5) (.cst (.int 0))) (.cons false (.var 8) .nil))))) .nil)) (.cst (.int 2)))) .nil)))) (.cons (.ret (.cst (.bl false))) .nil) .nil) (.cons (.ite (.andE (.cons false (.isi (.var 7) true [.tuple]) (.cons false (.op .ne (.call 11 (.cons false (.var 2) (.cons false (.var 7) (.cons false (.ix (.var 5) (.cst (.int 0))) (.cons false (.ix (.var 6) (.cst (.int 0))) .nil))))) (.var 3)) .nil))) (.cons (.ret (.cst (.bl false))) .nil) .nil) .nil))))))))
def bodyI : MSs := (.cons (.asg false (.slot 6) rowX) restI)
def endR : MSs := (.cons (.ite (.notE (.call 17 (.cons false (.var 4) (.cons false (.call 16 (.cons false (.lst (.cons false (.var 2) (.cons false (.var 3) .nil))) .nil)) .nil)))) (.cons (.ret (.cst (.bl false))) .nil) .nil) .nil)
def bodyR : MSs := (.cons (.asg false (.slot 2) (.call 19 (.cons false (.var 0) (.cons false (.op .gt (.call 13 (.cons false (.var 0) (.cons false (.cst (.int 4)) .nil))) (.cst (.int 0))) .nil)))) (.cons (.asg false (.slot 3) (.call 20 (.cons false (.var 0) (.cons false (.var 2) (.cons false (.cst (.int 5)) (.cons false (.cst (.int 6)) .nil)))))) (.cons (.asg false (.slot 4) (.call 16 (.cons false (.lst (.cons false (.var 2) (.cons false (.var 3) .nil))) .nil))) (.cons (.for_ (.slot 5) (.it (.op .add (.var 2) (.tup (.cons false (.tup (.cons false (.cst (.str ⟨#[110, 111, 110, 101]⟩)) (.cons false (.tup (.cons false (.cst (.str ⟨#[105, 100]⟩)) .nil)) (.cons false (.tup .nil) .nil)))) .nil)))) [5, 6, 7, 8, 9, 10] bodyI) endR))))
theorem b_l_right_eq : b_l_right = (.cons (.for_ (.slot 1) (.range (.cst (.int 8))) [1, 2, 3, 4, 5] bodyR) (.cons (.ret (.cst (.bl true))) .nil)) := nr rfl
theorem heard_putT {b : Bool} {Z : List Zt} (h : ZOk Z) (T : TiesOk Z) (nm : Str) (row : List Int) (hl : row.length ≤ 1000) : run prog ns (k + 11) 25 [eS b Z, eT b Z, .str nm, .tup (row.map .int)] = M.ret (putO Z nm row).d := heard_put (c := true) h T nm row hl
theorem heard_putL {b : Bool} {Z : List Zt} (h : ZOk Z) (T : TiesOk Z) (nm : Str) (row : List Int) (hl : row.length ≤ 1000) : run prog ns (k + 11) 25 [eS b Z, eT b Z, .str nm, .lst (row.map .int)] = M.ret (putO Z nm row).d := heard_put (c := false) h T nm row hl
def envR (s1 : Sl) (Z : List Zt) (s5 s6 : Sl) : Mi.Env := [.vl .box, s1, .vl (eS true Z), .vl (eT true Z), .vl (.lst [eS false Z, eT false Z]), s5, s6, .no, .no, .no, .no, .no]
theorem rowX_dr {Z : List Zt} (s1 : Sl) {K : Kd} (hc2 : K.cols.length ≤ 4) : Dr K.cols.length (evE (cf ns (k + 11)) rowX (envR s1 Z (.vl (eK true K)) .no)) fun v => ∃ is : List Int, is.length = K.cols.length ∧ v = .tup (is.map .int) := by
  rw [rowX, envR]
  push_cast [eK_1, sqT]
  have h := cg_dr (α := Str) (P := fun _ => True) (F := fun _ => (run prog ns (k + 11) 13 [.box, .int 7]).bd fun x => M.ret (some x)) K.cols fun d hd => Dr.rt (take_dr (ns := ns) (k := k + 10) (show (0 : Int) < 7 by omega) (by omega)) fun v ⟨i, hv, h1, h2⟩ => Dr.ret ⟨i, by rw [hv], trivial⟩
  refine Dr.rt (lstM_dr (by omega) h) fun v ⟨is, e1, e2, _⟩ => ?_
  subst e1
  norm_cast0
  exact Dr.ret ⟨is, e2, rfl⟩
theorem restI_dr {Z : List Zt} (h : ZOk Z) (T : TiesOk Z) (Kp : Kept Z) (few : ∀ z ∈ Z, z.2.length ≤ 900) (s1 : Sl) {K : Kd} (is : List Int) (h1 : 0 < is.length) (h4 : is.length ≤ 4) :
    Dr 2 (exSs (cf ns (k + 11)) restI (envR s1 Z (.vl (eK true K)) (.vl (.tup (is.map .int))))) fun q => q.1 = .nx ∧ q.2.kill [5, 6, 7, 8, 9, 10] = envR s1 Z .no .no := by
  rw [restI, envR]
  norm_cast0
  refine (Dr.bd (n2 := 1) (take_nat (ns := ns) (k := k + 10) (show (0 : Int) < 6 by omega) (by omega)) fun v ⟨i, hv, hi⟩ => ?_).more (n := 1 + 1) (by omega)
  subst hv
  push_cast [cut_less _ h1]
  generalize hrow : is.take (is.length - (if ((i : Int) == 0) = true then 1 else 0)) = row
  have hl : row.length ≤ 1000 := by rw [← hrow, List.length_take]; omega
  push_cast [eK_0, heard_putT h T K.nm row hl, heard_putL h T K.nm row hl]
  refine Dr.rt (take_nat (ns := ns) (k := k + 10) (show (0 : Int) < 7 by omega) (by omega)) fun v ⟨j, hv, hj⟩ => ?_
  subst hv
  have f1 := putO_fits h few K.nm row
  have f2 := takeO_fits h K.nm (j : Int)
  have e0 := due_put_eq (ns := ns) (k := k + 8) h T K.nm row
  have hp : ∀ L, putO Z K.nm row = .ok L → ∃ x l Z', row = x :: l ∧ ZOk Z' ∧ TiesOk Z' ∧ eS true Z' = eS true Z ∧ eT true Z' = .tup (L.map (eRs true)) ∧ takeO Z' K.nm x = .ok (Z.map fun z => z.2) := fun L e => put_take h T Kp few e
  generalize hO : putO Z K.nm row = O at f1 e0 hp ⊢
  have e1 := due_take_eq (ns := ns) (k := k + 8) h T K.nm (j : Int)
  generalize hO2 : (takeO Z K.nm (j : Int)).d = dT at f2 e1
  have e2 := heard_take (ns := ns) (k := k) (b := true) h T K.nm (j : Int)
  have e3 := heard_take (ns := ns) (k := k) (b := false) h T K.nm (j : Int)
  rw [hO2] at e2 e3
  have hS : fits 5 (.lst [O.d, O.d, dT, dT]) = true := fits_seq (b := false) (by simp) fun y hy => by
    simp only [List.mem_cons, List.not_mem_nil, or_false] at hy
    rcases hy with rfl | rfl | rfl | rfl <;> assumption
  have e4 := same5 (ns := ns) (k := k + 5) hS
  generalize hd : O.d = dP at *
  push_cast [eK_0, e0, e1, e2, e3, e4, add22, mul1]
  cases O with
  | ok L =>
    obtain ⟨x, l, Z', hr, g1, g2, g3, g4, g5⟩ := hp L rfl
    have hd : .tup (L.map (eRs true)) = dP := hd
    have e5 := take_row_eq (ns := ns) (k := k + 1) (b := true) g1 g2 K.nm x
    rw [g3, g4, g5, hd] at e5
    have e6 : (Oc.ok (Z.map fun z => z.2)).m = M.ret (eT true Z) := by rw [eT_L]; rfl
    rw [e6] at e5
    subst hr
    have e7 : anyTy dP [.tuple] = some true := by rw [← hd]; rfl
    push_cast [e7, eK_0, e5, ne_T]
    exact Dr.ret ⟨rfl, rfl⟩
  | kind a =>
    subst hd
    push_cast [Oc.d]
    exact Dr.ret ⟨rfl, rfl⟩
  | unfit =>
    subst hd
    push_cast [Oc.d]
    exact Dr.ret ⟨rfl, rfl⟩
  | taken a =>
    subst hd
    push_cast [Oc.d]
    exact Dr.ret ⟨rfl, rfl⟩
  | row a =>
    subst hd
    push_cast [Oc.d]
    exact Dr.ret ⟨rfl, rfl⟩
end
section
variable {ns : List Int} {k : Nat}
theorem bodyI_dr {Z : List Zt} (h : ZOk Z) (T : TiesOk Z) (Kp : Kept Z) (few : ∀ z ∈ Z, z.2.length ≤ 900) (s1 : Sl) {K : Kd} (h1 : 0 < K.cols.length) (h4 : K.cols.length ≤ 4) :
    Dr 6 (exSs (cf ns (k + 11)) bodyI (envR s1 Z (.vl (eK true K)) .no)) fun q => q.1 = .nx ∧ q.2.kill [5, 6, 7, 8, 9, 10] = envR s1 Z .no .no := by
  rw [show bodyI = .cons (.asg false (.slot 6) rowX) restI from rfl, s_asg (lenlt rfl)]
  refine (Dr.bd (n2 := 2) (rowX_dr (ns := ns) (k := k) s1 h4) fun v ⟨is, e1, e2⟩ => ?_).more (n := K.cols.length + 2) (by omega)
  subst e2
  exact restI_dr (ns := ns) (k := k) h T Kp few s1 is (by omega) (by omega)
theorem loopI_dr {Z : List Zt} (h : ZOk Z) (T : TiesOk Z) (Kp : Kept Z) (few : ∀ z ∈ Z, z.2.length ≤ 900) (s1 : Sl) (Ks : List Kd) (hn : Ks.length ≤ 4) (hK : ∀ K ∈ Ks, 0 < K.cols.length ∧ K.cols.length ≤ 4) :
    Dr 24 (forGo (.slot 5) [5, 6, 7, 8, 9, 10] (exSs (cf ns (k + 11)) bodyI) (Ks.map (eK true)) (envR s1 Z .no .no)) fun q => q.1 = .nx ∧ q.2 = envR s1 Z .no .no := by
  have := forGo_dr (t := .slot 5) (dead := [5, 6, 7, 8, 9, 10]) (body := exSs (cf ns (k + 11)) bodyI) (c := 6) (fun ds s => s = envR s1 Z .no .no ∧ ∃ rest : List Kd, ds = rest.map (eK true) ∧ ∀ K ∈ rest, 0 < K.cols.length ∧ K.cols.length ≤ 4)
    (fun d ds s ⟨h1, rest, h2, h3⟩ => by
      subst h1
      cases rest with
      | nil => cases h2
      | cons K rest =>
        rw [List.map_cons] at h2
        injection h2 with h2 h2'
        subst h2
        subst h2'
        obtain ⟨a, b⟩ := h3 K (List.mem_cons_self ..)
        exact ⟨_, rfl, (bodyI_dr (ns := ns) (k := k) h T Kp few s1 a b).imp fun q ⟨e1, e2⟩ => ⟨e1, e2, rest, rfl, fun y hy => h3 y (List.mem_cons_of_mem _ hy)⟩⟩)
    (Ks.map (eK true)) _ ⟨rfl, Ks, rfl, hK⟩
  exact (this.more (by rw [List.length_map]; omega)).imp fun q ⟨e1, e2, _⟩ => ⟨e1, e2⟩
def noneK : Kd := ⟨⟨#[110, 111, 110, 101]⟩, [⟨#[105, 100]⟩], []⟩
theorem endR_eq {Z : List Zt} (h : ZOk Z) (s1 : Sl) : exSs (cf ns (k + 11)) endR (envR s1 Z .no .no) = M.ret (.nx, envR s1 Z .no .no) := by
  have e2 := lists_ST (ns := ns) (k := k + 5) h
  have e7 := same5 (ns := ns) (k := k + 5) (d := .lst [eS false Z, eT false Z]) (fits_seq (b := false) (by simp) fun y hy => by
    simp only [List.mem_cons, List.not_mem_nil, or_false] at hy
    rcases hy with rfl | rfl
    · exact fits_eS 0 false h
    · exact fits_eT 1 false h)
  rw [envR]
  push_cast [endR, e2, e7]
theorem bodyR_dr (s1 : Sl) : Dr 451 (exSs (cf ns (k + 11)) bodyR [.vl .box, s1, .no, .no, .no, .no, .no, .no, .no, .no, .no, .no]) fun q => q.1 = .nx ∧ q.2.kill [1, 2, 3, 4, 5] = [.vl .box, .no, .no, .no, .no, .no, .no, .no, .no, .no, .no, .no] := by
  rw [bodyR]
  norm_cast0
  refine (Dr.bd (n2 := 450) (take_nat (ns := ns) (k := k + 10) (show (0 : Int) < 4 by omega) (by omega)) fun v ⟨i, hv, _⟩ => ?_).more (n := 1 + 450) (by omega)
  subst hv
  norm_cast0
  refine (Dr.bd (n2 := 447) (schema_dr (ns := ns) (k := k + 9) _) fun v ⟨Ks, hs, hv⟩ => ?_).more (n := 3 + 447) (by omega)
  subst hv
  have SK := sch_ok hs
  try norm_cast0
  refine (Dr.bd (n2 := 24) (store_dr (ns := ns) (k := k + 8) (m := 5) (h := 6) (by omega) (by omega) SK) fun v ⟨Z, S, hv⟩ => ?_).more (n := 423 + 24) (by omega)
  subst hv
  rw [eSk_S S]
  have hZ := S.ok
  have hl : Z.length ≤ 3 := by
    have := congrArg List.length S.ks
    rw [List.length_map] at this
    have := SK.n
    omega
  have e1 := lists_ST (ns := ns) (k := k + 5) hZ
  have e2 := add_S hZ.n noneK
  rw [show eK true noneK = .tup [.str ⟨#[110, 111, 110, 101]⟩, .tup [.str ⟨#[105, 100]⟩], .tup []] from rfl] at e2
  have hb : ∀ K ∈ Z.map (fun z => z.1) ++ [noneK], 0 < K.cols.length ∧ K.cols.length ≤ 4 := fun K hK => by
    rcases List.mem_append.mp hK with hK | hK
    · rw [S.ks] at hK
      exact ⟨(SK.k K hK).c1, (SK.c K hK).1⟩
    · rw [List.mem_singleton.mp hK]
      exact ⟨Nat.zero_lt_succ _, by decide⟩
  have e3 := loopI_dr (ns := ns) (k := k) hZ S.ties S.kept (fun z hz => by have := S.few z hz; omega) s1 (Z.map (fun z => z.1) ++ [noneK]) (by rw [List.length_append, List.length_map, List.length_singleton]; omega) hb
  generalize hX : (Z.map (fun z => z.1) ++ [noneK]).map (eK true) = X at e2 e3
  push_cast [e1, e2]
  rw [show ([.vl .box, s1, .vl (eS true Z), .vl (eT true Z), .vl (.lst [eS false Z, eT false Z]), .no, .no, .no, .no, .no, .no, .no] : Mi.Env) = envR s1 Z .no .no from rfl]
  refine Dr.rt e3 fun q ⟨f1, f2⟩ => ?_
  obtain ⟨fl, s⟩ := q
  subst f1
  subst f2
  rw [a_nx, endR_eq hZ]
  exact Dr.ret ⟨rfl, rfl⟩
theorem right_dr : Dr 3608 (run prog ns (k + 12) 28 [.box]) fun v => v = .bl true := by
  rw [x_l_right, b_l_right_eq, s_for]
  have e : evSrc (cf ns (k + 11)) (.range (.cst (.int 8))) [.vl .box, .no, .no, .no, .no, .no, .no, .no, .no, .no, .no, .no] = M.ret (Mi.upTo 0 8) := srcR (n := 8) q_cst (by omega)
  rw [e, q_ret]
  have := forGo_dr (t := .slot 1) (dead := [1, 2, 3, 4, 5]) (body := exSs (cf ns (k + 11)) bodyR) (c := 451) (fun ds s => s = [.vl .box, .no, .no, .no, .no, .no, .no, .no, .no, .no, .no, .no])
    (fun d ds s h1 => by
      subst h1
      exact ⟨_, rfl, bodyR_dr (ns := ns) (k := k) (.vl d)⟩)
    (Mi.upTo 0 8) _ rfl
  rw [q_asc]
  refine (Dr.rt this fun q ⟨f1, f2⟩ => ?_).more (by rw [upTo_len]; omega)
  obtain ⟨fl, s⟩ := q
  subst f1
  subst f2
  rw [a_nx]
  norm_cast0
  exact Dr.ret rfl
end
section
variable {ns : List Int} {k : Nat}
theorem slOf_own (xs : List D) : slOf true (.lst xs) = .ow (.lst xs) := rfl
def bodyCe : MSs := (.cons (.asg false (.slot 5) (.op .mod (.bi .int (.var 3)) (.var 1)))
 (.cons (.seti 2 (.var 5) (.op .add (.ix (.bor 2) (.var 5)) (.op .mul (.var 4) (.op .add (.var 3) (.cst (.int 2))))))
 .nil))
def tailCe : MSs := .cons (.share 2) (.cons (.ret (.var 2)) .nil)
theorem b_l_cells_eq : b_l_cells = (.cons (.asg true (.slot 2) (.orE (.cons false (.bi .list (.sl (.var 0) .none (.some (.var 1)))) (.cons false (.lst (.cons false (.cst (.int 0)) .nil)) .nil))))
 (.cons (.for_ (.tup (.cons (.slot 3) (.cons (.slot 4) .nil))) (.enum (.sl (.var 0) (.some (.var 1)) (.some (.cst (.int 63))))) [3, 4, 5] bodyCe)
 tailCe)) := rfl
theorem cx1 (s2 s3 s4 s5 : Sl) : evE (cf ns k) (.orE (.cons false (.bi .list (.sl (.var 0) .none (.some (.var 1)))) (.cons false (.lst (.cons false (.cst (.int 0)) .nil)) .nil))) [.vl .scr, .vl (.int 3), s2, s3, s4, s5] = M.ret (.lst ((if ns.take 3 = [] then [0] else ns.take 3).map .int)) := by
  have e : evSl ns .scr none (some ((3 : Nat) : Int)) = some (.lst ((ns.take 3).map .int)) := by
    show some (D.lst ((cut ns none (some ((3 : Nat) : Int))).map .int)) = _
    rw [cut_to]
  push_cast only [cf_ns, show evSl ns .scr none (some 3) = some (.lst ((ns.take 3).map .int)) from e]
  cases h : ns.take 3 with
  | nil => rfl
  | cons a r => rfl
def InvC (n : Nat) (ds : List D) (s : Mi.Env) : Prop := ∃ (cs : List Int) (j : Nat) (gs : List Int), s = [.vl .scr, .vl (.int 3), .ow (.lst (cs.map .int)), .no, .no, .no] ∧ ds = enumD j (gs.map .int) ∧ cs.length = n ∧ (gs ≠ [] → n = 3) ∧ j + gs.length ≤ 63
theorem small_k (j : Nat) (h : j ≤ 63) : small64 ((j : Int) + 2) = true := small_of (by omega) (by omega)
theorem bodyCe_eq {n : Nat} (d : D) (ds : List D) (s : Mi.Env) (h : InvC n (d :: ds) s) : ∃ s1 s2, bindT (.tup (.cons (.slot 3) (.cons (.slot 4) .nil))) d s = some s1 ∧ exSs (cf ns k) bodyCe s1 = M.ret (.nx, s2) ∧ InvC n ds (s2.kill [3, 4, 5]) := by
  obtain ⟨cs, j, gs, rfl, h1, h2, h3, h4⟩ := h
  cases gs with
  | nil => cases h1
  | cons g gs =>
    have hn : n = 3 := h3 (fun z => nomatch z)
    simp only [List.map_cons, enumD] at h1
    injection h1 with h1 h1'
    subst h1
    simp only [List.length_cons] at h4
    have hlt : j % 3 < cs.length := by omega
    have em : ((j : Int) % 3) = ((j % 3 : Nat) : Int) := by omega
    refine ⟨[.vl .scr, .vl (.int 3), .ow (.lst (cs.map .int)), .vl (.int j), .vl (.int g), .no], [.vl .scr, .vl (.int 3), .ow (.lst ((cs.set (j % 3) (cs[j % 3] + g * ((j : Int) + 2))).map .int)), .vl (.int j), .vl (.int g), .vl (.int ((j % 3 : Nat) : Int))], rfl, ?_, ?_⟩
    · have e1 : ∀ s5 : Sl, evE (cf ns k) (.op .mod (.bi .int (.var 3)) (.var 1)) [.vl .scr, .vl (.int 3), .ow (.lst (cs.map .int)), .vl (.int j), .vl (.int g), s5] = M.ret (.int ((j % 3 : Nat) : Int)) := fun s5 => by
        push_cast only [mod_int (show (0 : Int) < 3 by omega), em]
      have e3 : L2.atI (cs.map D.int) ((j % 3 : Nat) : Int) = some (.int cs[j % 3]) := by
        rw [atI_nat, List.getElem?_map, List.getElem?_eq_getElem hlt]; rfl
      have e2 : evE (cf ns k) (.op .add (.ix (.bor 2) (.var 5)) (.op .mul (.var 4) (.op .add (.var 3) (.cst (.int 2))))) [.vl .scr, .vl (.int 3), .ow (.lst (cs.map .int)), .vl (.int j), .vl (.int g), .vl (.int ((j % 3 : Nat) : Int))] = M.ret (.int (cs[j % 3] + g * ((j : Int) + 2))) := by
        push_cast only [e3, mulR (small_k j (by omega))]
      have e4 : L2.ixN (cs.map D.int).length ((j % 3 : Nat) : Int) = some (j % 3) := by
        unfold L2.ixN
        rw [if_pos (by omega), if_pos (by rw [List.length_map]; omega), Int.toNat_natCast]
      have e5 : evE (cf ns k) (.var 5) [.vl .scr, .vl (.int 3), .ow (.lst (cs.map .int)), .vl (.int j), .vl (.int g), .vl (.int ((j % 3 : Nat) : Int))] = M.ret (.int ((j % 3 : Nat) : Int)) := by simp only [evE, evT, evP, evTOr, evTAnd, evAnd, evOr, evEs, evSrc, evO, evTs, tr, bd_ret, nex_ret, bd_assoc, bd_no, ofO_some, ofO_none, asB_ret, asB_no, List.getElem?_cons_zero, List.getElem?_cons_succ, anyTy, D.isTy, truth_non, truth_bl, truth_int, truth_lst, truth_tup, asB_bl, asI_int, walk_lst, walk_tup, walk_str, items_lst, items_tup, len_lst, len_tup, len_str, int_int, int_bl, abs_int, list_lst, list_tup, tuple_lst, tuple_tup, all_lst, any_lst, lt_int, le_int, gt_int, ge_int, add_int, sub_int, eq_int, ne_int, ix_lst, ix_tup, sl_lst, sl_tup, rev_tup, rev_lst, at0, at1, at2,  bindT, bindTs, setOwn, slOf_lst, slOf_tup, slOf_int, slOf_bl, slOf_str, slOf_non, slOf_f,  List.set_cons_zero, List.set_cons_succ, List.length_cons, List.length_nil, Env.kill, Env.noOw, isOw_vl, isOw_ow, isOw_no, evs_nil, List.all_cons, List.all_nil, Option.getD_some, Option.getD_none, Option.map_some, Option.map_none, rtM_rt, rtM_nx, Bool.not_true, Bool.not_false, Bool.true_and, Bool.and_true, Bool.false_and, Bool.and_false, Bool.false_eq_true, if_true, if_false, ite_true, ite_false, Nat.reduceAdd, Nat.reduceLT, Nat.reduceLeDiff, Nat.zero_lt_succ, Nat.zero_le, Bool.xor_false, Bool.false_xor, Bool.true_xor, List.map_cons, List.map_nil]
      have e6 : ∀ v : Sl, ([.vl .scr, .vl (.int 3), .ow (.lst (cs.map .int)), .vl (.int j), .vl (.int g), .no] : Mi.Env).set 5 v = [.vl .scr, .vl (.int 3), .ow (.lst (cs.map .int)), .vl (.int j), .vl (.int g), v] := fun _ => rfl
      rw [bodyCe, sq_asg (lenlt rfl), e1, bd_ret, e6, sq_seti rfl, e2, bd_ret, e5, bd_ret, asI_int, ofO_some, bd_ret, e4, ofO_some, bd_ret, sq_nil, List.map_set]
      rfl
    · exact ⟨_, j + 1, gs, rfl, h1', by rw [List.length_set]; exact h2, fun _ => hn, by omega⟩
theorem loopC {n : Nat} : ∀ (ds : List D) (s : Mi.Env), InvC n ds s → ∃ s2, forGo (.tup (.cons (.slot 3) (.cons (.slot 4) .nil))) [3, 4, 5] (exSs (cf ns k) bodyCe) ds s = M.ret (.nx, s2) ∧ InvC n [] s2
  | [], s, h => ⟨s, rfl, h⟩
  | d :: ds, s, h => by
    obtain ⟨s1, s2, e1, e2, h2⟩ := bodyCe_eq (ns := ns) (k := k) d ds s h
    obtain ⟨s3, e3, h3⟩ := loopC ds _ h2
    refine ⟨s3, ?_, h3⟩
    rw [forGo_cons, e1, ofO_some, bd_ret, e2, bd_ret]
    exact e3
def gsC (ns : List Int) : List Int := cut ns (some ((3 : Nat) : Int)) (some ((63 : Nat) : Int))
def csC (ns : List Int) : List Int := if ns.take 3 = [] then [0] else ns.take 3
theorem cx2 (s2 s3 s4 s5 : Sl) : evSrc (cf ns k) (.enum (.sl (.var 0) (.some (.var 1)) (.some (.cst (.int 63))))) [.vl .scr, .vl (.int 3), s2, s3, s4, s5] = M.ret (enumD 0 ((gsC ns).map .int)) := by
  push_cast only [cf_ns, show evSl ns .scr (some 3) (some 63) = some (.lst ((gsC ns).map .int)) from rfl]
theorem gsC_len : (gsC ns).length ≤ 60 ∧ (gsC ns ≠ [] → (csC ns).length = 3) ∧ 1 ≤ (csC ns).length ∧ (csC ns).length ≤ 3 := by
  unfold gsC csC cut
  rw [HT.sIx_nat, HT.sIx_nat]
  refine ⟨?_, ?_, ?_, ?_⟩
  · rw [List.length_take]; omega
  · intro h
    have h0 := List.length_pos_iff.mpr h
    rw [List.length_take, List.length_drop] at h0
    rw [if_neg (fun z => by have := congrArg List.length z; rw [List.length_take] at this; simp at this; rcases this with h | h <;> simp_all), List.length_take]
    omega
  · split
    · simp
    · rename_i h; exact List.length_pos_iff.mpr h
  · split
    · simp
    · rw [List.length_take]; omega
theorem cx0 : run prog ns (k + 1) 14 [.scr, .int 3] = (exSs (cf ns k) b_l_cells [.vl .scr, .vl (.int 3), .no, .no, .no, .no]).bd rtM := rfl
theorem set6c (a b c d e f v : Sl) : [a, b, c, d, e, f].set 2 v = [a, b, v, d, e, f] := rfl
theorem c8 : ∃ cs : List Int, 1 ≤ cs.length ∧ cs.length ≤ 3 ∧ run prog ns (k + 1) 14 [.scr, .int 3] = M.ret (.lst (cs.map .int)) := by
  obtain ⟨g1, g2, g3, g4⟩ := gsC_len (ns := ns)
  obtain ⟨s2, e1, cs, j, gs, e2, h1, h2, h3, h4⟩ := loopC (ns := ns) (k := k) (n := (csC ns).length) (enumD 0 ((gsC ns).map .int)) [.vl .scr, .vl (.int 3), .ow (.lst ((csC ns).map .int)), .no, .no, .no] ⟨csC ns, 0, gsC ns, rfl, rfl, rfl, g2, by omega⟩
  subst e2
  refine ⟨cs, by omega, by omega, ?_⟩
  rw [cx0, b_l_cells_eq, sq_asgO (lenlt rfl), cx1, bd_ret, set6c, slOf_own, sq_forA, cx2, bd_ret]
  show ((forGo _ _ _ _ [.vl .scr, .vl (.int 3), .ow (.lst ((csC ns).map .int)), .no, .no, .no]).bd _).bd rtM = _
  rw [e1, bd_ret, aft_nx, tailCe, sq_share rfl, sq_ret]
  rfl
theorem bx0 (a b : D) : run prog ns (k + 1) 12 [a, b] = (exSs (cf ns k) b_l_box [.vl a, .vl b, .no]).bd rtM := rfl
theorem pow18 : evOp .pow (.int 10) (.int 18) = some (.int (10 ^ 18)) := rfl
theorem c6 {cs : List Int} {j : Nat} (h : j < cs.length) : ∃ a b : Int, run prog ns (k + 1) 12 [.lst (cs.map .int), .int j] = M.ret (.lst [.int a, .int b, .int 0]) := by
  have h1 : decide ((j : Int) < ((cs.map D.int).length : Nat)) = true := decide_eq_true (by rw [List.length_map]; omega)
  have h2 : L2.atI (cs.map D.int) (j : Int) = some (.int cs[j]) := by
    rw [atI_nat, List.getElem?_map, List.getElem?_eq_getElem h]; rfl
  have h3 : ∀ b : Bool, small64 (if b = true then 1 else 0) = true := fun b => by cases b <;> decide
  have h4 : small64 39373 = true := by decide
  refine ⟨(if cs[j] < 0 then -cs[j] else cs[j]) * (if decide ((10 : Int) ^ 18 ≤ if cs[j] < 0 then -cs[j] else cs[j]) = true then 1 else 0), cs[j] % 2305843009213693951 + 39373 * (j : Int) + 36215, ?_⟩
  rw [bx0, b_l_box, sq_asg (lenlt rfl)]
  push_cast only [h1, h2]
  rw [sq_ret]
  push_cast only [pow18, mulR (h3 _), mulL h4, mod_int (show (0 : Int) < 2305843009213693951 by omega)]
  rw [if_pos (show 3 ≤ lineMax by unfold lineMax; omega)]
  rfl
end
theorem hand (ns : List Int) (k : Nat) : run prog ns (k + 14) 27 [] none = .ok (.bl true) none := by kernel_rfl
section
variable {α β : Type} {b b' : Bx}
theorem ff_eq {α : Type} {a b : α} : (if (false : Bool) = true then a else b) = b := rfl
theorem at_bd {m : M α} {f : α → M β} {a : α} (h : m b = .ok a b') : (m.bd f) b = f a b' := by simp only [M.bd, h]
theorem at_nex {m : M α} {a : α} (h : m b = .ok a b') : m.nex b = .ok a b' := by simp only [M.nex, h]
theorem compGo_at {f : D → M (Option D)} {g : D → D} : ∀ ds : List D, (∀ d ∈ ds, f d b = .ok (some (g d)) b) → compGo f ds b = .ok (ds.map g) b
  | [], _ => rfl
  | d :: ds, h => by
    rw [compGo, at_bd (h d (List.mem_cons_self ..)), at_bd (compGo_at ds fun x hx => h x (List.mem_cons_of_mem _ hx))]
    rfl
end
section
variable {ns : List Int} {k : Nat}
theorem box18 (i j : Int) : ∃ b, run prog ns (k + 12) 28 [.box] (some (i, j, 0)) = .ok (.bl true) b := by
  have h := right_dr (ns := ns) (k := k) 0 (some (i, j, 0)) ⟨i, j, 0, rfl, by omega, by omega⟩
  unfold WP at h
  cases e : run prog ns (k + 12) 28 [.box] (some (i, j, 0)) <;> rw [e] at h <;> first | (cases h; done) | skip
  rename_i a b
  exact ⟨b, by rw [h.1]⟩
def compL : ME := .comp (.boxed 28 (.call 12 (.cons false (.var 1) (.cons false (.var 2) .nil)))) (.slot 2) (.range (.bi .len (.var 1))) .nil [2]
theorem b_law_eq : b_law = (.cons (.ite (.notE (.call 27 .nil)) (.cons (.ret (.cst (.bl false))) .nil) .nil)
  (.cons (.asg false (.slot 1) (.call 14 (.cons false (.var 0) (.cons false (.cst (.int 3)) .nil))))
  (.cons (.ret (.bi .all compL)) .nil))) := rfl
theorem lx0 : run prog ns (k + 15) 29 [.scr] = (exSs (cf ns (k + 14)) b_law [.vl .scr, .no, .no]).bd rtM := rfl
theorem lq1 (c : Cfg) (s : Mi.Env) : evT c (.notE (.call 27 .nil)) s = ((c.cl 27 []).bd fun x => M.ofO (truth x)).bd fun b => M.ret (!b) := rfl
theorem lx1 (s : Mi.Env) : evT (cf ns (k + 14)) (.notE (.call 27 .nil)) s none = .ok false none := by
  have e2 : (cf ns (k + 14)).cl 27 [] none = .ok (.bl true) none := by rw [cf_cl]; exact hand ns k
  have e := lq1 (cf ns (k + 14)) s
  generalize (cf ns (k + 14)).cl 27 [] = m at e e2
  rw [e, at_bd (a := true) (b' := none)]
  · rfl
  · rw [at_bd e2]
    rfl
theorem lq2 (c : Cfg) (s1 s2 : Sl) : evE c (.call 14 (.cons false (.var 0) (.cons false (.cst (.int 3)) .nil))) [.vl .scr, s1, s2] = c.cl 14 [.scr, .int 3] := rfl
theorem lx2 (s1 s2 : Sl) : evE (cf ns (k + 14)) (.call 14 (.cons false (.var 0) (.cons false (.cst (.int 3)) .nil))) [.vl .scr, s1, s2] = run prog ns (k + 14) 14 [.scr, .int 3] := by rw [lq2, cf_cl]
theorem lq3 (c : Cfg) (s0 : Sl) (x y : D) : evE c (.call 12 (.cons false (.var 1) (.cons false (.var 2) .nil))) [s0, .vl x, .vl y] = c.cl 12 [x, y] := rfl
theorem lq4 (c : Cfg) (s : Mi.Env) : evE c (.boxed 28 (.call 12 (.cons false (.var 1) (.cons false (.var 2) .nil)))) s = (evE c (.call 12 (.cons false (.var 1) (.cons false (.var 2) .nil))) s).bd fun x => (match x with
    | .lst [.int i, .int j, .int k] => fun b => (match b with
      | none => (match c.cl 28 [.box] (some (i, j, k)) with
        | .ok (.bl t) _ => .ok (.bl t) none
        | _ => .no)
      | some _ => .no)
    | _ => M.no) := rfl
theorem lq5 (c : Cfg) (s : Mi.Env) : evE c (.bi .all compL) s = ((evSrc c (.range (.bi .len (.var 1))) s).bd fun ds => if s.noOw [2] then
      (M.nex (compGo (fun d => match bindT (.slot 2) d (s.kill [2]) with
        | some s1 => (evTs c .nil s1).bd fun k => if k then (evE c (.boxed 28 (.call 12 (.cons false (.var 1) (.cons false (.var 2) .nil)))) s1).bd fun x => M.ret (some x) else M.ret none
        | none => M.no) ds)).bd fun r => if r.length ≤ lineMax then M.ret (.lst r) else M.no else M.no).bd fun x => M.ofO (evBi .all x) := rfl
theorem lq6 (c : Cfg) (s0 s2 : Sl) (xs : List D) : evE c (.bi .len (.var 1)) [s0, .vl (.lst xs), s2] = M.ret (.int xs.length) := rfl
theorem lx3 (cs : List Int) (j : Nat) (h : j < cs.length) : evE (cf ns (k + 14)) (.boxed 28 (.call 12 (.cons false (.var 1) (.cons false (.var 2) .nil)))) [.vl .scr, .vl (.lst (cs.map .int)), .vl (.int j)] none = .ok (.bl true) none := by
  obtain ⟨a, c, e⟩ := c6 (ns := ns) (k := k + 13) h
  obtain ⟨b, e2⟩ := box18 (ns := ns) (k := k + 2) a c
  have e3 : evE (cf ns (k + 14)) (.call 12 (.cons false (.var 1) (.cons false (.var 2) .nil))) [.vl .scr, .vl (.lst (cs.map .int)), .vl (.int j)] = M.ret (.lst [.int a, .int c, .int 0]) := by
    rw [lq3, cf_cl]
    exact e
  have e5 : run prog ns (k + 14) 28 [.box] (some (a, c, 0)) = .ok (.bl true) b := e2
  rw [lq4, e3, bd_ret]
  simp only [cf_cl, e5]
theorem lx4 (cs : List Int) (h : cs.length < 1000) (s2 : Sl) (h2 : s2.isOw = false) : evE (cf ns (k + 14)) (.bi .all compL) [.vl .scr, .vl (.lst (cs.map .int)), s2] none = .ok (.bl true) none := by
  have e1 : evSrc (cf ns (k + 14)) (.range (.bi .len (.var 1))) [.vl .scr, .vl (.lst (cs.map .int)), s2] = M.ret (Mi.upTo 0 cs.length) := srcR (n := cs.length) ((lq6 _ _ _ _).trans (by rw [List.length_map])) (by omega)
  have e3 : Env.noOw [.vl .scr, .vl (.lst (cs.map .int)), s2] [2] = true := by
    show (!s2.isOw && true) = true
    rw [h2]; rfl
  rw [lq5, e1, bd_ret, if_pos e3]
  rw [at_bd (a := .lst ((Mi.upTo 0 cs.length).map fun _ => .bl true)) (b' := none)]
  · show M.ofO ((bools ((Mi.upTo 0 cs.length).map fun _ => D.bl true)).map fun bs => D.bl (bs.all id)) none = _
    rw [bools_map (fun _ => true)]
    have e4 : ((Mi.upTo 0 cs.length).map fun _ => true).all id = true := by
      rw [List.all_map]
      exact List.all_eq_true.mpr fun _ _ => rfl
    show M.ofO (some (D.bl (((Mi.upTo 0 cs.length).map fun _ => true).all id))) none = _
    rw [e4]
    rfl
  · rw [at_bd (a := (Mi.upTo 0 cs.length).map fun _ => .bl true) (b' := none)]
    · rw [if_pos (by rw [List.length_map, upTo_len]; unfold lineMax; omega)]
      rfl
    · refine at_nex (compGo_at _ fun d hd => ?_)
      unfold Mi.upTo at hd
      obtain ⟨j, hj, rfl⟩ := List.mem_map.mp hd
      have hj := List.mem_range.mp hj
      have e5 := lx3 (ns := ns) (k := k) cs j hj
      show ((evE (cf ns (k + 14)) (.boxed 28 (.call 12 (.cons false (.var 1) (.cons false (.var 2) .nil)))) [.vl .scr, .vl (.lst (cs.map .int)), .vl (.int (0 + (j : Int)))]).bd fun x => M.ret (some x)) none = _
      rw [Int.zero_add, at_bd e5]
      rfl
theorem law_c (c : Cfg) (cs : List Int) (h17 : evT c (.notE (.call 27 .nil)) [.vl .scr, .no, .no] none = .ok false none) (h8 : c.cl 14 [.scr, .int 3] = M.ret (.lst (cs.map .int)))
    (h : evE c (.bi .all compL) [.vl .scr, .vl (.lst (cs.map .int)), .no] none = .ok (.bl true) none) : ((exSs c b_law [.vl .scr, .no, .no]).bd rtM) none = .ok (.bl true) none := by
  have e : exSs c b_law [.vl .scr, .no, .no] none = .ok (Flow.rt (D.bl true), [Sl.vl D.scr, Sl.vl (D.lst (cs.map .int)), Sl.no]) none := by
    rw [b_law_eq, sq_guard, at_bd h17, ff_eq, sq_asg (lenlt rfl), lq2, h8, bd_ret, sq_ret]
    have e1 : ([Sl.vl D.scr, Sl.no, Sl.no] : Mi.Env).set 1 (.vl (.lst (cs.map .int))) = [.vl .scr, .vl (.lst (cs.map .int)), .no] := rfl
    rw [e1, at_bd h]
    rfl
  rw [at_bd e]
  rfl
theorem law_eq : run prog ns (k + 15) 29 [.scr] none = .ok (.bl true) none := by
  obtain ⟨cs, h1, h2, e⟩ := c8 (ns := ns) (k := k + 13)
  rw [lx0]
  exact law_c _ cs (lx1 _) (by rw [cf_cl]; exact e) (lx4 cs (by omega) .no rfl)
end
end LK
set_option maxHeartbeats 0
open PySem PySem.W PySem.Calls PyProof.Rows
theorem PySem.Challenge.cw_columnsfelt_k24_rows_put_and_taken_holds : PySem.Challenge.rw_columnsfelt_k24_rows_put_and_taken.Holds := by
  w_on; o_law
  refine HandSHeadRun.head_any (r := OpenLaw.row LK.RW) (q := view (OpenLaw.row LK.RW).prog [38]) (H := LK.hk) (ob := LK.ob) (M := 4000) (loose := LK.names) (d := HandSHeadRun.topDef (OpenLaw.row LK.RW).prog 38) (kwd := []) LK.ob_eq
    (by kernel_rfl) (fun s => by kernel_rfl) LK.run_head (by kernel_rfl) (by kernel_rfl) (by kernel_rfl) (by rfl) (by first | assumption | decide +kernel) (by decide +kernel) ⟨rfl, rfl, rfl, rfl, rfl, by decide +kernel⟩ ?hw ?hc
  case hw => w_witness2
  case hc =>
    refine L2.walk_ofE (l := LK.RW) (n := 63) (k := 15) (x := "_law_script") (CX := L2.CX0) rfl (by decide) (by kernel_rfl) ⟨rfl, by decide, by decide⟩ ?F (fun _ _ _ _ z => z)
    intro w mg fa h Y G hmg0
    obtain ⟨K, KX, c⟩ := Y
    have hmg : mg ("law" : PySem.Str) = some (.ref fa) := by
      have e : (HandSHeadRun.topDef (OpenLaw.row LK.RW).prog 38).name = ("law" : PySem.Str) := by kernel_rfl
      rw [← e]
      exact hmg0
    obtain ⟨fd, sp, hb, hsp, hF⟩ := Mi.law_F (P := LK.prog) (free := LK.free) (fn := LK.fn) (file := LK.file) (cs := LK.cs) (cds := LK.cds) (iL := 29) (LV := 15) (most := 63) (x := "_law_script") LK.ck (fl := LK.f_law) (by kernel_rfl) (by kernel_rfl) (by kernel_rfl) (fun ns _ => ⟨none, LK.law_eq (k := 0)⟩) (Pg := LK.RW.prog) (w := w) KX G c (by kernel_rfl) (by kernel_rfl) hmg
    exact ⟨K, fd, sp, KX, hb, hsp, hF⟩
