import PyProof.Rows.All
import Wide.All
import OpenK.AllK
import Wide.FinOn
import HandS.Base
import HandS.Call
import HandS.List
import KE.SortData
import HandS.Defaults
import PyProof.Laws
import HandS.Comp
import HandS.Words
import HandS.WordsExc
import HandS.Exc
import HandS.ExcOwn
import HandS.Flow
import HandS.IsInst
import HandS.Iter
import HandS.Walk
import HandS.Zip
import HandS.Deep
import HandS.Text
import HandS.Style
import HandS.TupAny
import HandS.TupMul
import HandS.Star
import KE.GoesMore
import KE.GoesEnum
import KE.KExcSuper
import HandS.ExcField
import KE.KExcIs
import HandS.Set
import HandS.SetFor
import HandS.Strs
import HandS.HeadHook1
import HandS.HeadHook2
import HandS.HeadHook4
import KE.KExcInit
import HandS.HeadEnd
import KE.KStateDown
import Lean
import HandS.Ends
import HandS.More
import HandS.Head0
import HandS.Head1
import HandS.Head2
import PySem.Challenge.RW_columnsfelt_k01_schemas_or_none
set_option Elab.async false
set_option linter.all false
set_option maxRecDepth 100000
set_option maxHeartbeats 4000000
namespace Mi
open PySem (Str)
/-- a value as a tree -/
inductive D where
  | non | bl (b : Bool) | int (i : Int) | str (x : Str)
  | tup (xs : List D) | lst (xs : List D) | dic (kvs : List (D × D))
  | box | scr | exc (c : Nat) (a : List D)
/-- the box of draws: three numbers, if there is one -/
abbrev Bx := Option (Int × Int × Int)
inductive Res (α : Type) where
  | ok (a : α) (b : Bx)
  | ex (c : Nat) (d : List D) (b : Bx)
  | no
abbrev M (α : Type) := Bx → Res α
def M.ret {α : Type} (a : α) : M α := fun b => .ok a b
def M.bd {α β : Type} (m : M α) (f : α → M β) : M β := fun b => match m b with
  | .ok a b' => f a b'
  | .ex c d b' => .ex c d b'
  | .no => .no
def M.no {α : Type} : M α := fun _ => .no
def M.ofO {α : Type} : Option α → M α
  | some a => M.ret a
  | none => M.no
/-- no exception comes through -/
def M.nex {α : Type} (m : M α) : M α := fun b => match m b with
  | .ex _ _ _ => .no
  | r => r
instance : Monad M where
  pure := M.ret
  bind := M.bd
mutual
def D.dep : D → Nat
  | .tup xs => D.depL xs + 1
  | .lst xs => D.depL xs + 1
  | .dic _ => 100
  | _ => 0
def D.depL : List D → Nat
  | [] => 0
  | x :: xs => max (D.dep x) (D.depL xs)
end
mutual
/-- built of None, bools, ints, texts, lists, tuples -/
def D.py : D → Bool
  | .tup xs => D.pyL xs
  | .lst xs => D.pyL xs
  | .dic _ | .box | .scr | .exc _ _ => false
  | _ => true
def D.pyL : List D → Bool
  | [] => true
  | x :: xs => D.py x && D.pyL xs
end
mutual
/-- no list, no dict in it -/
def D.pure : D → Bool
  | .tup xs => D.pureL xs
  | .lst _ | .dic _ | .box | .scr | .exc _ _ => false
  | _ => true
def D.pureL : List D → Bool
  | [] => true
  | x :: xs => D.pure x && D.pureL xs
end
mutual
/-- Python's == -/
def D.eqv : D → D → Bool
  | .non, .non => true
  | .bl a, .bl b => a == b
  | .bl a, .int j => (if a then 1 else 0) == j
  | .int i, .bl b => i == (if b then 1 else 0)
  | .int i, .int j => i == j
  | .str x, .str y => decide (x = y)
  | .lst xs, .lst ys => D.eqvL xs ys
  | .tup xs, .tup ys => D.eqvL xs ys
  | _, _ => false
def D.eqvL : List D → List D → Bool
  | [], [] => true
  | x :: xs, y :: ys => D.eqv x y && D.eqvL xs ys
  | _, _ => false
end
/-- both may be asked for == -/
def D.cmp (a b : D) : Bool := D.py a && D.py b && decide (min (D.dep a) (D.dep b) ≤ 60)
def D.isStr : D → Bool
  | .str _ => true
  | _ => false
mutual
def toPy : D → PySem.PyData
  | .non => .none
  | .bl b => .bool b
  | .int i => .int i
  | .str x => .str x
  | .tup xs => .tuple (toPyL xs)
  | .lst xs => .list (toPyL xs)
  | _ => .none
def toPyL : List D → List PySem.PyData
  | [] => []
  | x :: xs => toPy x :: toPyL xs
end
/-- what may be sorted -/
def isTupC : D → Bool
  | .tup (_ :: _) => true
  | _ => false
def isPlainD : D → Bool
  | .non => false
  | .tup _ => false
  | _ => true
def sortOk (xs : List D) : Bool := D.pyL xs && (xs.all fun d => decide (D.dep d ≤ 60)) && (xs.all fun a => xs.all fun b => PySem.W.alike (toPy a) (toPy b)) && (xs.all isTupC || xs.all isPlainD)
def leD (a b : D) : Bool := !PySem.W.dataLt (toPy b) (toPy a)
section
variable {α : Type} (le : α → α → Bool)
/-- merged, sorted; what List.merge, List.mergeSort give, but by recursion on a number -/
def mergeF : Nat → List α → List α → List α
  | 0, l, r => l ++ r
  | _ + 1, [], r => r
  | _ + 1, l, [] => l
  | n + 1, a :: l, b :: r => if le a b then a :: mergeF n l (b :: r) else b :: mergeF n (a :: l) r
def sortF : Nat → List α → List α
  | 0, l => l
  | _ + 1, [] => []
  | _ + 1, [a] => [a]
  | n + 1, a :: b :: l => mergeF le (l.length + 2) (sortF n ((a :: b :: l).take ((l.length + 3) / 2))) (sortF n ((a :: b :: l).drop ((l.length + 3) / 2)))
theorem mergeF_eq : ∀ (n : Nat) (l r : List α), l.length + r.length ≤ n → mergeF le n l r = List.merge l r le
  | 0, l, r, h => by
    have h1 : l = [] := List.eq_nil_of_length_eq_zero (by omega)
    have h2 : r = [] := List.eq_nil_of_length_eq_zero (by omega)
    subst h1; subst h2
    simp [mergeF]
  | n + 1, [], r, h => by simp [mergeF]
  | n + 1, a :: l, [], h => by simp [mergeF]
  | n + 1, a :: l, b :: r, h => by
    simp only [List.length_cons] at h
    rw [mergeF, mergeF_eq n l (b :: r) (by simp only [List.length_cons]; omega), mergeF_eq n (a :: l) r (by simp only [List.length_cons]; omega), List.cons_merge_cons]
theorem sortF_eq : ∀ (n : Nat) (l : List α), l.length ≤ n → sortF le n l = l.mergeSort le
  | 0, l, h => by
    have h1 : l = [] := List.eq_nil_of_length_eq_zero (by omega)
    subst h1
    simp [sortF]
  | n + 1, [], h => by simp [sortF]
  | n + 1, [a], h => by simp [sortF]
  | n + 1, a :: b :: l, h => by
    simp only [List.length_cons] at h
    have e : (a :: b :: l).mergeSort le = List.merge (((a :: b :: l).take ((l.length + 3) / 2)).mergeSort le) (((a :: b :: l).drop ((l.length + 3) / 2)).mergeSort le) le := by
      rw [List.mergeSort]
      simp [List.MergeSort.Internal.splitInTwo_fst, List.MergeSort.Internal.splitInTwo_snd]
    rw [sortF, e, sortF_eq n _ (by rw [List.length_take]; simp only [List.length_cons]; omega), sortF_eq n _ (by rw [List.length_drop]; simp only [List.length_cons]; omega)]
    exact mergeF_eq _ _ _ _ (by rw [List.length_mergeSort, List.length_mergeSort, List.length_take, List.length_drop]; simp only [List.length_cons]; omega)
end
def srt {α : Type} (le : α → α → Bool) (xs : List α) : List α := sortF le xs.length xs
theorem srt_eq {α : Type} (le : α → α → Bool) (xs : List α) : srt le xs = xs.mergeSort le := sortF_eq le _ _ (Nat.le_refl _)
def sortD (xs : List D) : List D := srt leD xs
/-- the classes that isinstance is asked about -/
inductive Ty where
  | int | bool | str | list | tuple | dict | exc (c : Nat) | valueError | lookupError | keyError | indexError
  deriving DecidableEq
def D.isTy : D → Ty → Option Bool
  | .exc j _, .exc k => some (decide (j = k))
  | .exc j _, .valueError => some (decide (5 ≤ j))
  | .exc j _, .lookupError => some (decide (j < 5))
  | .exc _ _, _ => some false
  | _, .exc _ => none
  | _, .valueError => none
  | _, .lookupError => none
  | _, .keyError => none
  | _, .indexError => none
  | .int _, .int => some true
  | .bl _, .int => some true
  | .bl _, .bool => some true
  | .str _, .str => some true
  | .lst _, .list => some true
  | .tup _, .tuple => some true
  | .box, _ => none
  | .scr, _ => none
  | .dic _, .dict => some true
  | _, _ => some false
/-- the exception classes: 0 to 4 are LookupErrors, 5 to 9 are ValueErrors -/
def excName : Nat → Str
  | 0 => "NoKind" | 1 => "NoColumn" | 2 => "NoRow" | 3 => "NoAsk" | 4 => "NothingDone"
  | 5 => "Known" | 6 => "Taken" | 7 => "Unfit" | 8 => "BadText" | 9 => "BadLine" | _ => ""
def excFld : Nat → Option Str
  | 0 => some "name" | 1 => some "name" | 2 => some "key" | 3 => some "name" | 5 => some "name" | 6 => some "key" | 9 => some "number" | _ => none
/-- an exception's field -/
def evAttr (f : Str) : D → Option D
  | .exc k [d] => if excFld k = some f then some d else none
  | _ => none
def mkExc (k : Nat) (ds : List D) : Option D := match excFld k, ds with
  | some _, [d] => some (.exc k [d])
  | none, [] => some (.exc k [])
  | _, _ => none
def anyTy (d : D) : List Ty → Option Bool
  | [] => some false
  | t :: ts => match D.isTy d t with
    | some true => some true
    | some false => anyTy d ts
    | none => none
def lineMax : Nat := 16000000
def small64 (i : Int) : Bool := decide (-(2 ^ 64) < i) && decide (i < 2 ^ 64)
def strMax : Nat := 1000000
def strFits (x : Str) : Bool := decide (x.cps.size ≤ strMax) && x.cps.all (· < 0x110000)
inductive Op where
  | add | sub | mul | fdiv | mod | pow | eq | ne | lt | le | gt | ge | inn | nin
  deriving DecidableEq
def inStr (x y : Str) : Bool := !(PySem.Builtin.Str.occurrences y x 0 y.length 1).isEmpty
def cmpI (f : Int → Int → Bool) (g : List Nat → List Nat → Bool) : D → D → Option D
  | .int i, .int j => some (.bl (f i j))
  | .str x, .str y => some (.bl (g x.cps.toList y.cps.toList))
  | _, _ => none
def inSeq (neg : Bool) (x : D) : D → Option D
  | .lst ys => if D.py x && D.pyL ys && decide (D.dep x ≤ 60) then some (.bl (xor neg (ys.any fun y => D.eqv y x))) else none
  | .tup ys => if D.py x && D.pyL ys && decide (D.dep x ≤ 60) then some (.bl (xor neg (ys.any fun y => D.eqv y x))) else none
  | .str y => match x with
    | .str z => (match z.cps.toList with
      | [c] => some (.bl (xor neg (decide (c ∈ y.cps.toList))))
      | _ => some (.bl (xor neg (inStr z y))))
    | _ => none
  | _ => none
def evAdd : D → D → Option D
  | .int i, .int j => some (.int (i + j))
  | .str x, .str y => if x.cps.size + y.cps.size ≤ strMax then some (.str (x ++ y)) else none
  | .lst x, .lst y => if x.length + y.length ≤ lineMax then some (.lst (x ++ y)) else none
  | .tup x, .tup y => if x.length + y.length ≤ lineMax then some (.tup (x ++ y)) else none
  | _, _ => none
def evMul : D → D → Option D
  | .int i, .int j => if small64 i || small64 j then some (.int (i * j)) else none
  | .lst x, .int j => if decide (0 ≤ j) && decide (j < 1000000) && decide (x.length * j.toNat ≤ lineMax) then some (.lst (List.replicate j.toNat x).flatten) else none
  | _, _ => none
def evInt (f : Int → Int → Option Int) : D → D → Option D
  | .int i, .int j => (f i j).map .int
  | _, _ => none
def evOp (o : Op) (a b : D) : Option D := match o with
  | .add => evAdd a b
  | .sub => evInt (fun i j => some (i - j)) a b
  | .mul => evMul a b
  | .fdiv => evInt (fun i j => if 0 < j ∧ j < 1073741824 then some (i / j) else none) a b
  | .mod => evInt (fun i j => if 0 < j then some (i % j) else none) a b
  | .pow => evInt (fun i j => if 0 ≤ j ∧ j ≤ 1000 ∧ i.natAbs < 1000 then some (i ^ j.toNat) else none) a b
  | .eq => if D.cmp a b then some (.bl (D.eqv a b)) else none
  | .ne => if D.cmp a b then some (.bl (!D.eqv a b)) else none
  | .lt => cmpI (fun i j => decide (i < j)) (fun i j => decide (i < j)) a b
  | .le => cmpI (fun i j => decide (i ≤ j)) (fun i j => !decide (j < i)) a b
  | .gt => cmpI (fun i j => decide (j < i)) (fun i j => decide (j < i)) a b
  | .ge => cmpI (fun i j => decide (j ≤ i)) (fun i j => !decide (i < j)) a b
  | .inn => inSeq false a b
  | .nin => inSeq true a b
def atD (xs : List D) (i : Int) : Option D := L2.atI xs i
def evIx : D → D → Option D
  | .lst xs, .int i => atD xs i
  | .tup xs, .int i => atD xs i
  | .str x, .int i => (L2.atI x.cps.toList i).map fun c => .str ⟨#[c]⟩
  | _, _ => none
def cut {α : Type} (xs : List α) (lo hi : Option Int) : List α := (xs.drop (HT.sIx xs.length 0 lo)).take (HT.sIx xs.length xs.length hi - HT.sIx xs.length 0 lo)
def cutScr (ns : List Int) (lo hi : Option Int) : List D := (cut ns lo hi).map .int
def evSl (ns : List Int) : D → Option Int → Option Int → Option D
  | .lst xs, lo, hi => some (.lst (cut xs lo hi))
  | .tup xs, lo, hi => some (.tup (cut xs lo hi))
  | .str x, lo, hi => some (.str ⟨(cut x.cps.toList lo hi).toArray⟩)
  | .scr, lo, hi => some (.lst (cutScr ns lo hi))
  | _, _, _ => none
/-- [::-1] -/
def evRev : D → Option D
  | .lst xs => some (.lst xs.reverse)
  | .tup xs => some (.tup xs.reverse)
  | _ => none
def truth : D → Option Bool
  | .non => some false
  | .bl b => some b
  | .int i => some (i != 0)
  | .str x => some (x.cps.size != 0)
  | .lst xs => some (!xs.isEmpty)
  | .tup xs => some (!xs.isEmpty)
  | _ => none
def isNon : D → Bool
  | .non => true
  | _ => false
def asB : D → Option Bool
  | .bl b => some b
  | _ => none
def asI : D → Option Int
  | .int i => some i
  | _ => none
def bools : List D → Option (List Bool)
  | [] => some []
  | .bl b :: r => (bools r).map (b :: ·)
  | _ :: _ => none
def intsD : List D → Option (List Int)
  | [] => some []
  | .int b :: r => (intsD r).map (b :: ·)
  | _ :: _ => none
def strsD : List D → Option (List Str)
  | [] => some []
  | .str b :: r => (strsD r).map (b :: ·)
  | _ :: _ => none
/-- what may be walked -/
def itemsOf : D → Option (List D)
  | .lst xs => some xs
  | .tup xs => some xs
  | _ => none
/-- sorted, each once -/
def leStr (x y : Str) : Bool := decide (x.cps.toList ≤ y.cps.toList)
def dedup {α : Type} [DecidableEq α] : List α → List α
  | [] => []
  | x :: r => x :: (dedup r).filter fun y => !decide (y = x)
def leInt (a b : Int) : Bool := decide (a ≤ b)
/-- sorted(set(..)) of texts or of numbers -/
def sortSet (ds : List D) : Option (List D) :=
  if ds.length < 4000 then (match strsD ds with
  | some xs => some ((srt leStr (dedup xs)).map .str)
  | none => match intsD ds with
    | some is => some ((srt leInt (dedup is)).map .int)
    | none => none) else none
def lenSet (ds : List D) : Option Nat :=
  if ds.length < 4000 then (match strsD ds with
  | some xs => some (dedup xs).length
  | none => match intsD ds with
    | some is => some (dedup is).length
    | none => none) else none
inductive Bi where
  | len | int | abs | all | any | list | tuple | sortSet | lenSet | sort | str | sum
  deriving DecidableEq
mutual
inductive MT where
  | slot (i : Nat)
  | tup (ts : MTs)
inductive MTs where
  | nil
  | cons (t : MT) (r : MTs)
end
mutual
inductive ME where
  | var (i : Nat) | bor (i : Nat) | cst (d : D) | glo (g : Nat)
  | tup (es : MEs) | lst (es : MEs)
  | op (o : Op) (a b : ME) | chain (o1 o2 : Op) (a b c : ME)
  | neg (a : ME) | notE (a : ME) | andE (es : MEs) | orE (es : MEs) | ite (c a b : ME)
  | isN (neg : Bool) (a : ME)
  | ix (a i : ME) | sl (a : ME) (lo hi : MO) | rev (a : ME)
  | call (f : Nat) (es : MEs) | lend (f : Nat) (es : MEs) | callK (f : Nat) (es es2 : MEs) (ks : List Nat)
  | bi (b : Bi) (a : ME)
  | isi (a : ME) (one : Bool) (ts : List Ty)
  | comp (e : ME) (t : MT) (s : MSrc) (ifs : MEs) (own : List Nat)
  | mk (c : Nat) (es : MEs) | mkK (c : Nat) (e : ME) | attr (f : Str) (a : ME)
  | boxed (f : Nat) (e : ME)
inductive MEs where
  | nil
  | cons (star : Bool) (e : ME) (r : MEs)
inductive MO where
  | none
  | some (e : ME)
inductive MSrc where
  | it (e : ME) | range (a : ME) | range2 (a b : ME) | enum (a : ME) | zip (a b : ME)
end
mutual
inductive MS where
  | asg (own : Bool) (t : MT) (e : ME)
  | par (i j : Nat) (oi oj : Bool) (a b : ME)
  | aug (o : Op) (i : Nat) (e : ME)
  | seti (i : Nat) (x e : ME)
  | bset (i : Nat) (x e : ME)
  | app (i : Nat) (e : ME)
  | ext (i : Nat) (e : ME)
  | share (i : Nat)
  | ret (e : ME) | retN
  | ite (c : ME) (a b : MSs)
  | for_ (t : MT) (s : MSrc) (dead : List Nat) (b : MSs)
  | while_ (c : ME) (dead : List Nat) (b : MSs)
  | expr (e : ME)
  | pass | brk | cont | stuck
inductive MSs where
  | nil
  | cons (s : MS) (r : MSs)
end
/-- what a slot holds: nothing, a value that others may hold too, a list of one's own -/
inductive Sl where
  | no | vl (d : D) | ow (d : D)
abbrev Env := List Sl
mutual
def tSlots : MT → List Nat
  | .slot i => [i]
  | .tup ts => tSlotsL ts
def tSlotsL : MTs → List Nat
  | .nil => []
  | .cons t r => tSlots t ++ tSlotsL r
end
mutual
def bindT : MT → D → Env → Option Env
  | .slot i, d, s => if i < s.length then some (s.set i (.vl d)) else none
  | .tup ts, d, s => match itemsOf d with
    | some ds => (match d with
      | .tup _ => bindTs ts ds s
      | _ => none)
    | none => none
def bindTs : MTs → List D → Env → Option Env
  | .nil, [], s => some s
  | .cons t r, d :: ds, s => match bindT t d s with
    | some s' => bindTs r ds s'
    | none => none
  | _, _, _ => none
end
def Sl.isOw : Sl → Bool
  | .ow _ => true
  | _ => false
def Env.noOw (s : Env) (is : List Nat) : Bool := is.all fun i => !(((s[i]?).getD .no).isOw)
def Env.kill (s : Env) : List Nat → Env
  | [] => s
  | i :: is => (Env.kill s is).set i .no
structure Cfg where
  cl : Nat → List D → M D
  G : Nat → Option D
  ns : List Int
def evBi : Bi → D → Option D
  | .len, .lst xs => some (.int xs.length)
  | .len, .tup xs => some (.int xs.length)
  | .len, .str x => some (.int x.cps.size)
  | .int, .int i => some (.int i)
  | .int, .bl b => some (.int (if b then 1 else 0))
  | .abs, .int i => some (.int (if i < 0 then -i else i))
  | .all, .lst xs => (bools xs).map fun bs => .bl (bs.all id)
  | .any, .lst xs => (bools xs).map fun bs => .bl (bs.any id)
  | .list, .lst xs => some (.lst xs)
  | .list, .tup xs => some (.lst xs)
  | .tuple, .lst xs => some (.tup xs)
  | .tuple, .tup xs => some (.tup xs)
  | .sortSet, .lst xs => (sortSet xs).map .lst
  | .sortSet, .tup xs => (sortSet xs).map .lst
  | .lenSet, .lst xs => (lenSet xs).map fun n => .int n
  | .lenSet, .tup xs => (lenSet xs).map fun n => .int n
  | .sort, .lst xs => if sortOk xs && decide (xs.length ≤ lineMax) then some (.lst (sortD xs)) else none
  | .sum, .lst xs => (intsD xs).map fun is => .int is.sum
  | .str, .int i => if i.natAbs < 10 ^ 100 then some (.str (toString i : String)) else none
  | _, _ => none
def upTo (lo : Int) (n : Nat) : List D := (List.range n).map fun (k : Nat) => D.int (lo + (k : Int))
def evRange (lo hi : Int) : Option (List D) := if -(2 ^ 62) ≤ lo ∧ lo < 2 ^ 62 ∧ -(2 ^ 62) ≤ hi ∧ hi < 2 ^ 62 then some (upTo lo (hi - lo).toNat) else none
def enumD : Nat → List D → List D
  | _, [] => []
  | k, d :: ds => .tup [.int k, d] :: enumD (k + 1) ds
def zipD : List D → List D → List D
  | x :: xs, y :: ys => .tup [x, y] :: zipD xs ys
  | _, _ => []
def strItems (x : Str) : List D := x.cps.toList.map fun c => .str ⟨#[c]⟩
/-- the items of what is walked -/
def walkOf : D → Option (List D)
  | .lst xs => some xs
  | .tup xs => some xs
  | .str x => some (strItems x)
  | _ => none
def zipOf : D → D → Option (List D)
  | .lst xs, .lst ys => some (zipD xs ys)
  | .tup xs, .tup ys => some (zipD xs ys)
  | _, _ => none
/-- the turns of a comprehension: f gives the item, if it is kept -/
def compGo (f : D → M (Option D)) : List D → M (List D)
  | [] => M.ret []
  | d :: ds => (f d).bd fun o => (compGo f ds).bd fun r => M.ret (match o with | some x => x :: r | none => r)
def permD {α : Type} (order : List Nat) (vs : List α) : List α := order.filterMap fun i => vs[i]?
def M.asB (m : M D) : M Bool := m.bd fun d => M.ofO (Mi.asB d)
/-- a place, of the box too -/
def ixM (x y : D) : M D := match x, y with
  | .box, .int k => fun b => match b with
    | some (i, j, l) => (match L2.atI [i, j, l] k with
      | some v => .ok (.int v) b
      | none => .no)
    | none => .no
  | x, y => M.ofO (evIx x y)
/-- the box written -/
def bsetM {α : Type} (a : α) (k v : Int) : M α := fun b => match b with
  | some (i, j, l) => (match L2.ixN 3 k with
    | some 0 => .ok a (some (v, j, l))
    | some 1 => .ok a (some (i, v, l))
    | some 2 => .ok a (some (i, j, v))
    | _ => .no)
  | none => .no
def tr (m : M D) : M D × M Bool := (m, m.bd fun x => M.ofO (truth x))
section
variable (c : Cfg)
mutual
/-- as a value, as a test -/
def evP : ME → Env → M D × M Bool
  | .andE es, s => (evAnd es s, evTAnd es s)
  | .orE es, s => (evOr es s, evTOr es s)
  | .notE a, s => ((evP a s).1.bd fun x => (M.ofO (truth x)).bd fun b => M.ret (.bl (!b)), (evP a s).2.bd fun b => M.ret (!b))
  | .var i, s => tr (match s[i]? with
    | some (.vl d) => M.ret d
    | _ => M.no)
  | .bor i, s => tr (match s[i]? with
    | some (.vl d) => M.ret d
    | some (.ow d) => M.ret d
    | _ => M.no)
  | .cst d, _ => tr (M.ret d)
  | .glo g, _ => tr (M.ofO (c.G g))
  | .tup es, s => tr ((evEs es s).bd fun ds => if ds.length ≤ lineMax then M.ret (.tup ds) else M.no)
  | .lst es, s => tr ((evEs es s).bd fun ds => if ds.length ≤ lineMax then M.ret (.lst ds) else M.no)
  | .op o a b, s => tr ((evP a s).1.bd fun x => (evP b s).1.bd fun y => M.ofO (evOp o x y))
  | .chain o1 o2 a b e, s => tr ((evP a s).1.bd fun x => (evP b s).1.bd fun y => (M.ofO (evOp o1 x y)).asB.bd fun k =>
      if k then (evP e s).1.bd fun z => M.ofO (evOp o2 y z) else M.ret (.bl false))
  | .neg a, s => tr ((evP a s).1.bd fun x => (M.ofO (asI x)).bd fun i => M.ret (.int (-i)))
  | .ite t a b, s => ((evP t s).2.bd fun k => if k then (evP a s).1 else (evP b s).1, M.no)
  | .isN n a, s => tr ((evP a s).1.bd fun x => M.ret (.bl (xor n (isNon x))))
  | .ix a i, s => tr ((evP a s).1.bd fun x => (evP i s).1.bd fun y => ixM x y)
  | .sl a lo hi, s => tr ((evP a s).1.bd fun x => (evO lo s).bd fun l => (evO hi s).bd fun h => M.ofO (evSl c.ns x l h))
  | .rev a, s => tr ((evP a s).1.bd fun x => M.ofO (evRev x))
  | .call f es, s => tr ((evEs es s).bd fun ds => c.cl f ds)
  | .lend f es, s => tr ((evEs es s).bd fun ds => (c.cl f ds).bd fun d => if d.pure then M.ret d else M.no)
  | .callK f es es2 ks, s => tr ((evEs es s).bd fun ds => (evEs es2 s).bd fun d2 => c.cl f (permD ks (ds ++ d2)))
  | .bi b a, s => tr ((evP a s).1.bd fun x => M.ofO (evBi b x))
  | .isi a _ ts, s => tr ((evP a s).1.bd fun x => (M.ofO (anyTy x ts)).bd fun k => M.ret (.bl k))
  | .comp e t r ifs own, s => tr ((evSrc r s).bd fun ds => if s.noOw own then
      (M.nex (compGo (fun d => match bindT t d (s.kill own) with
        | some s1 => (evTs ifs s1).bd fun k => if k then (evP e s1).1.bd fun x => M.ret (some x) else M.ret none
        | none => M.no) ds)).bd fun r => if r.length ≤ lineMax then M.ret (.lst r) else M.no else M.no)
  | .mk k es, s => tr ((evEs es s).bd fun ds => M.ofO (mkExc k ds))
  | .mkK k e, s => tr ((evP e s).1.bd fun d => M.ofO (mkExc k [d]))
  | .attr f a, s => tr ((evP a s).1.bd fun x => M.ofO (evAttr f x))
  | .boxed f e, s => tr ((evP e s).1.bd fun x => (match x with
    | .lst [.int i, .int j, .int k] => fun b => (match b with
      | none => (match c.cl f [.box] (some (i, j, k)) with
        | .ok (.bl t) _ => .ok (.bl t) none
        | _ => .no)
      | some _ => .no)
    | _ => M.no))
def evTAnd : MEs → Env → M Bool
  | .nil, _ => M.ret true
  | .cons _ e r, s => (evP e s).2.bd fun b => if b then evTAnd r s else M.ret false
def evTOr : MEs → Env → M Bool
  | .nil, _ => M.ret false
  | .cons _ e r, s => (evP e s).2.bd fun b => if b then M.ret true else evTOr r s
def evAnd : MEs → Env → M D
  | .nil, _ => M.ret (.bl true)
  | .cons _ e r, s => match r with
    | .nil => (evP e s).1
    | .cons _ _ _ => (evP e s).1.bd fun x => (M.ofO (truth x)).bd fun b => if b then evAnd r s else M.ret x
def evOr : MEs → Env → M D
  | .nil, _ => M.ret (.bl false)
  | .cons _ e r, s => match r with
    | .nil => (evP e s).1
    | .cons _ _ _ => (evP e s).1.bd fun x => (M.ofO (truth x)).bd fun b => if b then M.ret x else evOr r s
/-- the tests of a comprehension, all of them -/
def evTs : MEs → Env → M Bool
  | .nil, _ => M.ret true
  | .cons _ e r, s => (evP e s).2.bd fun b => if b then evTs r s else M.ret false
def evEs : MEs → Env → M (List D)
  | .nil, _ => M.ret []
  | .cons k e r, s => match k with
    | false => (evP e s).1.bd fun x => (evEs r s).bd fun xs => M.ret (x :: xs)
    | true => (evP e s).1.bd fun x => (M.ofO (itemsOf x)).bd fun ys => (evEs r s).bd fun xs => M.ret (ys ++ xs)
def evO : MO → Env → M (Option Int)
  | .none, _ => M.ret none
  | .some e, s => (evP e s).1.bd fun x => (M.ofO (asI x)).bd fun i => M.ret (some i)
def evSrc : MSrc → Env → M (List D)
  | .it e, s => (evP e s).1.bd fun x => M.ofO (walkOf x)
  | .range a, s => (evP a s).1.bd fun x => (M.ofO (asI x)).bd fun i => M.ofO (evRange 0 i)
  | .range2 a b, s => (evP a s).1.bd fun x => (evP b s).1.bd fun y => (M.ofO (asI x)).bd fun i => (M.ofO (asI y)).bd fun j => M.ofO (evRange i j)
  | .enum a, s => (evP a s).1.bd fun x => (M.ofO (itemsOf x)).bd fun ds => M.ret (enumD 0 ds)
  | .zip a b, s => (evP a s).1.bd fun x => (evP b s).1.bd fun y => M.ofO (zipOf x y)
end
def evE (e : ME) (s : Env) : M D := (evP c e s).1
def evT (e : ME) (s : Env) : M Bool := (evP c e s).2
end
inductive Flow where
  | nx | rt (d : D) | bk | ct
def slOf (own : Bool) : D → Sl
  | .lst xs => if own then .ow (.lst xs) else .vl (.lst xs)
  | d => .vl d
def setOwn (own : Bool) (i : Nat) (d : D) (s : Env) : Option Env := if i < s.length then some (s.set i (slOf own d)) else none
def forGo (t : MT) (dead : List Nat) (body : Env → M (Flow × Env)) : List D → Env → M (Flow × Env)
  | [], s => M.ret (.nx, s)
  | d :: ds, s => (M.ofO (bindT t d s)).bd fun s1 => (body s1).bd fun p => (match p.1 with
    | .nx => forGo t dead body ds (p.2.kill dead)
    | .ct => forGo t dead body ds (p.2.kill dead)
    | .bk => M.ret (.nx, p.2)
    | .rt v => M.ret (.rt v, p.2))
def whileGo (dead : List Nat) (test : Env → M Bool) (body : Env → M (Flow × Env)) : Nat → Env → M (Flow × Env)
  | 0, _ => M.no
  | n + 1, s => (test s).bd fun k => if k then (body s).bd fun p => (match p.1 with
    | .nx => whileGo dead test body n (p.2.kill dead)
    | .ct => whileGo dead test body n (p.2.kill dead)
    | .bk => M.ret (.nx, p.2)
    | .rt v => M.ret (.rt v, p.2)) else M.ret (.nx, s)
def fuelW : Nat := 1000000
section
variable (c : Cfg)
mutual
def exS : MS → Env → M (Flow × Env)
  | .asg own t e, s => (evE c e s).bd fun x => (M.ofO (match t with
    | .slot i => setOwn own i x s
    | t => if own then none else bindT t x s)).bd fun s' => M.ret (.nx, s')
  | .par i j oi oj a b, s => (evE c a s).bd fun x => (evE c b s).bd fun y => (M.ofO (setOwn oi i x s)).bd fun s1 => (M.ofO (setOwn oj j y s1)).bd fun s2 => M.ret (.nx, s2)
  | .aug o i e, s => (match s[i]? with
    | some (.vl x) => (evE c e s).bd fun y => (M.ofO (match x, y with
      | .int a, .int b => (match o with
        | .add => some (.int (a + b))
        | .sub => some (.int (a - b))
        | _ => none)
      | _, _ => none)).bd fun z => M.ret (.nx, s.set i (.vl z))
    | _ => M.no)
  | .seti i x e, s => (evE c e s).bd fun v => (match s[i]? with
    | some (.ow (.lst xs)) => (evE c x s).bd fun k => (M.ofO (asI k)).bd fun k => (M.ofO (L2.ixN xs.length k)).bd fun j => M.ret (.nx, s.set i (.ow (.lst (xs.set j v))))
    | _ => M.no)
  | .bset i x e, s => (evE c e s).bd fun v => (match s[i]? with
    | some (.vl .box) => (evE c x s).bd fun k => (M.ofO (asI k)).bd fun k => (M.ofO (asI v)).bd fun v => bsetM (.nx, s) k v
    | _ => M.no)
  | .app i e, s => (match s[i]? with
    | some (.ow (.lst xs)) => (evE c e s).bd fun v => if xs.length < lineMax then M.ret (.nx, s.set i (.ow (.lst (xs ++ [v])))) else M.no
    | _ => M.no)
  | .ext i e, s => (match s[i]? with
    | some (.ow (.lst xs)) => (evE c e s).bd fun v => (match v with
      | .lst ys => if xs.length + ys.length ≤ lineMax then M.ret (.nx, s.set i (.ow (.lst (xs ++ ys)))) else M.no
      | _ => M.no)
    | _ => M.no)
  | .share i, s => (match s[i]? with
    | some (.ow d) => M.ret (.nx, s.set i (.vl d))
    | some (.vl _) => M.ret (.nx, s)
    | _ => M.no)
  | .ret e, s => (evE c e s).bd fun x => M.ret (.rt x, s)
  | .retN, s => M.ret (.rt .non, s)
  | .ite t a b, s => (evT c t s).bd fun k => if k then exSs a s else exSs b s
  | .for_ t r dead b, s => (evSrc c r s).bd fun ds => forGo t dead (exSs b) ds s
  | .while_ t dead b, s => whileGo dead (evT c t) (exSs b) fuelW s
  | .expr e, s => (evE c e s).bd fun _ => M.ret (.nx, s)
  | .stuck, _ => M.no
  | .pass, s => M.ret (.nx, s)
  | .brk, s => M.ret (.bk, s)
  | .cont, s => M.ret (.ct, s)
def exSs : MSs → Env → M (Flow × Env)
  | .nil, s => M.ret (.nx, s)
  | .cons a r, s => (exS a s).bd fun p => (match p.1 with
    | .nx => exSs r p.2
    | _ => M.ret p)
end
end
inductive Kind where
  | mini | take | cells
structure FD where
  name : Str
  ps : List Str
  N : List Str
  kind : Kind
  fresh : Bool
  body : MSs
structure Prg where
  fs : List FD
  gs : List (Str × D)
/-- a draw -/
def takeM : List D → M D
  | [.box, .int n] => fun b => match b with
    | some (g, m, k) => if 0 < n ∧ n < 1073741824 then
        (if 0 < g then .ok (.int (g % n)) (some (g / n, m, k)) else
          (if 0 ≤ k ∧ k < 2 ^ 60 then
            (let k1 := k + 1
             let once := ((m + 48271 * k1) * (39373 + k1)) % 2147483647
             let far := once % 40009 + 7
             let twice := ((once + k1 + m / 1000003) * far) % 2147483629
             .ok (.int ((((twice * 48271 + once) % 2147483587) / 64) % n)) (some (g, m, k1))) else .no)) else .no
    | none => .no
  | _ => M.no
/-- the first numbers of the script, with the later ones added to them -/
def cellsGo (most : Nat) : Nat → List Int → List Int → List Int
  | _, [], cs => cs
  | k, g :: r, cs => cellsGo most (k + 1) r (cs.set (k % most) ((cs[k % most]?).getD 0 + g * ((k : Int) + 2)))
def cellsF (ns : List Int) (most : Nat) : List Int :=
  cellsGo most 0 ((ns.take 63).drop most) (let a := ns.take most; if a = [] then [0] else a)
def cellsM (ns : List Int) : List D → M D
  | [.scr, .int 3] => M.ret (.lst ((cellsF ns 3).map .int))
  | [.scr, .int 2] => M.ret (.lst ((cellsF ns 2).map .int))
  | _ => M.no
def Prg.glob (p : Prg) (g : Nat) : Option D := (p.gs[g]?).map (·.2)
/-- the i-th def called, the calls within at most k deep -/
def run (p : Prg) (ns : List Int) : Nat → Nat → List D → M D
  | 0, _, _ => M.no
  | k + 1, f, ds => match p.fs[f]? with
    | none => M.no
    | some d => if ds.length = d.ps.length then (match d.kind with
      | .take => takeM ds
      | .cells => cellsM ns ds
      | .mini => (exSs ⟨run p ns k, p.glob, ns⟩ d.body (ds.map .vl ++ List.replicate (d.N.length - ds.length) .no)).bd fun q => (match q.1 with
        | .rt v => M.ret v
        | .nx => M.ret .non
        | _ => M.no)) else M.no
end Mi
namespace Mi
open PySem L2
/-- plain parameters, no defaults -/
def plainArgs (ps : List Str) (a : Arguments) : Bool := a.posonlyargs.isEmpty && a.vararg.isNone && a.kwonlyargs.isEmpty && a.kwarg.isNone && decide (a.args.map (·.arg) = ps)
theorem lookup_zip_none {α β : Type} [BEq α] [LawfulBEq α] {k : α} : ∀ {ks : List α} {us : List β}, k ∉ ks → (ks.zip us).lookup k = none
  | [], _, _ => by simp
  | _ :: _, [], _ => by simp
  | x :: ks, u :: us, h => by
    rw [List.zip_cons_cons, List.lookup_cons]
    have h1 : (k == x) = false := beq_eq_false_iff_ne.mpr fun e => h (e ▸ List.mem_cons_self)
    rw [h1]
    exact lookup_zip_none fun m => h (List.mem_cons_of_mem _ m)
theorem lookup_append {α β : Type} [BEq α] {k : α} : ∀ {l m : List (α × β)}, (l ++ m).lookup k = (l.lookup k).or (m.lookup k)
  | [], m => by simp
  | (a, b) :: l, m => by
    rw [List.cons_append, List.lookup_cons, List.lookup_cons]
    cases (k == a)
    · exact lookup_append
    · rfl
/-- the slots behind the keywords -/
theorem kw_loop {normal : List Str} {ex : List (Str × Value)} {body : Str × Value → List (Str × Value) × List (Str × Value) → Sem (ForInStep (List (Str × Value) × List (Str × Value)))}
    (hb : ∀ p s, p.1 ∈ normal → s.lookup p.1 = none → body p (s, ex) = pure (.yield (s ++ [p], ex))) : ∀ (kvs slots : List (Str × Value)), (∀ p ∈ kvs, p.1 ∈ normal) → (kvs.map (·.1)).Nodup → (∀ p ∈ kvs, slots.lookup p.1 = none) →
      (forIn kvs (slots, ex) body : Sem (List (Str × Value) × List (Str × Value))) = pure (slots ++ kvs, ex)
  | [], slots, _, _, _ => by simp
  | p :: kvs, slots, h1, h2, h3 => by
    rw [List.forIn_cons, hb p slots (h1 p (List.mem_cons_self)) (h3 p (List.mem_cons_self)), pure_bind]
    rw [List.map_cons, List.nodup_cons] at h2
    simp only
    rw [kw_loop hb kvs (slots ++ [p]) (fun q hq => h1 q (List.mem_cons_of_mem _ hq)) h2.2 (fun q hq => by
      rw [lookup_append, h3 q (List.mem_cons_of_mem _ hq)]
      have : q.1 ≠ p.1 := fun e => h2.1 (by rw [← e]; exact List.mem_map_of_mem hq)
      have e : (q.1 == p.1) = false := beq_eq_false_iff_ne.mpr this
      simp [List.lookup, e])]
    simp
theorem filter_zip {α β : Type} [BEq α] [LawfulBEq α] : ∀ {ps : List α} {us : List β}, us.length = ps.length → ps.Nodup → ps.filterMap (fun n => ((ps.zip us).lookup n).map (n, ·)) = ps.zip us
  | [], us, _, _ => by simp
  | p :: ps, [], h, _ => by simp at h
  | p :: ps, u :: us, h, nd => by
    rw [List.nodup_cons] at nd
    rw [List.zip_cons_cons, List.filterMap_cons]
    simp only [List.lookup_cons, beq_self_eq_true, Option.map_some]
    congr 1
    have fc : ∀ (l : List α) (f g : α → Option (α × β)), (∀ n ∈ l, f n = g n) → l.filterMap f = l.filterMap g := by
      intro l f g hl
      induction l with
      | nil => rfl
      | cons a l ih => rw [List.filterMap_cons, List.filterMap_cons, hl a List.mem_cons_self, ih fun n hn => hl n (List.mem_cons_of_mem _ hn)]
    rw [fc ps _ (fun n => ((ps.zip us).lookup n).map (n, ·)) fun n hn => by
      have : (n == p) = false := beq_eq_false_iff_ne.mpr fun e => nd.1 (e ▸ hn)
      simp only [this]]
    exact filter_zip (by simpa using h) nd.2
theorem look_some {α β : Type} [BEq α] [LawfulBEq α] {k : α} : ∀ {ks : List α} {us : List β}, us.length = ks.length → k ∈ ks → ∃ u, (ks.zip us).lookup k = some u
  | [], _, _, h => nomatch h
  | _ :: _, [], h, _ => by simp at h
  | x :: ks, u :: us, h, hk => by
    rw [List.zip_cons_cons, List.lookup_cons]
    cases e : (k == x) with
    | true => exact ⟨u, rfl⟩
    | false =>
      rcases List.mem_cons.mp hk with rfl | hk
      · simp at e
      · exact look_some (by simpa using h) hk
theorem bind_args {x qual : Str} {params : Arguments} {body : List Stmt} {scope : Scope} {kV doc pm : Value} {an : Option Addr} {cdv ct : Value} {ps : List Str} (hp : plainArgs ps params = true) (nd : ps.Nodup) (us ws : List Value) (ks : List Str)
    (hu : us.length + ks.length = ps.length) (hw : ws.length = ks.length) (hk : ks.Nodup) (hks : ∀ k, k ∈ ks ↔ k ∈ ps.drop us.length) :
    bindArgs (PySem.W.fnOf x qual params body scope .none kV doc pm an cdv ct) ⟨us, ks.zip ws⟩ = pure (ps.filterMap fun n => ((ps.zip us ++ ks.zip ws).lookup n).map (n, ·)) := by
  unfold plainArgs at hp
  simp only [Bool.and_eq_true, decide_eq_true_eq, List.isEmpty_iff, Option.isNone_iff_eq_none] at hp
  obtain ⟨⟨⟨⟨h1, h2⟩, h3⟩, h4⟩, h5⟩ := hp
  have hzk : (ks.zip ws).map (·.1) = ks := by rw [List.map_fst_zip (by omega)]
  have hnot : ∀ k ∈ ks, (ps.zip us).lookup k = none := fun k hk' => by
    have e : ps.zip us = (ps.take us.length).zip us := by
      rw [List.zip_eq_zip_take_min, List.zip_eq_zip_take_min (l₁ := ps.take us.length)]
      have : min ps.length us.length = us.length := by omega
      have h6 : min (ps.take us.length).length us.length = us.length := by rw [List.length_take]; omega
      rw [this, h6, List.take_take, Nat.min_self]
    rw [e]
    refine lookup_zip_none fun hm => ?_
    have hd := (hks k).mp hk'
    have nd2 : (ps.take us.length ++ ps.drop us.length).Nodup := by rw [List.take_append_drop]; exact nd
    exact (List.nodup_append.mp nd2).2.2 k hm k hd rfl
  unfold bindArgs
  simp only [h1, h2, h3, h4, h5, List.map_nil, List.nil_append, List.append_nil, List.not_mem_nil]
  rw [kw_loop (normal := ps) (fun p s hp hs => ?_) (ks.zip ws) (ps.zip us) (fun p hp => ?_) (by rw [hzk]; exact hk) (fun p hp => ?_)]
  · rw [pure_bind]
    have hi : seqItems? Value.none = pure none := rfl
    rw [hi, pure_bind]
    have hge : (decide (us.length > ps.length) && (none : Option Arg).isNone) = false := by
      have : ¬ us.length > ps.length := by omega
      simp [this]
    simp only [hge]
    have all : ∀ n ∈ ps, ((ps.zip us ++ ks.zip ws).lookup n).isNone = false := fun n hn => by
      rw [lookup_append]
      rw [← List.take_append_drop us.length ps] at hn
      rcases List.mem_append.mp hn with hn | hn
      · have e : ps.zip us = (ps.take us.length).zip us := by
          rw [List.zip_eq_zip_take_min, List.zip_eq_zip_take_min (l₁ := ps.take us.length)]
          have : min ps.length us.length = us.length := by omega
          have h6 : min (ps.take us.length).length us.length = us.length := by rw [List.length_take]; omega
          rw [this, h6, List.take_take, Nat.min_self]
        obtain ⟨u, hu'⟩ := look_some (ks := ps.take us.length) (us := us) (by rw [List.length_take]; omega) hn
        rw [e, hu']
        rfl
      · obtain ⟨u, hu'⟩ := look_some (ks := ks) (us := ws) hw ((hks n).mpr hn)
        rw [hu']
        cases (ps.zip us).lookup n <;> rfl
    have miss : (ps.filter fun n => ((ps.zip us ++ ks.zip ws).lookup n).isNone) = [] := List.filter_eq_nil_iff.mpr fun n hn => by rw [all n hn]; decide
    have hd0 : ((none : Option (Array Value)).getD #[]).toList = [] := rfl
    simp only [hd0, List.length_nil, Nat.sub_zero, List.take_length, Nat.zero_sub, List.drop_nil, miss, List.isEmpty_nil, Bool.not_true, Bool.false_eq_true, if_false, List.zip_nil_right, List.forIn_nil, pure_bind]
  · have : ps.contains p.1 = true := List.contains_iff_mem.mpr hp
    simp only [this, hs]
    rfl
  · have := List.mem_map_of_mem (f := fun x : Str × Value => x.1) hp
    rw [hzk] at this
    exact List.mem_of_mem_drop ((hks _).mp this)
  · have := List.mem_map_of_mem (f := fun x : Str × Value => x.1) hp
    rw [hzk] at this
    exact hnot _ this
theorem look_idx {α β : Type} [BEq α] [LawfulBEq α] {k : α} : ∀ {ks : List α} {us : List β}, k ∈ ks → (ks.zip us).lookup k = us[ks.idxOf k]?
  | [], _, h => nomatch h
  | x :: ks, [], _ => by simp
  | x :: ks, u :: us, hk => by
    rw [List.zip_cons_cons, List.lookup_cons, List.idxOf_cons]
    cases e : (k == x) with
    | true =>
      have e2 : (x == k) = true := by rw [beq_iff_eq] at *; exact e.symm
      rw [e2]
      rfl
    | false =>
      have e2 : (x == k) = false := by
        rw [beq_eq_false_iff_ne] at *
        exact fun z => e z.symm
      rw [e2]
      rcases List.mem_cons.mp hk with rfl | hk
      · simp at e
      · simp only [cond_false, List.getElem?_cons_succ]
        exact look_idx hk
theorem fm_zip {α β : Type} : ∀ {l : List α} {f : α → Option β}, (∀ n ∈ l, (f n).isSome = true) → l.filterMap (fun n => (f n).map (n, ·)) = l.zip (l.filterMap f)
  | [], _, _ => rfl
  | a :: l, f, h => by
    have h1 := h a List.mem_cons_self
    cases e : f a with
    | none => rw [e] at h1; cases h1
    | some b =>
      rw [List.filterMap_cons, List.filterMap_cons, e]
      simp only [Option.map_some, List.zip_cons_cons]
      rw [fm_zip fun n hn => h n (List.mem_cons_of_mem _ hn)]
/-- which of the values handed over goes to each parameter: np by place, then those named ks -/
def orderOf (ps : List Str) (np : Nat) (ks : List Str) : List Nat := ps.map fun n => if n ∈ ks then np + ks.idxOf n else ps.idxOf n
def kwNames (ps : List Str) (np : Nat) (ks : List Str) : Bool := decide (np + ks.length = ps.length) && decide ks.Nodup && decide ps.Nodup && (ks.all fun k => decide (k ∈ ps.drop np)) && ((ps.drop np).all fun k => decide (k ∈ ks))
def KwOk (fd : FuncData) (ps : List Str) : Prop := ∀ (np : Nat) (ks : List Str) (us ws : List Value), kwNames ps np ks = true → us.length = np → ws.length = ks.length → bindArgs fd ⟨us, ks.zip ws⟩ = pure (ps.zip (permD (orderOf ps np ks) (us ++ ws)))
theorem kw_ok {x qual : Str} {params : Arguments} {body : List Stmt} {scope : Scope} {kV doc pm : Value} {an : Option Addr} {cdv ct : Value} {ps : List Str} (hp : plainArgs ps params = true) : KwOk (PySem.W.fnOf x qual params body scope .none kV doc pm an cdv ct) ps := by
  intro np ks us ws hk hu hw
  subst hu
  unfold kwNames at hk
  simp only [Bool.and_eq_true, decide_eq_true_eq, List.all_eq_true] at hk
  obtain ⟨⟨⟨⟨k1, k2⟩, k3⟩, k4⟩, k5⟩ := hk
  rw [bind_args hp k3 us ws ks k1 hw k2 fun k => ⟨k4 k, k5 k⟩]
  congr 1
  have key : ∀ n ∈ ps, (ps.zip us ++ ks.zip ws).lookup n = (us ++ ws)[if n ∈ ks then us.length + ks.idxOf n else ps.idxOf n]? := fun n hn => by
    rw [lookup_append]
    by_cases hnk : n ∈ ks
    · rw [if_pos hnk, look_idx hnk, List.getElem?_append_right (Nat.le_add_right ..), Nat.add_sub_cancel_left]
      have hd := k4 n hnk
      have e : ps.zip us = (ps.take us.length).zip us := by
        rw [List.zip_eq_zip_take_min, List.zip_eq_zip_take_min (l₁ := ps.take us.length)]
        have : min ps.length us.length = us.length := by omega
        have h6 : min (ps.take us.length).length us.length = us.length := by rw [List.length_take]; omega
        rw [this, h6, List.take_take, Nat.min_self]
      have nd2 : (ps.take us.length ++ ps.drop us.length).Nodup := by rw [List.take_append_drop]; exact k3
      rw [e, lookup_zip_none fun hm => (List.nodup_append.mp nd2).2.2 n hm n hd rfl]
      rfl
    · rw [if_neg hnk, look_idx hn, lookup_zip_none hnk]
      have hm : n ∈ ps.take us.length := by
        rw [← List.take_append_drop us.length ps] at hn
        rcases List.mem_append.mp hn with h | h
        · exact h
        · exact absurd (k5 n h) hnk
      have hi : ps.idxOf n < us.length := by
        have e : ps.idxOf n = (ps.take us.length).idxOf n := by
          conv => lhs; rw [← List.take_append_drop us.length ps]
          rw [List.idxOf_append, if_pos hm]
        rw [e]
        have := List.idxOf_lt_length_of_mem hm
        rw [List.length_take] at this
        omega
      rw [List.getElem?_append_left hi]
      cases us[ps.idxOf n]? <;> rfl
  have e1 : ps.filterMap (fun n => ((ps.zip us ++ ks.zip ws).lookup n).map (n, ·)) = ps.zip (ps.filterMap fun n => (ps.zip us ++ ks.zip ws).lookup n) := by
    refine fm_zip fun n hn => ?_
    rw [key n hn]
    have : (if n ∈ ks then us.length + ks.idxOf n else ps.idxOf n) < (us ++ ws).length := by
      rw [List.length_append]
      split
      · rename_i h
        have := List.idxOf_lt_length_of_mem h
        omega
      · have := List.idxOf_lt_length_of_mem hn
        omega
    rw [List.getElem?_eq_getElem this]
    rfl
  rw [e1]
  congr 1
  unfold permD orderOf
  rw [List.filterMap_map]
  have fc : ∀ (l : List Str) (f g : Str → Option Value), (∀ n ∈ l, f n = g n) → l.filterMap f = l.filterMap g := by
    intro l f g hl
    induction l with
    | nil => rfl
    | cons a l ih => rw [List.filterMap_cons, List.filterMap_cons, hl a List.mem_cons_self, ih fun n hn => hl n (List.mem_cons_of_mem _ hn)]
  exact fc _ _ _ key
theorem binds_plain {x qual : Str} {params : Arguments} {body : List Stmt} {scope : Scope} {kV doc pm : Value} {an : Option Addr} {cdv ct : Value} {ps : List Str} (hp : plainArgs ps params = true) (nd : ps.Nodup) (us : List Value) (hl : us.length = ps.length) :
    bindArgs (PySem.W.fnOf x qual params body scope .none kV doc pm an cdv ct) ⟨us, []⟩ = pure (ps.zip us) := by
  have := bind_args (x := x) (qual := qual) (body := body) (scope := scope) (kV := kV) (doc := doc) (pm := pm) (an := an) (cdv := cdv) (ct := ct) hp nd us [] [] (by simpa using hl) rfl List.nodup_nil (fun k => by
    rw [hl, List.drop_length])
  rw [List.zip_nil_right, List.append_nil, filter_zip hl nd] at this
  exact this
end Mi
namespace Mi
open PySem L2
/-- what stays through a walk: the written part, where the box is, the script's numbers, how an exception as a value lies, how one that flies lies -/
structure Cc where
  K : PySem.W.Frag
  β : Option Addr
  ns : List Int
  ev : Nat → Addr → Option Addr → HO → Prop
  frs : Nat → Bool
  exAt : Nat → List D → Value → Option Addr → Hp → Prop
/-- an object of the module -/
def SqK (K : PySem.W.Frag) (a : Addr) (xs : List V) : Prop := ∃ (o : Obj) (its : Array Value) (n : Nat), K.lookup a = some o ∧ o.cls = .type "list" ∧ o.dict = none ∧ o.data = .seq its n ∧ its.size ≤ sizeLine ∧ Vals xs its.toList
theorem rd_keep {H H' : Hp} {a : Addr} {o : HO} (k : ∀ o, H a = some o → H' a = some o) (r : Rd H a o) : Rd H' a o := r.elim (fun h => .inl (k _ h)) fun ⟨u, h⟩ => .inr ⟨u, k _ h⟩
theorem rd_ne {H : Hp} {a : Addr} {o : HO} (r : Rd H a o) : H a ≠ none := fun e => by
  rcases r with h | ⟨u, h⟩ <;> rw [e] at h <;> cases h
/-- an exception's field, if its class k has one -/
def DictAt (c : Cc) (H : Hp) (N : Addr → Prop) (k : Nat) (dd : Option Addr) (xs : List V) : Prop := match excFld k with
  | none => dd = none
  | some f => ∃ e x, dd = some e ∧ ¬ N e ∧ H e = some (.xd [(f, x)]) ∧ xs = [x]
theorem DictAt.keepN {c : Cc} {H H' : Hp} {N : Addr → Prop} {k : Nat} {dd : Option Addr} {xs : List V} (kp : ∀ a o, ¬ N a → H a = some o → H' a = some o) (r : DictAt c H N k dd xs) : DictAt c H' N k dd xs := by
  unfold DictAt at *
  split at r
  · exact r
  · obtain ⟨e, x, h1, h2, h3, h4⟩ := r
    exact ⟨e, x, h1, h2, kp _ _ h2 h3, h4⟩
theorem DictAt.anti {c : Cc} {H : Hp} {N N' : Addr → Prop} {k : Nat} {dd : Option Addr} {xs : List V} (kp : ∀ a, N' a → N a ∨ H a = none) (r : DictAt c H N k dd xs) : DictAt c H N' k dd xs := by
  unfold DictAt at *
  split at r
  · exact r
  · obtain ⟨e, x, h1, h2, h3, h4⟩ := r
    exact ⟨e, x, h1, fun z => (kp e z).elim h2 (fun y => by rw [y] at h3; cases h3), h3, h4⟩
section
variable (c : Cc)
mutual
/-- the value v is d; no list within it is protected -/
def Rep (H : Hp) (N : Addr → Prop) : D → V → Prop
  | .non, v => v = .non
  | .bl b, v => v = .bl b
  | .int i, v => v = .int i
  | .str x, v => v = .str x ∧ strFits x = true
  | .tup ds, v => ∃ a xs, v = .ref a ∧ ¬ N a ∧ H a = some (.tup xs) ∧ RepL H N ds xs
  | .lst ds, v => ∃ a xs, v = .ref a ∧ ¬ N a ∧ H a = some (.lst xs) ∧ RepL H N ds xs
  | .dic _, _ => False
  | .box, v => ∃ b, c.β = some b ∧ v = .ref b
  | .scr, v => ∃ a, v = .ref a ∧ ((¬ N a ∧ Rd H a (.lst (c.ns.map V.int))) ∨ SqK c.K a (c.ns.map V.int))
  | .exc k as, v => ∃ a o dd xs, v = .ref a ∧ ¬ N a ∧ H a = some o ∧ c.ev k a dd o ∧ DictAt c H N k dd xs ∧ RepL H N as xs
def RepL (H : Hp) (N : Addr → Prop) : List D → List V → Prop
  | [], xs => xs = []
  | d :: ds, xs => ∃ v vs, xs = v :: vs ∧ Rep H N d v ∧ RepL H N ds vs
end
/-- weakly: the list itself may be protected -/
def RepW (H : Hp) (N0 N : Addr → Prop) (d : D) (v : V) : Prop := match d with
  | .lst ds => ∃ a xs, v = .ref a ∧ ¬ N0 a ∧ H a = some (.lst xs) ∧ RepL c H N ds xs
  | d => Rep c H N d v
/-- a list of one's own at a -/
def OwnAt (H : Hp) (N : Addr → Prop) (a : Addr) (d : D) : Prop := match d with
  | .lst ds => ∃ xs, H a = some (.lst xs) ∧ RepL c H N ds xs
  | _ => False
/-- fresh since H -/
def RepF (H H' : Hp) (N : Addr → Prop) (d : D) (v : V) : Prop := match d with
  | .lst ds => ∃ a xs, v = .ref a ∧ H a = none ∧ H' a = some (.lst xs) ∧ RepL c H' (fun b => N b ∨ b = a) ds xs
  | d => Rep c H' N d v
def IsOwn (σ : St) (s : Env) (a : Addr) : Prop := ∃ (i : Nat) (d : D), s[i]? = some (.ow d) ∧ σ[i]? = some (some (.ref a))
def Nof (N0 : Addr → Prop) (σ : St) (s : Env) (a : Addr) : Prop := N0 a ∨ IsOwn σ s a
structure Rel (H : Hp) (N0 : Addr → Prop) (σ : St) (s : Env) : Prop where
  len : s.length = σ.length
  vl : ∀ (i : Nat) d, s[i]? = some (.vl d) → ∃ v, σ[i]? = some (some v) ∧ Rep c H (Nof N0 σ s) d v
  ow : ∀ (i : Nat) d, s[i]? = some (.ow d) → ∃ a, σ[i]? = some (some (.ref a)) ∧ OwnAt c H (Nof N0 σ s) a d ∧ ¬ N0 a
  dis : ∀ (i j : Nat) d e a, s[i]? = some (.ow d) → s[j]? = some (.ow e) → σ[i]? = some (some (.ref a)) → σ[j]? = some (some (.ref a)) → i = j
  dom : ∀ a, N0 a → H a ≠ none
  bet : ∀ b, c.β = some b → N0 b
def BoxAt (H : Hp) : Bx → Prop
  | none => True
  | some (i, j, k) => ∃ a, c.β = some a ∧ H a = some (.lst [.int i, .int j, .int k])
/-- all but the box is kept -/
structure Keep (H H' : Hp) : Prop where
  kp : ∀ a o, c.β ≠ some a → H a = some o → H' a = some o
  fr : ∀ a, H' a = none → H a = none
/-- all but what is protected is kept -/
def KeepN (N : Addr → Prop) (H H' : Hp) : Prop := ∀ a o, ¬ N a → H a = some o → H' a = some o
end
section
variable {c : Cc} {H H1 H2 H' : Hp} {N N' N0 : Addr → Prop} {σ : St} {s : Env} {d : D} {v : V}
theorem Keep.refl : Keep c H H := ⟨fun _ _ _ h => h, fun _ h => h⟩
theorem Keep.trans (a : Keep c H H1) (b : Keep c H1 H2) : Keep c H H2 := ⟨fun x o n h => b.kp x o n (a.kp x o n h), fun x h => a.fr x (b.fr x h)⟩
theorem Keep.toN (k : Keep c H H') (hb : ∀ b, c.β = some b → N b) : KeepN N H H' := fun a o n h => k.kp a o (fun e => n (hb a e)) h
theorem Keep.laid {p : Addr} {o : HO} (hp : H p = none) : Keep c H (upd H p o) := ⟨fun a u _ h => by rw [upd_ne (ne_of_none h hp)]; exact h, fun a h => by
  by_cases e : a = p
  · rw [e]; exact hp
  · rwa [upd_ne e] at h⟩
mutual
theorem Rep.keepN (k : KeepN N H H') : ∀ (d : D) (v : V), Rep c H N d v → Rep c H' N d v
  | .non, _, r => r
  | .bl _, _, r => r
  | .int _, _, r => r
  | .str _, _, r => r
  | .tup ds, _, r => let ⟨a, xs, e, n, h, q⟩ := r; ⟨a, xs, e, n, k a _ n h, RepL.keepN k ds xs q⟩
  | .lst ds, _, r => let ⟨a, xs, e, n, h, q⟩ := r; ⟨a, xs, e, n, k a _ n h, RepL.keepN k ds xs q⟩
  | .dic _, _, r => r
  | .box, _, r => r
  | .scr, _, r => let ⟨a, e, q⟩ := r; ⟨a, e, q.imp (fun z => ⟨z.1, rd_keep (fun o h => k a o z.1 h) z.2⟩) id⟩
  | .exc _ as, _, r => let ⟨a, o, dd, xs, e, n, h, q, w, z⟩ := r; ⟨a, o, dd, xs, e, n, k a _ n h, q, w.keepN k, RepL.keepN k as xs z⟩
theorem RepL.keepN (k : KeepN N H H') : ∀ (ds : List D) (xs : List V), RepL c H N ds xs → RepL c H' N ds xs
  | [], _, r => r
  | d :: ds, _, r => let ⟨v, vs, e, h, q⟩ := r; ⟨v, vs, e, Rep.keepN k d v h, RepL.keepN k ds vs q⟩
end
mutual
/-- protected otherwise: what is protected now was so, or is not tracked -/
theorem Rep.anti (k : ∀ a, N' a → N a ∨ H a = none) : ∀ (d : D) (v : V), Rep c H N d v → Rep c H N' d v
  | .non, _, r => r
  | .bl _, _, r => r
  | .int _, _, r => r
  | .str _, _, r => r
  | .tup ds, _, r => let ⟨a, xs, e, n, h, q⟩ := r; ⟨a, xs, e, fun z => (k a z).elim n (fun y => by rw [y] at h; cases h), h, RepL.anti k ds xs q⟩
  | .lst ds, _, r => let ⟨a, xs, e, n, h, q⟩ := r; ⟨a, xs, e, fun z => (k a z).elim n (fun y => by rw [y] at h; cases h), h, RepL.anti k ds xs q⟩
  | .dic _, _, r => r
  | .box, _, r => r
  | .scr, _, r => let ⟨a, e, q⟩ := r; ⟨a, e, q.imp (fun w => ⟨fun z => (k a z).elim w.1 (fun y => rd_ne w.2 y), w.2⟩) id⟩
  | .exc _ as, _, r => let ⟨a, o, dd, xs, e, n, h, q, w, z⟩ := r; ⟨a, o, dd, xs, e, fun z => (k a z).elim n (fun y => by rw [y] at h; cases h), h, q, w.anti k, RepL.anti k as xs z⟩
theorem RepL.anti (k : ∀ a, N' a → N a ∨ H a = none) : ∀ (ds : List D) (xs : List V), RepL c H N ds xs → RepL c H N' ds xs
  | [], _, r => r
  | d :: ds, _, r => let ⟨v, vs, e, h, q⟩ := r; ⟨v, vs, e, Rep.anti k d v h, RepL.anti k ds vs q⟩
end
theorem Rep.keep (k : Keep c H H') (hb : ∀ b, c.β = some b → N b) (r : Rep c H N d v) : Rep c H' N d v := Rep.keepN (k.toN hb) d v r
theorem RepL.keep (k : Keep c H H') (hb : ∀ b, c.β = some b → N b) {ds : List D} {vs : List V} (r : RepL c H N ds vs) : RepL c H' N ds vs := RepL.keepN (k.toN hb) ds vs r
theorem RepL.length : ∀ {ds : List D} {vs : List V}, RepL c H N ds vs → ds.length = vs.length
  | [], _, r => by cases r; rfl
  | d :: ds, _, r => by
    obtain ⟨v, vs, rfl, _, q⟩ := r
    simp [RepL.length q]
theorem RepL.get : ∀ {ds : List D} {vs : List V} {i : Nat} {d : D}, RepL c H N ds vs → ds[i]? = some d → ∃ v, vs[i]? = some v ∧ Rep c H N d v
  | [], _, _, _, _, e => by simp at e
  | d :: ds, _, 0, _, r, e => by
    obtain ⟨v, vs, rfl, h, q⟩ := r
    simp at e; subst e
    exact ⟨v, rfl, h⟩
  | d :: ds, _, i + 1, _, r, e => by
    obtain ⟨v, vs, rfl, h, q⟩ := r
    obtain ⟨w, h1, h2⟩ := RepL.get (i := i) q (by simpa using e)
    exact ⟨w, by simpa using h1, h2⟩
theorem RepL.append : ∀ {ds es : List D} {vs ws : List V}, RepL c H N ds vs → RepL c H N es ws → RepL c H N (ds ++ es) (vs ++ ws)
  | [], _, _, _, r, q => by cases r; exact q
  | d :: ds, _, _, _, r, q => by
    obtain ⟨v, vs, rfl, h, r⟩ := r
    exact ⟨v, _, rfl, h, RepL.append r q⟩
theorem RepL.take : ∀ {ds : List D} {vs : List V} (n : Nat), RepL c H N ds vs → RepL c H N (ds.take n) (vs.take n)
  | [], _, n, r => by cases r; simp [RepL]
  | d :: ds, _, 0, r => by simp [RepL]
  | d :: ds, _, n + 1, r => by
    obtain ⟨v, vs, rfl, h, r⟩ := r
    exact ⟨v, _, rfl, h, RepL.take n r⟩
theorem RepL.drop : ∀ {ds : List D} {vs : List V} (n : Nat), RepL c H N ds vs → RepL c H N (ds.drop n) (vs.drop n)
  | [], _, n, r => by cases r; simp [RepL]
  | d :: ds, _, 0, r => r
  | d :: ds, _, n + 1, r => by
    obtain ⟨v, vs, rfl, h, r⟩ := r
    exact RepL.drop n r
theorem RepL.set : ∀ {ds : List D} {vs : List V} {d : D} {v : V} (n : Nat), RepL c H N ds vs → Rep c H N d v → RepL c H N (ds.set n d) (vs.set n v)
  | [], _, _, _, n, r, q => by cases r; simp [RepL]
  | d :: ds, _, _, _, 0, r, q => by
    obtain ⟨v, vs, rfl, h, r⟩ := r
    exact ⟨_, _, rfl, q, r⟩
  | d :: ds, _, _, _, n + 1, r, q => by
    obtain ⟨v, vs, rfl, h, r⟩ := r
    exact ⟨_, _, rfl, h, RepL.set n r q⟩
theorem RepL.one (r : Rep c H N d v) : RepL c H N [d] [v] := ⟨v, [], rfl, r, rfl⟩
theorem RepL.reverse {ds : List D} {vs : List V} (r : RepL c H N ds vs) : RepL c H N ds.reverse vs.reverse := by
  induction ds generalizing vs with
  | nil => cases r; simp [RepL]
  | cons d ds ih =>
    obtain ⟨v, vs, rfl, h, q⟩ := r
    rw [List.reverse_cons, List.reverse_cons]
    exact (ih q).append (.one h)
theorem RepL.rep {ds : List D} {vs : List V} (r : RepL c H N ds vs) : ∀ k : Nat, RepL c H N (List.replicate k ds).flatten (List.replicate k vs).flatten
  | 0 => by simp [RepL]
  | k + 1 => by
    rw [List.replicate_succ, List.replicate_succ, List.flatten_cons, List.flatten_cons]
    exact r.append (RepL.rep r k)
theorem RepL.cutV {ds : List D} {vs : List V} (r : RepL c H N ds vs) (lo hi : Option Int) : RepL c H N (cut ds lo hi) (L2.cutV vs lo hi) := by
  have e := r.length
  unfold cut L2.cutV
  rw [e]
  exact (r.drop _).take _
theorem RepL.ofInts (is : List Int) : RepL c H N (is.map .int) (is.map V.int) := by
  induction is with
  | nil => rfl
  | cons i is ih => exact ⟨_, _, rfl, rfl, ih⟩
theorem Rel.keep (r : Rel c H N0 σ s) (k : Keep c H H') : Rel c H' N0 σ s where
  len := r.len
  vl := fun i d e => let ⟨v, h, q⟩ := r.vl i d e; ⟨v, h, q.keep k fun b z => .inl (r.bet b z)⟩
  ow := fun i d e => by
    obtain ⟨a, h, q, n⟩ := r.ow i d e
    refine ⟨a, h, ?_, n⟩
    cases d with
    | lst ds =>
      obtain ⟨xs, h1, h2⟩ := q
      exact ⟨xs, k.kp a _ (fun z => n (r.bet a z)) h1, h2.keep k fun b z => .inl (r.bet b z)⟩
    | _ => exact q.elim
  dis := r.dis
  dom := fun a h e => r.dom a h (k.fr a e)
  bet := r.bet
end
section
variable (c : Cc)
def Out {α γ : Type} (Rp : Hp → α → γ → Prop) (σ : L2.St) (H : Hp) (W : WX) (Q : γ → Hp → Prop) : Res α → Prop
  | .ok x b => ∀ v H', Keep c H H' → BoxAt c H' b → Rp H' x v → Q v H'
  | .ex k as b => ∀ cls dd H', Keep c H H' → BoxAt c H' b → c.exAt k as cls dd H' → W cls dd σ H'
  | .no => False
/-- a reading: of a computation m over slots -/
def rd {α γ : Type} (Rp : Hp → Hp → (Addr → Prop) → (Addr → Prop) → α → γ → Prop) (W : WX) (m : Env → M α) : L2.St → Hp → (γ → Hp → Prop) → Prop := fun σ H Q =>
  ∃ N0 s b, Rel c H N0 σ s ∧ BoxAt c H b ∧ Out c (fun H' => Rp H H' N0 (Nof N0 σ s)) σ H W Q (m s b)
/-- what results may be -/
abbrev pE : Hp → Hp → (Addr → Prop) → (Addr → Prop) → D → V → Prop := fun _ H' _ N d v => Rep c H' N d v
abbrev pW : Hp → Hp → (Addr → Prop) → (Addr → Prop) → D → V → Prop := fun _ H' N0 N d v => RepW c H' N0 N d v
abbrev pF : Hp → Hp → (Addr → Prop) → (Addr → Prop) → D → V → Prop := fun H H' _ N d v => RepF c H H' N d v
abbrev pL : Hp → Hp → (Addr → Prop) → (Addr → Prop) → List D → List V → Prop := fun _ H' _ N d v => RepL c H' N d v
abbrev pX {α : Type} : Hp → Hp → (Addr → Prop) → (Addr → Prop) → α → α → Prop := fun _ _ _ _ a b => a = b
end
section
variable {c : Cc} {σ : L2.St} {H H1 H' : Hp} {W : WX} {α β γ δ : Type}
theorem BoxAt.keep {b : Bx} (B : BoxAt c H b) : BoxAt c H b := B
theorem Out.mono {Rp : Hp → α → γ → Prop} {Q Q' : γ → Hp → Prop} {r : Res α} (h : Out c Rp σ H W Q r) (hq : ∀ v H', Q v H' → Q' v H') : Out c Rp σ H W Q' r := by
  cases r with
  | ok x b => exact fun v H' k B r => hq v H' (h v H' k B r)
  | ex k as b => exact h
  | no => exact h
/-- weaker results are asked -/
theorem Out.rp {Rp Rp' : Hp → α → γ → Prop} {Q : γ → Hp → Prop} {r : Res α} (h : Out c Rp σ H W Q r) (hr : ∀ H' x v, Keep c H H' → Rp' H' x v → Rp H' x v) : Out c Rp' σ H W Q r := by
  cases r with
  | ok x b => exact fun v H' k B r => h v H' k B (hr H' x v k r)
  | ex k as b => exact h
  | no => exact h
theorem Out.later {Rp : Hp → α → γ → Prop} {Q : γ → Hp → Prop} {r : Res α} (h : Out c Rp σ H W Q r) (k : Keep c H H1) : Out c Rp σ H1 W Q r := by
  cases r with
  | ok x b => exact fun v H' k1 B r => h v H' (k.trans k1) B r
  | ex _ as b => exact fun cls dd H' k1 B e => h cls dd H' (k.trans k1) B e
  | no => exact h
theorem Out.bd {Rp : Hp → α → γ → Prop} {Rp' : Hp → β → δ → Prop} {Q : δ → Hp → Prop} {m : M α} {f : α → M β} {b : Bx} (h : Out c Rp' σ H W Q ((m.bd f) b)) :
    Out c Rp σ H W (fun v H1 => ∃ x b1, Keep c H H1 ∧ BoxAt c H1 b1 ∧ Rp H1 x v ∧ Out c Rp' σ H1 W Q (f x b1)) (m b) := by
  unfold M.bd at h
  cases e : m b with
  | ok x b1 =>
    rw [e] at h
    exact fun v H1 k B r => ⟨x, b1, k, B, r, Out.later h k⟩
  | ex k as b1 =>
    rw [e] at h
    exact h
  | no =>
    rw [e] at h
    exact h
theorem Out.ofO {Rp : Hp → α → γ → Prop} {Q : γ → Hp → Prop} {o : Option α} {b : Bx} (h : Out c Rp σ H W Q (M.ofO o b)) : ∃ x, o = some x ∧ ∀ v H', Keep c H H' → BoxAt c H' b → Rp H' x v → Q v H' := by
  cases o with
  | some x => exact ⟨x, rfl, h⟩
  | none => exact h.elim
theorem Out.ofObd {Rp : Hp → β → γ → Prop} {Q : γ → Hp → Prop} {o : Option α} {f : α → M β} {b : Bx} (h : Out c Rp σ H W Q ((M.bd (M.ofO o) f) b)) : ∃ x, o = some x ∧ Out c Rp σ H W Q (f x b) := by
  cases o with
  | some x => exact ⟨x, rfl, h⟩
  | none => exact h.elim
theorem Out.ret {Rp : Hp → α → γ → Prop} {Q : γ → Hp → Prop} {x : α} {b : Bx} (h : Out c Rp σ H W Q (M.ret x b)) : ∀ v H', Keep c H H' → BoxAt c H' b → Rp H' x v → Q v H' := h
/-- a step: first m, then f -/
theorem rd_step {Rp : Hp → Hp → (Addr → Prop) → (Addr → Prop) → α → γ → Prop} {Rp' : Hp → α → γ → Prop} {N0 : Addr → Prop} {s : Env} {b : Bx} {m : Env → M α} {Q : γ → Hp → Prop}
    (R : Rel c H N0 σ s) (B : BoxAt c H b) (h : Out c (fun H' => Rp H H' N0 (Nof N0 σ s)) σ H W Q (m s b)) : rd c Rp W m σ H Q := ⟨N0, s, b, R, B, h⟩
theorem Rel.domN {N0 : Addr → Prop} {s : Env} (R : Rel c H N0 σ s) {a : Addr} (h : Nof N0 σ s a) : H a ≠ none := by
  rcases h with h | ⟨i, d, e1, e2⟩
  · exact R.dom a h
  · obtain ⟨a', e3, o, _⟩ := R.ow i d e1
    rw [e2] at e3; cases e3
    cases d with
    | lst ds => obtain ⟨xs, h, _⟩ := o; rw [h]; exact fun q => nomatch q
    | _ => exact o.elim
theorem Rel.betN {N0 : Addr → Prop} {s : Env} (R : Rel c H N0 σ s) (a : Addr) (h : c.β = some a) : Nof N0 σ s a := .inl (R.bet a h)
theorem RepF.rep {N : Addr → Prop} {d : D} {v : V} (r : RepF c H H' N d v) (hd : ∀ a, N a → H a ≠ none) : Rep c H' N d v := by
  cases d with
  | lst ds =>
    obtain ⟨a, xs, e, n, h, q⟩ := r
    exact ⟨a, xs, e, fun z => hd a z n, h, RepL.anti (fun b z => .inl (.inl z)) ds xs q⟩
  | _ => exact r
theorem Rep.w {N0 N : Addr → Prop} {d : D} {v : V} (r : Rep c H' N d v) (hb : ∀ a, N0 a → N a) : RepW c H' N0 N d v := by
  cases d with
  | lst ds =>
    obtain ⟨a, xs, e, n, h, q⟩ := r
    exact ⟨a, xs, e, fun z => n (hb a z), h, q⟩
  | _ => exact r
theorem RepW.keep {N0 N : Addr → Prop} {d : D} {v : V} (r : RepW c H N0 N d v) (k : Keep c H H') (hb : ∀ b, c.β = some b → N0 b) (hn : ∀ a, N0 a → N a) : RepW c H' N0 N d v := by
  cases d with
  | lst ds =>
    obtain ⟨a, xs, e, n, h, q⟩ := r
    exact ⟨a, xs, e, n, k.kp a _ (fun z => n (hb a z)) h, q.keep k fun b z => hn b (hb b z)⟩
  | _ => exact Rep.keep (N := N) k (fun b z => hn b (hb b z)) r
theorem rd_EF {m : Env → M D} {Q : VK} (h : rd c (pE c) W m σ H Q) : rd c (pF c) W m σ H Q := by
  obtain ⟨N0, s, b, R, B, h⟩ := h
  exact ⟨N0, s, b, R, B, h.rp fun H' x v k r => RepF.rep r fun a z => R.domN z⟩
theorem rd_WE {m : Env → M D} {Q : VK} (h : rd c (pW c) W m σ H Q) : rd c (pE c) W m σ H Q := by
  obtain ⟨N0, s, b, R, B, h⟩ := h
  exact ⟨N0, s, b, R, B, h.rp fun H' x v k r => r.w fun b z => .inl z⟩
theorem rd_WF {m : Env → M D} {Q : VK} (h : rd c (pW c) W m σ H Q) : rd c (pF c) W m σ H Q := rd_EF (rd_WE h)
end
theorem PE.imp {X : Cx} {e : Expr} {t t' : TE} (h : PE X e t) (i : ∀ σ H Q, t' σ H Q → t σ H Q) : PE X e t' := ⟨fun pins s σ H Q I q => h.run pins s σ H Q I (i σ H Q q)⟩
theorem PT.imp {X : Cx} {e : Expr} {t t' : TT} (h : PT X e t) (i : ∀ σ H Q, t' σ H Q → t σ H Q) : PT X e t' := ⟨fun pins s σ H Q I q => h.run pins s σ H Q I (i σ H Q q)⟩
theorem PA.imp {X : Cx} {e : List Expr} {t t' : TA} (h : PA X e t) (i : ∀ σ H Q, t' σ H Q → t σ H Q) : PA X e t' := ⟨fun pos pins s σ H Q I q => h.run pos pins s σ H Q I (i σ H Q q)⟩
theorem PO.imp {X : Cx} {e : Option Expr} {t t' : TO} (h : PO X e t) (i : ∀ σ H Q, t' σ H Q → t σ H Q) : PO X e t' := ⟨fun pins s σ H Q I q => h.run pins s σ H Q I (i σ H Q q)⟩
theorem PI.imp {X : Cx} {g e : Expr} {t t' : TI} (h : PI X g e t) (i : ∀ σ H Q, t' σ H Q → t σ H Q) : PI X g e t' := ⟨fun pins s σ H Q I q => h.run pins s σ H Q I (i σ H Q q)⟩
theorem PS.imp {X : Cx} {e : Stmt} {t t' : TS} (h : PS X e t) (i : ∀ D σ H, t' D σ H → t D σ H) : PS X e t' := ⟨fun pins s σ H D I q => h.run pins s σ H D I (i D σ H q)⟩
theorem PSs.imp {X : Cx} {e : List Stmt} {t t' : TS} (h : PSs X e t) (i : ∀ D σ H, t' D σ H → t D σ H) : PSs X e t' := ⟨fun pins s σ H D I q => h.run pins s σ H D I (i D σ H q)⟩
end Mi
namespace Mi
open PySem L2
mutual
theorem eqv_toPy : ∀ (a b : D), D.py a = true → D.py b = true → PyData.eqv (toPy a) (toPy b) = D.eqv a b := by
  intro a b ha hb
  cases a <;> cases b <;> first
    | (simp [toPy, PyData.eqv, D.eqv]; done)
    | (simp [D.py] at ha; done)
    | (simp [D.py] at hb; done)
    | skip
  · simp only [toPy, PyData.eqv, D.eqv]
    rename_i x y
    by_cases e : x = y
    · subst e; simp
    · simp [e]
  · simp only [toPy, PyData.eqv, D.eqv]
    exact eqvL_toPy _ _ (by simpa [D.py] using ha) (by simpa [D.py] using hb)
  · simp only [toPy, PyData.eqv, D.eqv]
    exact eqvL_toPy _ _ (by simpa [D.py] using ha) (by simpa [D.py] using hb)
theorem eqvL_toPy : ∀ (a b : List D), D.pyL a = true → D.pyL b = true → PyData.eqvAll (toPyL a) (toPyL b) = D.eqvL a b
  | [], [], _, _ => rfl
  | [], _ :: _, _, _ => rfl
  | _ :: _, [], _, _ => rfl
  | x :: xs, y :: ys, ha, hb => by
    simp only [D.pyL, Bool.and_eq_true] at ha hb
    simp only [toPyL, PyData.eqvAll, D.eqvL, eqv_toPy x y ha.1 hb.1, eqvL_toPy xs ys ha.2 hb.2]
end
mutual
theorem dep_toPy : ∀ (a : D), D.py a = true → (toPy a).depth = D.dep a := by
  intro a ha
  cases a <;> first
    | (simp [toPy, PyData.depth, D.dep]; done)
    | (simp [D.py] at ha; done)
    | skip
  · simp only [toPy, PyData.depth, D.dep]
    rw [depL_toPy _ (by simpa [D.py] using ha)]
  · simp only [toPy, PyData.depth, D.dep]
    rw [depL_toPy _ (by simpa [D.py] using ha)]
theorem depL_toPy : ∀ (a : List D), D.pyL a = true → PyData.depthAll (toPyL a) = D.depL a
  | [], _ => rfl
  | x :: xs, ha => by
    simp only [D.pyL, Bool.and_eq_true] at ha
    simp only [toPyL, PyData.depthAll, D.depL, dep_toPy x ha.1, depL_toPy xs ha.2]
end
section
variable {c : Cc} {H H1 H' : Hp} {N0 N : Addr → Prop} {σ : L2.St}
theorem strOk_of {x : Str} (h : strFits x = true) : PyData.strOk x = true := by
  unfold strFits at h
  rw [Bool.and_eq_true] at h
  exact h.2
theorem strLen_of {x : Str} (h : strFits x = true) : x.cps.size ≤ strMax := by
  unfold strFits at h
  rw [Bool.and_eq_true] at h
  exact of_decide_eq_true h.1
mutual
theorem Rep.dp : ∀ (d : D) (v : V), D.py d = true → Rep c H N d v → Dp c.K H v (toPy d) ∧ (toPy d).canLay0 = true := by
  intro d v p r
  cases d <;> first
    | (simp [D.py] at p; done)
    | skip
  · cases r; exact ⟨.non, rfl⟩
  · cases r; exact ⟨.bl _, rfl⟩
  · cases r; exact ⟨.int _, rfl⟩
  · obtain ⟨rfl, h⟩ := r; exact ⟨.str _, strOk_of h⟩
  · obtain ⟨a, xs, rfl, _, h, q⟩ := r
    have z := RepL.dp _ _ (by simpa [D.py] using p) q
    exact ⟨.tup (.of h) z.1, by simpa [toPy, PyData.canLay0] using z.2⟩
  · obtain ⟨a, xs, rfl, _, h, q⟩ := r
    have z := RepL.dp _ _ (by simpa [D.py] using p) q
    exact ⟨.lst (.of h) z.1, by simpa [toPy, PyData.canLay0] using z.2⟩
theorem RepL.dp : ∀ (ds : List D) (vs : List V), D.pyL ds = true → RepL c H N ds vs → DpAll c.K H vs (toPyL ds) ∧ PyData.canLayAll0 (toPyL ds) = true
  | [], _, _, r => by cases r; exact ⟨.nil, rfl⟩
  | d :: ds, _, p, r => by
    obtain ⟨v, vs, rfl, h, q⟩ := r
    simp only [D.pyL, Bool.and_eq_true] at p
    have z1 := Rep.dp d v p.1 h
    have z2 := RepL.dp ds vs p.2 q
    exact ⟨.cons z1.1 z2.1, by simp only [toPyL, PyData.canLayAll0, z1.2, z2.2, Bool.and_self]⟩
end
theorem RepW.dp {d : D} {v : V} (p : D.py d = true) (r : RepW c H N0 N d v) : Dp c.K H v (toPy d) ∧ (toPy d).canLay0 = true := by
  cases d with
  | lst ds =>
    obtain ⟨a, xs, rfl, _, h, q⟩ := r
    have z := RepL.dp _ _ (by simpa [D.py] using p) q
    exact ⟨.lst (.of h) z.1, by simpa [toPy, PyData.canLay0] using z.2⟩
  | _ => exact Rep.dp (N := N) _ v p r
end
section
variable {X : Cx}
def rEqM (K : PySem.W.Frag) (neg : Bool) : R2 := fun x y H Q => ∃ d e, Dp K H x d ∧ Dp K H y e ∧ d.canLay0 = true ∧ e.canLay0 = true ∧ min d.depth e.depth ≤ 60 ∧ Q (.bl (xor neg (PyData.eqv d e))) H
theorem op_eqM (hu : X.A.units + 64 < cLine) : OpR X (compareOp .Eq) (rEqM X.K false) := by
  intro pins s σ H x y v u Q I rx ry h
  obtain ⟨d, e, hd, he, sd, se, hm, q⟩ := h
  obtain ⟨as, r1⟩ := Dp.reads I d x v hd rx
  obtain ⟨bs, r2⟩ := Dp.reads I e y u he ry
  exact SeqAt.compareEq_reads r1 r2 sd se (by omega) ⟨.bl _, H, I, rfl, by simpa using q⟩
theorem op_neM (hu : X.A.units + 64 < cLine) : OpR X (compareOp .NotEq) (rEqM X.K true) := by
  intro pins s σ H x y v u Q I rx ry h
  obtain ⟨d, e, hd, he, sd, se, hm, q⟩ := h
  obtain ⟨as, r1⟩ := Dp.reads I d x v hd rx
  obtain ⟨bs, r2⟩ := Dp.reads I e y u he ry
  exact SeqAt.compareNe_reads r1 r2 sd se (by omega) ⟨.bl _, H, I, rfl, by simpa using q⟩
def rInM (K : PySem.W.Frag) (neg : Bool) : R2 := fun x y H Q => ∃ d ds, Dp K H x d ∧ (Dp K H y (.list ds) ∨ Dp K H y (.tuple ds)) ∧ d.canLay0 = true ∧ PyData.canLayAll0 ds = true ∧ d.depth ≤ 60 ∧ Q (.bl (xor neg (ds.any fun z => PyData.eqv z d))) H
theorem op_inM (hu : X.A.units + 64 < cLine) : OpR X (compareOp .In) (rInM X.K false) := by
  intro pins s σ H x y v u Q I rx ry h
  obtain ⟨d, ds, hd, he, sd, se, hm, q⟩ := h
  obtain ⟨as, r1⟩ := Dp.reads I d x v hd rx
  have hr : X.A.units + 1 + min (PyData.depthAll ds) d.depth < cLine := by
    have := Nat.min_le_right (PyData.depthAll ds) d.depth
    omega
  rcases he with he | he
  · obtain ⟨bs, r2⟩ := Dp.reads I (.list ds) y u he ry
    exact SeqAt.in_list_reads r2 r1 se sd hr ⟨.bl _, H, I, rfl, by simpa using q⟩
  · obtain ⟨bs, r2⟩ := Dp.reads I (.tuple ds) y u he ry
    exact SeqAt.in_tuple_reads r2 r1 se sd hr ⟨.bl _, H, I, rfl, by simpa using q⟩
theorem op_ninM (hu : X.A.units + 64 < cLine) : OpR X (compareOp .NotIn) (rInM X.K true) := by
  intro pins s σ H x y v u Q I rx ry h
  obtain ⟨d, ds, hd, he, sd, se, hm, q⟩ := h
  obtain ⟨as, r1⟩ := Dp.reads I d x v hd rx
  have hr : X.A.units + 1 + min (PyData.depthAll ds) d.depth < cLine := by
    have := Nat.min_le_right (PyData.depthAll ds) d.depth
    omega
  rcases he with he | he
  · obtain ⟨bs, r2⟩ := Dp.reads I (.list ds) y u he ry
    exact SeqAt.notIn_list_reads r2 r1 se sd hr ⟨.bl _, H, I, rfl, by simpa using q⟩
  · obtain ⟨bs, r2⟩ := Dp.reads I (.tuple ds) y u he ry
    exact SeqAt.notIn_tuple_reads r2 r1 se sd hr ⟨.bl _, H, I, rfl, by simpa using q⟩
end
/-- the tree of an operator -/
def opTree : Op → Value → Value → Sem Value
  | .add => binaryOp .Add
  | .sub => binaryOp .Sub
  | .mul => binaryOp .Mult
  | .fdiv => binaryOp .FloorDiv
  | .mod => binaryOp .Mod
  | .pow => binaryOp .Pow
  | .eq => compareOp .Eq
  | .ne => compareOp .NotEq
  | .lt => compareOp .Lt
  | .le => compareOp .LtE
  | .gt => compareOp .Gt
  | .ge => compareOp .GtE
  | .inn => compareOp .In
  | .nin => compareOp .NotIn
theorem line_ok {n : Nat} (h : n ≤ lineMax) : n ≤ sizeLine := by
  have := sizeLine_eq
  unfold lineMax at h
  omega
theorem dec_small {i : Int} (h : small64 i = true) : -(2 ^ 64) < i ∧ i < 2 ^ 64 := by
  unfold small64 at h
  rw [Bool.and_eq_true] at h
  exact ⟨of_decide_eq_true h.1, of_decide_eq_true h.2⟩
section
variable {X : Cx} {c : Cc}
theorem same_laid {H : Hp} {p : Addr} {o : HO} (hp : H p = none) : ∀ a u, H a = some u → upd H p o a = some u := fun a u h => by rw [upd_ne (ne_of_none h hp)]; exact h
/-- a new list -/
theorem newLst {H : Hp} {N : Addr → Prop} {ds : List D} {xs : List V} {p : Addr} (hp : H p = none) (r : RepL c H N ds xs) (hb : ∀ b, c.β = some b → N b) :
    RepF c H (upd H p (.lst xs)) N (.lst ds) (.ref p) := by
  refine ⟨p, xs, rfl, hp, upd_same, ?_⟩
  have k : Keep c H (upd H p (.lst xs)) := .laid hp
  exact (RepL.anti (fun a z => z.elim .inl fun e => .inr (by rw [e]; exact hp)) ds xs r).keep k fun b z => .inl (hb b z)
/-- a new tuple -/
theorem newTup {H : Hp} {N : Addr → Prop} {ds : List D} {xs : List V} {p : Addr} (hp : H p = none) (r : RepL c H N ds xs) (hb : ∀ b, c.β = some b → N b) (hd : ∀ a, N a → H a ≠ none) :
    Rep c (upd H p (.tup xs)) N (.tup ds) (.ref p) := by
  have k : Keep c H (upd H p (.tup xs)) := .laid hp
  exact ⟨p, xs, rfl, fun z => hd p z hp, upd_same, r.keep k hb⟩
end
end Mi
namespace Mi
open PySem L2
theorem inv_add {a b z : D} (e : evOp .add a b = some z) : (∃ i j, a = .int i ∧ b = .int j ∧ z = .int (i + j)) ∨ (∃ x y, a = .str x ∧ b = .str y ∧ x.cps.size + y.cps.size ≤ strMax ∧ z = .str (x ++ y)) ∨
    (∃ x y, a = .lst x ∧ b = .lst y ∧ x.length + y.length ≤ lineMax ∧ z = .lst (x ++ y)) ∨ (∃ x y, a = .tup x ∧ b = .tup y ∧ x.length + y.length ≤ lineMax ∧ z = .tup (x ++ y)) := by
  cases a <;> cases b <;> simp only [evOp, evAdd] at e <;> first | (cases e; done) | skip
  · cases e; exact .inl ⟨_, _, rfl, rfl, rfl⟩
  · split at e
    · cases e; exact .inr (.inl ⟨_, _, rfl, rfl, by assumption, rfl⟩)
    · cases e
  · split at e
    · cases e; exact .inr (.inr (.inr ⟨_, _, rfl, rfl, by assumption, rfl⟩))
    · cases e
  · split at e
    · cases e; exact .inr (.inr (.inl ⟨_, _, rfl, rfl, by assumption, rfl⟩))
    · cases e
theorem inv_int {f : Int → Int → Option Int} {a b z : D} (e : evInt f a b = some z) : ∃ i j k, a = .int i ∧ b = .int j ∧ f i j = some k ∧ z = .int k := by
  cases a <;> cases b <;> simp only [evInt] at e <;> first | (cases e; done) | skip
  obtain ⟨k, h1, h2⟩ := Option.map_eq_some_iff.mp e
  exact ⟨_, _, k, rfl, rfl, h1, h2.symm⟩
theorem inv_sub {a b z : D} (e : evOp .sub a b = some z) : ∃ i j, a = .int i ∧ b = .int j ∧ z = .int (i - j) := by
  obtain ⟨i, j, k, rfl, rfl, h, rfl⟩ := inv_int (show evInt _ a b = some z from e)
  cases h
  exact ⟨_, _, rfl, rfl, rfl⟩
theorem inv_mul {a b z : D} (e : evOp .mul a b = some z) : (∃ i j, a = .int i ∧ b = .int j ∧ (small64 i || small64 j) = true ∧ z = .int (i * j)) ∨
    (∃ x j, a = .lst x ∧ b = .int j ∧ 0 ≤ j ∧ j < 1000000 ∧ x.length * j.toNat ≤ lineMax ∧ z = .lst (List.replicate j.toNat x).flatten) := by
  cases a <;> cases b <;> simp only [evOp, evMul] at e <;> first | (cases e; done) | skip
  · split at e
    · cases e; exact .inl ⟨_, _, rfl, rfl, by assumption, rfl⟩
    · cases e
  · split at e
    · rename_i h
      simp only [Bool.and_eq_true, decide_eq_true_eq] at h
      cases e; exact .inr ⟨_, _, rfl, rfl, h.1.1, h.1.2, h.2, rfl⟩
    · cases e
theorem inv_if {p : Prop} [Decidable p] {α : Type} {a k : α} (h : (if p then some a else none) = some k) : p ∧ k = a := by
  split at h
  · cases h; exact ⟨by assumption, rfl⟩
  · cases h
theorem inv_fdiv {a b z : D} (e : evOp .fdiv a b = some z) : ∃ i j, a = .int i ∧ b = .int j ∧ (0 < j ∧ j < 1073741824) ∧ z = .int (i / j) := by
  obtain ⟨i, j, k, rfl, rfl, h, rfl⟩ := inv_int (show evInt _ a b = some z from e)
  obtain ⟨h1, rfl⟩ := inv_if h
  exact ⟨_, _, rfl, rfl, h1, rfl⟩
theorem inv_mod {a b z : D} (e : evOp .mod a b = some z) : ∃ i j, a = .int i ∧ b = .int j ∧ 0 < j ∧ z = .int (i % j) := by
  obtain ⟨i, j, k, rfl, rfl, h, rfl⟩ := inv_int (show evInt _ a b = some z from e)
  obtain ⟨h1, rfl⟩ := inv_if h
  exact ⟨_, _, rfl, rfl, h1, rfl⟩
theorem inv_pow {a b z : D} (e : evOp .pow a b = some z) : ∃ i j, a = .int i ∧ b = .int j ∧ (0 ≤ j ∧ j ≤ 1000 ∧ i.natAbs < 1000) ∧ z = .int (i ^ j.toNat) := by
  obtain ⟨i, j, k, rfl, rfl, h, rfl⟩ := inv_int (show evInt _ a b = some z from e)
  obtain ⟨h1, rfl⟩ := inv_if h
  exact ⟨_, _, rfl, rfl, h1, rfl⟩
theorem inv_cmpI {f : Int → Int → Bool} {g : List Nat → List Nat → Bool} {a b z : D} (e : cmpI f g a b = some z) : (∃ i j, a = .int i ∧ b = .int j ∧ z = .bl (f i j)) ∨ (∃ x y, a = .str x ∧ b = .str y ∧ z = .bl (g x.cps.toList y.cps.toList)) := by
  cases a <;> cases b <;> simp only [cmpI] at e <;> first | (cases e; done) | skip
  · cases e; exact .inl ⟨_, _, rfl, rfl, rfl⟩
  · cases e; exact .inr ⟨_, _, rfl, rfl, rfl⟩
theorem str_one {w : Str} {ch : Nat} (h : w.cps.toList = [ch]) : w = ⟨#[ch]⟩ := by
  obtain ⟨⟨l⟩⟩ := w
  have e : l = [ch] := h
  subst e
  rfl
theorem inv_in {neg : Bool} {a b z : D} (e : inSeq neg a b = some z) : (∃ ys, (b = .lst ys ∨ b = .tup ys) ∧ D.py a = true ∧ D.pyL ys = true ∧ D.dep a ≤ 60 ∧ z = .bl (xor neg (ys.any fun y => D.eqv y a))) ∨
    (∃ (ch : Nat) (y : Str), a = .str ⟨#[ch]⟩ ∧ b = .str y ∧ z = .bl (xor neg (decide (ch ∈ y.cps.toList)))) ∨ (∃ x y, a = .str x ∧ b = .str y ∧ z = .bl (xor neg (inStr x y))) := by
  unfold inSeq at e
  cases b <;> dsimp only at e <;> first | (cases e; done) | skip
  · split at e
    · split at e
      · rename_i hc
        cases e
        exact .inr (.inl ⟨_, _, congrArg D.str (str_one hc), rfl, rfl⟩)
      · cases e; exact .inr (.inr ⟨_, _, rfl, rfl, rfl⟩)
    · cases e
  · split at e
    · rename_i h
      simp only [Bool.and_eq_true, decide_eq_true_eq] at h
      cases e; exact .inl ⟨_, .inr rfl, h.1.1, h.1.2, h.2, rfl⟩
    · cases e
  · split at e
    · rename_i h
      simp only [Bool.and_eq_true, decide_eq_true_eq] at h
      cases e; exact .inl ⟨_, .inl rfl, h.1.1, h.1.2, h.2, rfl⟩
    · cases e
/-- what an operator asks of two values -/
structure OpG (c : Cc) (H : Hp) (N : Addr → Prop) (z : D) (Q : VK) : Prop where
  dom : ∀ a, N a → H a ≠ none
  bet : ∀ b, c.β = some b → N b
  fin : ∀ v H', Keep c H H' → (∀ a o, H a = some o → H' a = some o) → RepF c H H' N z v → Q v H'
def rO (c : Cc) (o : Op) : R2 := fun x y H Q => ∃ (N0 N : Addr → Prop) (dx dy z : D), RepW c H N0 N dx x ∧ RepW c H N0 N dy y ∧ evOp o dx dy = some z ∧ OpG c H N z Q
section
variable {c : Cc} {H : Hp} {N0 N : Addr → Prop} {Q : VK} {v : V}
theorem OpG.same {z : D} (g : OpG c H N z Q) (h : RepF c H H N z v) : Q v H := g.fin v H .refl (fun _ _ h => h) h
theorem OpG.lst {ds : List D} {xs : List V} {p : Addr} (g : OpG c H N (.lst ds) Q) (hp : H p = none) (r : RepL c H N ds xs) : Q (.ref p) (upd H p (.lst xs)) :=
  g.fin _ _ (.laid hp) (same_laid hp) (newLst hp r g.bet)
theorem OpG.tup {ds : List D} {xs : List V} {p : Addr} (g : OpG c H N (.tup ds) Q) (hp : H p = none) (r : RepL c H N ds xs) : Q (.ref p) (upd H p (.tup xs)) :=
  g.fin _ _ (.laid hp) (same_laid hp) (newTup hp r g.bet g.dom)
theorem RepW.int {i : Int} (r : RepW c H N0 N (.int i) v) : v = .int i := r
theorem RepW.str {x : Str} (r : RepW c H N0 N (.str x) v) : v = .str x ∧ strFits x = true := r
theorem cat_fits {x y : Str} (h : x.cps.size + y.cps.size ≤ strMax) (hx : strFits x = true) (hy : strFits y = true) : strFits (x ++ y) = true := by
  unfold strFits at *
  simp only [Bool.and_eq_true, decide_eq_true_eq, ← Array.all_toList] at *
  have e : (x ++ y).cps = x.cps ++ y.cps := rfl
  rw [e, Array.size_append, Array.toList_append, List.all_append]
  exact ⟨h, by rw [hx.2, hy.2]; rfl⟩
theorem str_line {x : Str} (h : strFits x = true) : x.length ≤ sizeLine := by
  have h1 := strLen_of h
  have h2 := sizeLine_eq
  unfold strMax at h1
  show x.cps.size ≤ sizeLine
  omega
end
section
variable {X : Cx} {c : Cc}
theorem ru_add : OpR X (binaryOp .Add) (rO c .add) := by
  intro pins s σ H x y v u Q I rx ry h
  obtain ⟨N0, N, dx, dy, z, r1, r2, e, g⟩ := h
  rcases inv_add e with ⟨i, j, rfl, rfl, rfl⟩ | ⟨i, j, rfl, rfl, hz, rfl⟩ | ⟨xs, ys, rfl, rfl, hz, rfl⟩ | ⟨xs, ys, rfl, rfl, hz, rfl⟩
  · exact op_add pins s σ H x y v u Q I rx ry ⟨i, j, r1, r2, g.same rfl⟩
  · have e1 := strLen_of r1.2
    have e2 := strLen_of r2.2
    refine op_add_str pins s σ H x y v u Q I rx ry ⟨i, j, r1.1, r2.1, ?_, g.same ⟨rfl, cat_fits hz r1.2 r2.2⟩⟩
    have h2 := sizeLine_eq
    unfold strMax at hz
    show i.cps.size + j.cps.size ≤ sizeLine
    omega
  · obtain ⟨a, vs, rfl, _, ha, qa⟩ := r1
    obtain ⟨b, ws, rfl, _, hb, qb⟩ := r2
    have l1 := qa.length
    have l2 := qb.length
    exact op_cat pins s σ H _ _ v u Q I rx ry ⟨a, b, vs, ws, rfl, rfl, ha, hb, by rw [← l1, ← l2]; exact line_ok hz, fun p hp => g.lst hp (qa.append qb)⟩
  · obtain ⟨a, vs, rfl, na, ha, qa⟩ := r1
    obtain ⟨b, ws, rfl, nb, hb, qb⟩ := r2
    have l1 := qa.length
    have l2 := qb.length
    refine op_catA pins s σ H _ _ v u Q I rx ry ⟨a, b, vs, ws, rfl, rfl, .of ha, .of hb, by rw [← l1, ← l2]; exact line_ok hz, fun e => ?_, fun _ e => ?_, fun _ _ p hp => g.tup hp (qa.append qb)⟩
    · subst e
      have : xs = [] := List.length_eq_zero_iff.mp l1
      subst this
      exact g.same ⟨b, ws, rfl, nb, hb, qb⟩
    · subst e
      have : ys = [] := List.length_eq_zero_iff.mp l2
      subst this
      exact g.same ⟨a, vs, rfl, na, ha, by rw [List.append_nil]; exact qa⟩
theorem ru_sub : OpR X (binaryOp .Sub) (rO c .sub) := by
  intro pins s σ H x y v u Q I rx ry h
  obtain ⟨N0, N, dx, dy, z, r1, r2, e, g⟩ := h
  obtain ⟨i, j, rfl, rfl, rfl⟩ := inv_sub e
  exact op_sub pins s σ H x y v u Q I rx ry ⟨i, j, r1, r2, g.same rfl⟩
theorem ru_mul : OpR X (binaryOp .Mult) (rO c .mul) := by
  intro pins s σ H x y v u Q I rx ry h
  obtain ⟨N0, N, dx, dy, z, r1, r2, e, g⟩ := h
  rcases inv_mul e with ⟨i, j, rfl, rfl, hs, rfl⟩ | ⟨xs, j, rfl, rfl, h0, h1, hz, rfl⟩
  · refine op_mul pins s σ H x y v u Q I rx ry ⟨i, j, r1, r2, ?_, g.same rfl⟩
    rw [Bool.or_eq_true] at hs
    exact hs.imp dec_small dec_small
  · obtain ⟨a, vs, rfl, _, ha, qa⟩ := r1
    obtain rfl : y = .int j := r2
    have l1 := qa.length
    exact op_rep pins s σ H _ _ v u Q I rx ry ⟨a, j, vs, rfl, rfl, ha, by omega, by omega, by rw [← l1]; exact line_ok hz, fun p hp => g.lst hp (qa.rep _)⟩
theorem ru_fdiv : OpR X (binaryOp .FloorDiv) (rO c .fdiv) := by
  intro pins s σ H x y v u Q I rx ry h
  obtain ⟨N0, N, dx, dy, z, r1, r2, e, g⟩ := h
  obtain ⟨i, j, rfl, rfl, hj, rfl⟩ := inv_fdiv e
  exact op_fdiv pins s σ H x y v u Q I rx ry ⟨i, j, r1, r2, hj, g.same rfl⟩
theorem ru_mod : OpR X (binaryOp .Mod) (rO c .mod) := by
  intro pins s σ H x y v u Q I rx ry h
  obtain ⟨N0, N, dx, dy, z, r1, r2, e, g⟩ := h
  obtain ⟨i, j, rfl, rfl, hj, rfl⟩ := inv_mod e
  exact op_mod pins s σ H x y v u Q I rx ry ⟨i, j, r1, r2, hj, g.same rfl⟩
theorem ru_pow : OpR X (binaryOp .Pow) (rO c .pow) := by
  intro pins s σ H x y v u Q I rx ry h
  obtain ⟨N0, N, dx, dy, z, r1, r2, e, g⟩ := h
  obtain ⟨i, j, rfl, rfl, hj, rfl⟩ := inv_pow e
  refine op_pow pins s σ H x y v u Q I rx ry ⟨i, j, r1, r2, ⟨hj.1, by omega, ?_⟩, g.same rfl⟩
  have : (1000 : Nat) < 2 ^ 64 := by decide
  omega
theorem ru_lt : OpR X (compareOp .Lt) (rO c .lt) := by
  intro pins s σ H x y v u Q I rx ry h
  obtain ⟨N0, N, dx, dy, z, r1, r2, e, g⟩ := h
  rcases inv_cmpI (f := fun i j => decide (i < j)) (g := fun i j => decide (i < j)) e with ⟨i, j, rfl, rfl, rfl⟩ | ⟨i, j, rfl, rfl, rfl⟩
  · exact op_lt pins s σ H x y v u Q I rx ry ⟨i, j, r1, r2, g.same rfl⟩
  · exact op_lt_str pins s σ H x y v u Q I rx ry ⟨i, j, r1.1, r2.1, g.same rfl⟩
theorem ru_le : OpR X (compareOp .LtE) (rO c .le) := by
  intro pins s σ H x y v u Q I rx ry h
  obtain ⟨N0, N, dx, dy, z, r1, r2, e, g⟩ := h
  rcases inv_cmpI (f := fun i j => decide (i ≤ j)) (g := fun i j => !decide (j < i)) e with ⟨i, j, rfl, rfl, rfl⟩ | ⟨i, j, rfl, rfl, rfl⟩
  · exact op_le pins s σ H x y v u Q I rx ry ⟨i, j, r1, r2, g.same rfl⟩
  · exact op_le_str pins s σ H x y v u Q I rx ry ⟨i, j, r1.1, r2.1, g.same rfl⟩
theorem ru_gt : OpR X (compareOp .Gt) (rO c .gt) := by
  intro pins s σ H x y v u Q I rx ry h
  obtain ⟨N0, N, dx, dy, z, r1, r2, e, g⟩ := h
  rcases inv_cmpI (f := fun i j => decide (j < i)) (g := fun i j => decide (j < i)) e with ⟨i, j, rfl, rfl, rfl⟩ | ⟨i, j, rfl, rfl, rfl⟩
  · exact op_gt pins s σ H x y v u Q I rx ry ⟨i, j, r1, r2, g.same rfl⟩
  · exact op_gt_str pins s σ H x y v u Q I rx ry ⟨i, j, r1.1, r2.1, g.same rfl⟩
theorem ru_ge : OpR X (compareOp .GtE) (rO c .ge) := by
  intro pins s σ H x y v u Q I rx ry h
  obtain ⟨N0, N, dx, dy, z, r1, r2, e, g⟩ := h
  rcases inv_cmpI (f := fun i j => decide (j ≤ i)) (g := fun i j => !decide (i < j)) e with ⟨i, j, rfl, rfl, rfl⟩ | ⟨i, j, rfl, rfl, rfl⟩
  · exact op_ge pins s σ H x y v u Q I rx ry ⟨i, j, r1, r2, g.same rfl⟩
  · exact op_ge_str pins s σ H x y v u Q I rx ry ⟨i, j, r1.1, r2.1, g.same rfl⟩
theorem cmp_dp {H : Hp} {N0 N : Addr → Prop} {a b : D} {x y : V} (h : D.cmp a b = true) (r1 : RepW c H N0 N a x) (r2 : RepW c H N0 N b y) :
    Dp c.K H x (toPy a) ∧ Dp c.K H y (toPy b) ∧ (toPy a).canLay0 = true ∧ (toPy b).canLay0 = true ∧ min (toPy a).depth (toPy b).depth ≤ 60 ∧ PyData.eqv (toPy a) (toPy b) = D.eqv a b := by
  unfold D.cmp at h
  simp only [Bool.and_eq_true, decide_eq_true_eq] at h
  obtain ⟨⟨h1, h2⟩, h3⟩ := h
  refine ⟨(r1.dp h1).1, (r2.dp h2).1, (r1.dp h1).2, (r2.dp h2).2, ?_, eqv_toPy a b h1 h2⟩
  rw [dep_toPy a h1, dep_toPy b h2]
  exact h3
theorem ru_eq (hK : X.K = c.K) (hu : X.A.units + 64 < cLine) : OpR X (compareOp .Eq) (rO c .eq) := by
  intro pins s σ H x y v u Q I rx ry h
  obtain ⟨N0, N, dx, dy, z, r1, r2, e, g⟩ := h
  have e' : (if D.cmp dx dy then some (D.bl (D.eqv dx dy)) else none) = some z := e
  split at e'
  · rename_i hc
    cases e'
    obtain ⟨k1, k2, k3, k4, k5, k6⟩ := cmp_dp hc r1 r2
    exact op_eqM hu pins s σ H x y v u Q I rx ry ⟨_, _, by rw [hK]; exact k1, by rw [hK]; exact k2, k3, k4, k5, by rw [k6]; simpa using g.same rfl⟩
  · cases e'
theorem ru_ne (hK : X.K = c.K) (hu : X.A.units + 64 < cLine) : OpR X (compareOp .NotEq) (rO c .ne) := by
  intro pins s σ H x y v u Q I rx ry h
  obtain ⟨N0, N, dx, dy, z, r1, r2, e, g⟩ := h
  have e' : (if D.cmp dx dy then some (D.bl (!D.eqv dx dy)) else none) = some z := e
  split at e'
  · rename_i hc
    cases e'
    obtain ⟨k1, k2, k3, k4, k5, k6⟩ := cmp_dp hc r1 r2
    exact op_neM hu pins s σ H x y v u Q I rx ry ⟨_, _, by rw [hK]; exact k1, by rw [hK]; exact k2, k3, k4, k5, by rw [k6]; simpa using g.same rfl⟩
  · cases e'
theorem in_any {ys : List D} {a : D} (ha : D.py a = true) : D.pyL ys = true → ((toPyL ys).any fun z => PyData.eqv z (toPy a)) = ys.any fun y => D.eqv y a := by
  induction ys with
  | nil => intro _; rfl
  | cons y ys ih =>
    intro h
    simp only [D.pyL, Bool.and_eq_true] at h
    simp only [toPyL, List.any_cons, eqv_toPy y a h.1 ha, ih h.2]
theorem seq_dp {H : Hp} {N0 N : Addr → Prop} {b : D} {ys : List D} {y : V} (hb : b = .lst ys ∨ b = .tup ys) (hp : D.pyL ys = true) (r : RepW c H N0 N b y) :
    (Dp c.K H y (.list (toPyL ys)) ∨ Dp c.K H y (.tuple (toPyL ys))) ∧ PyData.canLayAll0 (toPyL ys) = true := by
  rcases hb with rfl | rfl
  · have z := r.dp (by simpa [D.py] using hp)
    exact ⟨.inl z.1, by simpa [toPy, PyData.canLay0] using z.2⟩
  · have z := r.dp (by simpa [D.py] using hp)
    exact ⟨.inr z.1, by simpa [toPy, PyData.canLay0] using z.2⟩
theorem ru_in (hK : X.K = c.K) (hu : X.A.units + 64 < cLine) : OpR X (compareOp .In) (rO c .inn) := by
  intro pins s σ H x y v u Q I rx ry h
  obtain ⟨N0, N, dx, dy, z, r1, r2, e, g⟩ := h
  have e' : inSeq false dx dy = some z := e
  rcases inv_in e' with ⟨ys, hb, h1, h2, h3, rfl⟩ | ⟨ch, y', rfl, rfl, rfl⟩ | ⟨x', y', rfl, rfl, rfl⟩
  · obtain ⟨k1, k2⟩ := seq_dp hb h2 r2
    exact op_inM hu pins s σ H x y v u Q I rx ry ⟨_, _, by rw [hK]; exact (r1.dp h1).1, by rw [hK]; exact k1, (r1.dp h1).2, k2, by rw [dep_toPy dx h1]; exact h3, by rw [in_any h1 h2]; exact g.same rfl⟩
  · exact op_in_sign pins s σ H x y v u Q I rx ry ⟨ch, y', r1.1, r2.1, by simpa using g.same rfl⟩
  · exact op_in_str pins s σ H x y v u Q I rx ry ⟨x', y', r1.1, r2.1, by simpa [inStr] using g.same rfl⟩
theorem ru_nin (hK : X.K = c.K) (hu : X.A.units + 64 < cLine) : OpR X (compareOp .NotIn) (rO c .nin) := by
  intro pins s σ H x y v u Q I rx ry h
  obtain ⟨N0, N, dx, dy, z, r1, r2, e, g⟩ := h
  have e' : inSeq true dx dy = some z := e
  rcases inv_in e' with ⟨ys, hb, h1, h2, h3, rfl⟩ | ⟨ch, y', rfl, rfl, rfl⟩ | ⟨x', y', rfl, rfl, rfl⟩
  · obtain ⟨k1, k2⟩ := seq_dp hb h2 r2
    exact op_ninM hu pins s σ H x y v u Q I rx ry ⟨_, _, by rw [hK]; exact (r1.dp h1).1, by rw [hK]; exact k1, (r1.dp h1).2, k2, by rw [dep_toPy dx h1]; exact h3, by rw [in_any h1 h2]; exact g.same rfl⟩
  · exact op_notIn_sign pins s σ H x y v u Q I rx ry ⟨ch, y', r1.1, r2.1, by simpa using g.same rfl⟩
  · exact op_notIn_str pins s σ H x y v u Q I rx ry ⟨x', y', r1.1, r2.1, by simpa [inStr] using g.same rfl⟩
/-- each operator -/
theorem ru_op (hK : X.K = c.K) (hu : X.A.units + 64 < cLine) (o : Op) : OpR X (opTree o) (rO c o) := by
  cases o
  · exact ru_add
  · exact ru_sub
  · exact ru_mul
  · exact ru_fdiv
  · exact ru_mod
  · exact ru_pow
  · exact ru_eq hK hu
  · exact ru_ne hK hu
  · exact ru_lt
  · exact ru_le
  · exact ru_gt
  · exact ru_ge
  · exact ru_in hK hu
  · exact ru_nin hK hu
end
end Mi
namespace Mi
open PySem L2
/-- where a text stands: the def's names by slot, the scope that runs, a comprehension's own scope, names that the module leaves to the built-ins, the defs, the classes -/
structure Ck where
  N : List Str
  sc : Scope
  inn : Option Scope
  free : List Str
  P : Prg
  cls : List Str
def Ck.fnB (k : Ck) (x : Str) : Bool := match k.inn with
  | none => true
  | some sc => decide (sc.names.lookup x = some .cell)
def plainName (x : Str) : Bool := !(x == ("__debug__" : Str)) && !(x == ("__classdict__" : Str)) && !(x == ("__name__" : Str))
def Ck.vis (k : Ck) (x : Str) : Bool := plainName x && (match k.sc.names.lookup x with
  | some .local => true
  | some .cell => true
  | some .free => true
  | _ => false)
/-- a slot to be stored -/
def Ck.loc (k : Ck) (x : Str) : Bool := match k.sc.names.lookup x with
  | some .local => true
  | some .cell => k.fnB x
  | _ => false
def Ck.gl (k : Ck) (x : Str) : Bool := plainName x && decide (k.sc.names.lookup x = some .globalImplicit)
def Ck.blt (k : Ck) (x : Str) : Bool := k.gl x && decide (x ∈ k.free)
def binOf : Op → Option Operator
  | .add => some .Add
  | .sub => some .Sub
  | .mul => some .Mult
  | .fdiv => some .FloorDiv
  | .mod => some .Mod
  | .pow => some .Pow
  | _ => none
def cmpOf : Op → Option CmpOp
  | .eq => some .Eq
  | .ne => some .NotEq
  | .lt => some .Lt
  | .le => some .LtE
  | .gt => some .Gt
  | .ge => some .GtE
  | .inn => some .In
  | .nin => some .NotIn
  | _ => none
def biName : Bi → Str
  | .len => "len"
  | .int => "int"
  | .abs => "abs"
  | .all => "all"
  | .any => "any"
  | .list => "list"
  | .tuple => "tuple"
  | .sortSet => "sorted"
  | .lenSet => "len"
  | .sort => "sorted"
  | .str => "str"
  | .sum => "sum"
/-- with one argument -/
def biOk : Bi → Bool
  | .len | .abs | .all | .any | .sum | .int | .list | .tuple | .sort => true
  | _ => false
/-- of a set just made -/
def biSet : Bi → Bool
  | .sortSet | .lenSet => true
  | _ => false
def setCk (g : Str → Expr → Bool) : Expr → Bool
  | .Call (.Name y _) [u] [] _ => g y u
  | _ => false
def tyName : Ty → Option Str
  | .int => some "int"
  | .bool => some "bool"
  | .str => some "str"
  | .list => some "list"
  | .tuple => some "tuple"
  | .dict => some "dict"
  | .valueError => some "ValueError"
  | .lookupError => some "LookupError"
  | .keyError => some "KeyError"
  | .indexError => some "IndexError"
  | .exc _ => none
/-- a class of the module -/
def Ck.own (k : Ck) (j : Nat) (x : Str) : Bool := decide (x = excName j) && k.gl x && decide (x ∈ k.cls)
def ckTy (k : Ck) : Ty → Expr → Bool
  | .exc j, .Name x _ => k.own j x
  | t, .Name x _ => (match tyName t with
    | some y => decide (x = y) && k.blt x
    | none => false)
  | _, _ => false
def ckTys (k : Ck) : List Ty → List Expr → Bool
  | [], [] => true
  | t :: ts, e :: es => ckTy k t e && ckTys k ts es
  | _, _ => false
def isStar : Expr → Bool
  | .Starred _ _ => true
  | _ => false
def isSetE : Expr → Bool
  | .Set _ _ _ => true
  | _ => false
def attrBase : Expr → Bool
  | .Name _ _ => true
  | .Subscript _ _ _ => true
  | _ => false
def isSlice : Expr → Bool
  | .Slice _ _ _ _ => true
  | _ => false
mutual
def ckT (k : Ck) : MT → Expr → Bool
  | .slot i, .Name x _ => decide (k.N[i]? = some x) && k.loc x
  | .tup ts, .Tuple es _ _ => ckTs k ts es
  | _, _ => false
def ckTs (k : Ck) : MTs → List Expr → Bool
  | .nil, [] => true
  | .cons t r, e :: es => !isStar e && ckT k t e && ckTs k r es
  | _, _ => false
end
def ckCst : D → Const → Bool
  | .non, .none => true
  | .bl a, .bool b => a == b
  | .int i, .int j => decide (i = j)
  | .str x, .str y => decide (x = y) && strFits x
  | _, _ => false
def kwN (kws : List Keyword) : List Str := kws.filterMap (·.arg)
def Ck.inner (k : Ck) (scope : Scope) : Ck := { k with sc := relS scope k.sc, inn := some scope }
mutual
def ckE (k : Ck) (w : Bool) : ME → Expr → Bool
  | .var i, .Name x _ => decide (k.N[i]? = some x) && k.vis x
  | .bor i, .Name x _ => w && decide (k.N[i]? = some x) && k.vis x
  | .cst d, .Constant a _ _ => ckCst d a
  | .glo g, .Name x _ => k.gl x && decide ((k.P.gs[g]?).map (·.1) = some x)
  | .tup es, .Tuple xs _ _ => ckEs k es xs
  | .lst es, .List xs _ => ckEs k es xs
  | .op o a b, .BinOp l p r _ => decide (binOf o = some p) && ckE k true a l && ckE k true b r
  | .op o a b, .Compare l [p] [r] _ => decide (cmpOf o = some p) && !behindInMarks p r && ckE k true a l && ckE k true b r
  | .chain o1 o2 a b e, .Compare l [p1, p2] [r1, r2] _ => decide (cmpOf o1 = some p1) && decide (cmpOf o2 = some p2) && !lastMarks [p1, p2] [r1, r2] && ckE k true a l && ckE k true b r1 && ckE k true e r2
  | .neg a, .UnaryOp .USub x _ => ckE k true a x
  | .notE a, .UnaryOp .Not x _ => ckE k true a x
  | .andE es, .BoolOp .And xs _ => ckBs k w es xs && !xs.isEmpty
  | .orE es, .BoolOp .Or xs _ => ckBs k w es xs && !xs.isEmpty
  | .ite t a b, .IfExp x y z _ => ckE k true t x && ckE k w a y && ckE k w b z
  | .isN n a, .Compare l [p] [.Constant .none _ _] _ => decide (p = (if n then CmpOp.IsNot else CmpOp.Is)) && ckE k true a l
  | .ix a i, .Subscript x y _ => !isSlice y && ckE k true a x && ckE k true i y
  | .sl a lo hi, .Subscript x (.Slice l u none _) _ => ckE k true a x && ckO k lo l && ckO k hi u
  | .rev a, .Subscript x (.Slice none none (some (.UnaryOp .USub (.Constant (.int 1) _ _) _)) _) _ => ckE k true a x
  | .call f es, .Call (.Name x _) xs [] _ => k.gl x && decide ((k.P.fs[f]?).map (·.name) = some x) && ckEs k es xs && xs.all (fun e => !isStar e)
  | .lend f es, .Call (.Name x _) xs [] _ => k.gl x && decide ((k.P.fs[f]?).map (·.name) = some x) && ckWs k es xs && xs.all (fun e => !isStar e)
  | .callK f es es2 ks, .Call (.Name x _) xs kws _ => k.gl x && decide ((k.P.fs[f]?).map (·.name) = some x) && ckEs k es xs && xs.all (fun e => !isStar e) && ckKs k es2 kws && !kws.isEmpty &&
      (match k.P.fs[f]? with
        | some fd => kwNames fd.ps xs.length (kwN kws) && decide (ks = orderOf fd.ps xs.length (kwN kws))
        | none => false)
  | .boxed f (.call g es), .Call (.Name x _) [.Call (.Name y _) xs [] _] [] _ => k.gl x && decide ((k.P.fs[f]?).map (·.name) = some x) && k.gl y && decide ((k.P.fs[g]?).map (·.name) = some y) && decide ((k.P.fs[g]?).map (·.fresh) = some true) && ckEs k es xs && xs.all (fun e => !isStar e) && !xs.isEmpty
  | .bi b a, .Call (.Name x _) [z] [] _ => if biSet b then setCk (fun y u => decide (x = biName b) && k.blt x && decide (y = ("set" : Str)) && k.blt y && ckE k true a u && !isStar u) z else biOk b && decide (x = biName b) && k.blt x && ckE k true a z && !isStar z
  | .mk j (.cons false e .nil), .Call (.Name x _) [y] [] _ => k.own j x && (excFld j).isSome && ckE k false e y && !isStar y
  | .attr f a, .Attribute x g _ => decide (f = g) && ckE k true a x && attrBase x
  | .isi a true [t], .Call (.Name x _) [z, u] [] _ => decide (x = ("isinstance" : Str)) && k.blt x && ckE k true a z && !isStar z && ckTy k t u
  | .isi a false ts, .Call (.Name x _) [z, .Tuple us _ _] [] _ => decide (x = ("isinstance" : Str)) && k.blt x && ckE k true a z && !isStar z && ckTys k ts us && !ts.isEmpty && decide (us.length ≤ 100)
  | .comp e t r ifs own, .ListComp elt [⟨tg, iter, cs, 0⟩] scope _ =>
      (own.all fun i => decide (i < k.N.length)) && ((tSlots t).all fun i => decide (i ∈ own)) && blkC k.N k.sc scope (own.map fun i => ((k.N[i]?).getD Str.empty, i)) && ckSrc k true r iter tg && !isSetE iter && ckT (k.inner scope) t tg && ckE (k.inner scope) false e elt &&
        ckBs (k.inner scope) true ifs cs && decide (cs.length ≤ 1)
  | _, _ => false
def ckEs (k : Ck) : MEs → List Expr → Bool
  | .nil, [] => true
  | .cons false e r, x :: xs => !isStar x && ckE k false e x && ckEs k r xs
  | .cons true e r, .Starred x _ :: xs => ckE k true e x && ckEs k r xs
  | _, _ => false
/-- named arguments -/
def ckKs (k : Ck) : MEs → List Keyword → Bool
  | .nil, [] => true
  | .cons false e r, ⟨some _, x, _⟩ :: kws => ckE k false e x && ckKs k r kws
  | _, _ => false
/-- arguments that may be lists of one's own -/
def ckWs (k : Ck) : MEs → List Expr → Bool
  | .nil, [] => true
  | .cons false e r, x :: xs => !isStar x && ckE k true e x && ckWs k r xs
  | _, _ => false
/-- tests -/
def ckBs (k : Ck) (w : Bool) : MEs → List Expr → Bool
  | .nil, [] => true
  | .cons false e r, x :: xs => ckE k w e x && ckBs k w r xs
  | _, _ => false
def ckO (k : Ck) : MO → Option Expr → Bool
  | .none, none => true
  | .some e, some x => ckE k true e x
  | _, _ => false
def ckSrc (k : Ck) (w : Bool) : MSrc → Expr → Expr → Bool
  | .it e, x, _ => ckE k w e x
  | .range a, .Call (.Name f _) [x] [] _, _ => decide (f = ("range" : Str)) && k.blt f && ckE k true a x && !isStar x
  | .range2 a b, .Call (.Name f _) [x, y] [] _, _ => decide (f = ("range" : Str)) && k.blt f && ckE k true a x && ckE k true b y && !isStar x && !isStar y
  | .enum a, .Call (.Name f _) [x] [] _, .Tuple _ _ _ => decide (f = ("enumerate" : Str)) && k.blt f && ckE k w a x && !isStar x
  | .zip a b, .Call (.Name f _) [x, y] [] _, .Tuple _ _ _ => decide (f = ("zip" : Str)) && k.blt f && ckE k w a x && ckE k w b y && !isStar x && !isStar y
  | _, _, _ => false
end
end Mi
namespace Mi
open PySem L2
section
variable {c : Cc} {cf : Cfg} {W : WX} {σ : L2.St} {H H1 H2 : Hp} {N : Addr → Prop} {N0 : Addr → Prop} {s : Env} {b : Bx} {a e : ME} {Q : VK}
theorem BoxAt.of {H H' : Hp} {b b' : Bx} (h : BoxAt c H' b) : BoxAt c H' b := h
/-- the box where nothing tracked has changed -/
theorem BoxAt.same (B : BoxAt c H b) (k : ∀ a o, H a = some o → H1 a = some o) : BoxAt c H1 b := by
  cases b with
  | none => trivial
  | some p =>
    obtain ⟨i, j, l⟩ := p
    obtain ⟨x, e, h⟩ := B
    exact ⟨x, e, k x _ h⟩
theorem Keep.ofSame (k : ∀ a o, H a = some o → H1 a = some o) : Keep c H H1 := ⟨fun a o _ h => k a o h, fun a h => by
  cases e : H a with
  | none => rfl
  | some o => rw [k a o e] at h; cases h⟩
/-- from what an operator's rule asks -/
theorem OpG.of {z : D} (R : Rel c H1 N0 σ s) (K1 : Keep c H H1) (B : BoxAt c H1 b) (h : ∀ v H', Keep c H1 H' → BoxAt c H' b → RepF c H H' (Nof N0 σ s) z v → Q v H') : OpG c H1 (Nof N0 σ s) z Q :=
  ⟨fun a => R.domN, R.betN, fun v H' k ks r => h v H' k (B.same ks) (by
    cases z with
    | lst ds =>
      obtain ⟨p, xs, e, n, h1, q⟩ := r
      exact ⟨p, xs, e, K1.fr p n, h1, q⟩
    | _ => exact r)⟩
theorem rd_op {o : Op} {a b : ME} (h : rd c (pF c) W (evE cf (.op o a b)) σ H Q) : tOp (rO c o) (rd c (pW c) W (evE cf a)) (rd c (pW c) W (evE cf b)) σ H Q := by
  obtain ⟨N0, s, b, R, B, h⟩ := h
  refine ⟨N0, s, b, R, B, Out.mono (Out.bd (Rp := fun H' => pW c H H' N0 (Nof N0 σ s)) h) fun vx H1 ⟨x, b1, k1, B1, r1, h1⟩ => ?_⟩
  refine ⟨N0, s, b1, R.keep k1, B1, Out.mono (Out.bd (Rp := fun H' => pW c H1 H' N0 (Nof N0 σ s)) h1) fun vy H2 ⟨y, b2, k2, B2, r2, h2⟩ => ?_⟩
  obtain ⟨z, e, h3⟩ := h2.ofO
  exact ⟨N0, _, x, y, z, r1.keep k2 R.bet fun _ => .inl, r2, e, OpG.of ((R.keep k1).keep k2) (k1.trans k2) B2 h3⟩
theorem rd_chain {o1 o2 : Op} {a b e : ME} (h : rd c (pE c) W (evE cf (.chain o1 o2 a b e)) σ H Q) :
    tChain (rO c o1) (rO c o2) (rd c (pW c) W (evE cf a)) (rd c (pW c) W (evE cf b)) (rd c (pW c) W (evE cf e)) σ H Q := by
  obtain ⟨N0, s, b, R, B, h⟩ := h
  refine ⟨N0, s, b, R, B, Out.mono (Out.bd (Rp := fun H' => pW c H H' N0 (Nof N0 σ s)) h) fun vx H1 ⟨x, b1, k1, B1, r1, h1⟩ => ?_⟩
  refine ⟨N0, s, b1, R.keep k1, B1, Out.mono (Out.bd (Rp := fun H' => pW c H1 H' N0 (Nof N0 σ s)) h1) fun vy H2 ⟨y, b2, k2, B2, r2, h2⟩ => ?_⟩
  have R2 := (R.keep k1).keep k2
  have h2' : Out c (fun H' => pE c H H' N0 (Nof N0 σ s)) σ H2 W Q ((M.bd (M.bd (M.ofO (evOp o1 x y)) fun d => M.ofO (Mi.asB d)) fun k => if k = true then (evE cf e s).bd fun z => M.ofO (evOp o2 y z) else M.ret (D.bl false)) b2) := h2
  cases e1 : evOp o1 x y with
  | none => rw [e1] at h2'; exact h2'.elim
  | some z =>
    rw [e1] at h2'
    have hz : ∃ k, z = .bl k := by
      cases z <;> first | exact ⟨_, rfl⟩ | exact (show False from h2').elim
    obtain ⟨k, rfl⟩ := hz
    have h3 : Out c (fun H' => pE c H H' N0 (Nof N0 σ s)) σ H2 W Q ((if k = true then (evE cf e s).bd fun z => M.ofO (evOp o2 y z) else M.ret (D.bl false)) b2) := h2'
    refine ⟨N0, _, x, y, .bl k, r1.keep k2 R.bet fun _ => .inl, r2, e1, fun a => R2.domN, R2.betN, fun v H3 k3 ks r3 => ?_⟩
    obtain rfl : v = .bl k := r3
    refine ⟨k, rfl, ?_⟩
    have B3 := B2.same ks
    cases k with
    | false => exact h3 _ _ k3 B3 rfl
    | true =>
      refine ⟨N0, s, b2, R2.keep k3, B3, Out.mono (Out.bd (Rp := fun H' => pW c H3 H' N0 (Nof N0 σ s)) (Out.later h3 k3)) fun vz H4 ⟨z, b4, k4, B4, r4, h4⟩ => ?_⟩
      obtain ⟨w, e, h5⟩ := h4.ofO
      refine ⟨N0, _, y, z, w, (r2.keep k3 R.bet fun _ => .inl).keep k4 R.bet fun _ => .inl, r4, e, ?_⟩
      have R4 := (R2.keep k3).keep k4
      exact ⟨fun a => R4.domN, R4.betN, fun v H' k ks r => h5 v H' k (B4.same ks) (RepF.rep r fun a => R4.domN)⟩
end
end Mi
namespace Mi
open PySem L2
section
variable {c : Cc} {cf : Cfg} {W : WX} {σ : L2.St} {H H1 H2 : Hp} {N : Addr → Prop} {N0 : Addr → Prop} {s : Env} {b : Bx} {a e : ME} {Q : VK}
theorem rd_var {i : Nat} (h : rd c (pE c) W (evE cf (.var i)) σ H Q) : tVar i σ H Q := by
  obtain ⟨N0, s, b, R, B, h⟩ := h
  have h' : Out c (fun H' => pE c H H' N0 (Nof N0 σ s)) σ H W Q ((match s[i]? with | some (.vl d) => M.ret d | _ => M.no) b) := h
  cases e : s[i]? with
  | none => rw [e] at h'; exact h'.elim
  | some x =>
    cases x with
    | vl d =>
      rw [e] at h'
      obtain ⟨v, hv, r⟩ := R.vl i d e
      exact ⟨v, hv, h' v H .refl B r⟩
    | _ => rw [e] at h'; exact h'.elim
theorem rd_bor {i : Nat} (h : rd c (pW c) W (evE cf (.bor i)) σ H Q) : tVar i σ H Q := by
  obtain ⟨N0, s, b, R, B, h⟩ := h
  have h' : Out c (fun H' => pW c H H' N0 (Nof N0 σ s)) σ H W Q ((match s[i]? with | some (.vl d) => M.ret d | some (.ow d) => M.ret d | _ => M.no) b) := h
  cases e : s[i]? with
  | none => rw [e] at h'; exact h'.elim
  | some x =>
    cases x with
    | vl d =>
      rw [e] at h'
      obtain ⟨v, hv, r⟩ := R.vl i d e
      exact ⟨v, hv, h' v H .refl B (r.w fun _ => .inl)⟩
    | ow d =>
      rw [e] at h'
      obtain ⟨a, ha, r, n⟩ := R.ow i d e
      refine ⟨.ref a, ha, h' _ H .refl B ?_⟩
      cases d with
      | lst ds =>
        obtain ⟨xs, h1, q⟩ := r
        exact ⟨a, xs, rfl, n, h1, q⟩
      | _ => exact r.elim
    | no => rw [e] at h'; exact h'.elim
theorem rd_cst {d : D} {v : V} (hd : ∀ H N, Rep c H N d v) (h : rd c (pE c) W (evE cf (.cst d)) σ H Q) : tC v σ H Q := by
  obtain ⟨N0, s, b, R, B, h⟩ := h
  exact h v H .refl B (hd _ _)
theorem rd_glo {g : Nat} {d : D} {v : V} (hg : cf.G g = some d) (hd : ∀ H N, Rep c H N d v) (h : rd c (pE c) W (evE cf (.glo g)) σ H Q) : tC v σ H Q := by
  obtain ⟨N0, s, b, R, B, h⟩ := h
  have h' : Out c (fun H' => pE c H H' N0 (Nof N0 σ s)) σ H W Q (M.ofO (cf.G g) b) := h
  rw [hg] at h'
  exact h' v H .refl B (hd _ _)
theorem rd_tup {es : MEs} (h : rd c (pE c) W (evE cf (.tup es)) σ H Q) : tTup (rd c (pL c) W (evEs cf es)) σ H Q := by
  obtain ⟨N0, s, b, R, B, h⟩ := h
  refine ⟨N0, s, b, R, B, Out.mono (Out.bd (Rp := fun H' => pL c H H' N0 (Nof N0 σ s)) h) fun vx H1 ⟨x, b1, k1, B1, r1, h1⟩ => ?_⟩
  have R1 := R.keep k1
  by_cases hz : x.length ≤ lineMax
  · rw [if_pos hz] at h1
    refine ⟨by rw [← r1.length]; exact line_ok hz, fun p hp => ?_⟩
    exact h1 _ _ (.laid hp) (B1.same (same_laid hp)) (newTup hp r1 R.betN fun a => R1.domN)
  · rw [if_neg hz] at h1
    exact h1.elim
theorem rd_lst {es : MEs} (h : rd c (pF c) W (evE cf (.lst es)) σ H Q) : tLst (rd c (pL c) W (evEs cf es)) σ H Q := by
  obtain ⟨N0, s, b, R, B, h⟩ := h
  refine ⟨N0, s, b, R, B, Out.mono (Out.bd (Rp := fun H' => pL c H H' N0 (Nof N0 σ s)) h) fun vx H1 ⟨x, b1, k1, B1, r1, h1⟩ => ?_⟩
  by_cases hz : x.length ≤ lineMax
  · rw [if_pos hz] at h1
    refine ⟨by rw [← r1.length]; exact line_ok hz, fun p hp => ?_⟩
    refine h1 _ _ (.laid hp) (B1.same (same_laid hp)) ?_
    obtain ⟨q, xs, e, n, h2, r⟩ := newLst (c := c) hp r1 R.betN
    cases e
    exact ⟨p, xs, rfl, k1.fr p n, h2, r⟩
  · rw [if_neg hz] at h1
    exact h1.elim
theorem rd_ite {t a b : ME} (h : rd c (pE c) W (evE cf (.ite t a b)) σ H Q) : tIf (rd c (pX (α := Bool)) W (evT cf t)) (rd c (pE c) W (evE cf a)) (rd c (pE c) W (evE cf b)) σ H Q := by
  obtain ⟨N0, s, b, R, B, h⟩ := h
  refine ⟨N0, s, b, R, B, Out.mono (Out.bd (Rp := fun H' => pX (α := Bool) H H' N0 (Nof N0 σ s)) h) fun vx H1 ⟨x, b1, k1, B1, r1, h1⟩ => ?_⟩
  obtain rfl : x = vx := r1
  cases x with
  | true => exact ⟨N0, s, b1, R.keep k1, B1, h1⟩
  | false => exact ⟨N0, s, b1, R.keep k1, B1, h1⟩
theorem RepW.non_iff {d : D} {v : V} (r : RepW c H N0 N d v) : decide (v = .non) = isNon d := by
  cases d <;> first
    | (obtain rfl := (show v = _ from r); rfl)
    | (obtain ⟨rfl, _⟩ := (show v = _ ∧ _ from r); rfl)
    | (obtain ⟨a, xs, rfl, _⟩ := r; rfl)
    | (obtain ⟨a, o, dd, xs, rfl, _⟩ := r; rfl)
    | (obtain ⟨a, rfl, _⟩ := r; rfl)
    | (obtain ⟨b, _, rfl⟩ := r; rfl)
    | exact (show False from r).elim
theorem rd_isN {n : Bool} {a : ME} (h : rd c (pE c) W (evE cf (.isN n a)) σ H Q) :
    tOp (fun x y H Q => y = .non ∧ Q (.bl (xor n (decide (x = .non)))) H) (rd c (pW c) W (evE cf a)) (tC .non) σ H Q := by
  obtain ⟨N0, s, b, R, B, h⟩ := h
  refine ⟨N0, s, b, R, B, Out.mono (Out.bd (Rp := fun H' => pW c H H' N0 (Nof N0 σ s)) h) fun vx H1 ⟨x, b1, k1, B1, r1, h1⟩ => ?_⟩
  refine ⟨rfl, ?_⟩
  rw [r1.non_iff]
  exact h1 _ _ .refl B1 rfl
theorem rd_neg {a : ME} (h : rd c (pE c) W (evE cf (.neg a)) σ H Q) : tUn (rU fun i => .int (-i)) (rd c (pW c) W (evE cf a)) σ H Q := by
  obtain ⟨N0, s, b, R, B, h⟩ := h
  refine ⟨N0, s, b, R, B, Out.mono (Out.bd (Rp := fun H' => pW c H H' N0 (Nof N0 σ s)) h) fun vx H1 ⟨x, b1, k1, B1, r1, h1⟩ => ?_⟩
  obtain ⟨i, e, h2⟩ := h1.ofObd
  cases x <;> first | (cases e; done) | skip
  cases e
  exact ⟨_, r1, h2 _ _ .refl B1 rfl⟩
theorem atI_rep {ds : List D} {vs : List V} {i : Int} {d : D} (r : RepL c H N ds vs) (h : L2.atI ds i = some d) : ∃ v, L2.atI vs i = some v ∧ Rep c H N d v := by
  unfold L2.atI at *
  rw [← r.length]
  obtain ⟨j, h1, h2⟩ := Option.bind_eq_some_iff.mp h
  obtain ⟨v, h3, h4⟩ := r.get h2
  exact ⟨v, by rw [h1]; exact h3, h4⟩
theorem one_fits {x : Str} (h : strFits x = true) {ch : Nat} (hc : ch ∈ x.cps.toList) : strFits ⟨#[ch]⟩ = true := by
  unfold strFits at *
  simp only [Bool.and_eq_true, decide_eq_true_eq, ← Array.all_toList, List.all_eq_true] at *
  refine ⟨by show 1 ≤ strMax; decide, fun y hy => ?_⟩
  have : y = ch := by simpa using hy
  rw [this]
  exact h.2 ch hc
theorem atI_mem {α : Type} {xs : List α} {i : Int} {v : α} (h : L2.atI xs i = some v) : v ∈ xs := by
  unfold L2.atI at h
  obtain ⟨j, _, h2⟩ := Option.bind_eq_some_iff.mp h
  exact List.mem_of_getElem? h2
theorem rd_ix {a i : ME} (h : rd c (pE c) W (evE cf (.ix a i)) σ H Q) : tOp (rIx c.K) (rd c (pW c) W (evE cf a)) (rd c (pW c) W (evE cf i)) σ H Q := by
  obtain ⟨N0, s, b, R, B, h⟩ := h
  refine ⟨N0, s, b, R, B, Out.mono (Out.bd (Rp := fun H' => pW c H H' N0 (Nof N0 σ s)) h) fun vx H1 ⟨x, b1, k1, B1, r1, h1⟩ => ?_⟩
  refine ⟨N0, s, b1, R.keep k1, B1, Out.mono (Out.bd (Rp := fun H' => pW c H1 H' N0 (Nof N0 σ s)) h1) fun vy H2 ⟨y, b2, k2, B2, r2, h2⟩ => ?_⟩
  have r1 := r1.keep k2 R.bet fun _ => .inl
  by_cases hb : x = .box
  · subst hb
    cases y <;> first | exact (show False from h2).elim | skip
    rename_i k
    cases b2 with
    | none => exact (show False from h2).elim
    | some p =>
      obtain ⟨i0, j0, l0⟩ := p
      have h2 : Out c (fun H' => pE c H H' N0 (Nof N0 σ s)) σ H2 W Q (match L2.atI [i0, j0, l0] k with
        | some v => .ok (.int v) (some (i0, j0, l0))
        | none => .no) := h2
      cases ea : L2.atI [i0, j0, l0] k with
      | none => rw [ea] at h2; exact h2.elim
      | some v =>
        rw [ea] at h2
        obtain ⟨p, e1, rfl⟩ := r1
        obtain ⟨p', e2, h4⟩ := id B2
        rw [e1] at e2
        cases e2
        refine .inl ⟨p, [.int i0, .int j0, .int l0], k, .int v, rfl, r2, .inl (.of h4), ?_, h2 _ _ .refl B2 rfl⟩
        unfold L2.atI at ea ⊢
        obtain ⟨j, z1, z2⟩ := Option.bind_eq_some_iff.mp ea
        have z1 : L2.ixN 3 k = some j := z1
        show (L2.ixN 3 k).bind _ = _
        rw [z1]
        show ([i0, j0, l0].map V.int)[j]? = _
        rw [List.getElem?_map, z2]
        rfl
  have h2 : Out c (fun H' => pE c H H' N0 (Nof N0 σ s)) σ H2 W Q (M.ofO (evIx x y) b2) := by
    cases x <;> first | exact h2 | exact absurd rfl hb
  obtain ⟨z, e, h3⟩ := h2.ofO
  cases x <;> cases y <;> simp only [evIx] at e <;> first | (cases e; done) | skip
  · obtain ⟨ch, e1, rfl⟩ := Option.map_eq_some_iff.mp e
    exact .inr (.inr ⟨_, _, ch, r1.1, r2, str_line r1.2, e1, h3 _ _ .refl B2 ⟨rfl, one_fits r1.2 (atI_mem e1)⟩⟩)
  · obtain ⟨p, vs, e0, n, h4, q⟩ := r1
    obtain ⟨v, h5, h6⟩ := atI_rep q e
    exact .inr (.inl ⟨p, vs, _, v, e0, r2, .of h4, h5, h3 _ _ .refl B2 h6⟩)
  · obtain ⟨p, vs, e0, n, h4, q⟩ := r1
    obtain ⟨v, h5, h6⟩ := atI_rep q e
    exact .inl ⟨p, vs, _, v, e0, r2, .of h4, h5, h3 _ _ .refl B2 h6⟩
/-- parts of a slice -/
theorem rd_o {e : ME} {Q : Option Int → Hp → Prop} (h : rd c (pX (α := Option Int)) W (evO cf (.some e)) σ H Q) : tPart (rd c (pW c) W (evE cf e)) σ H Q := by
  obtain ⟨N0, s, b, R, B, h⟩ := h
  refine ⟨N0, s, b, R, B, Out.mono (Out.bd (Rp := fun H' => pW c H H' N0 (Nof N0 σ s)) h) fun vx H1 ⟨x, b1, k1, B1, r1, h1⟩ => ?_⟩
  obtain ⟨i, e, h2⟩ := h1.ofObd
  cases x <;> first | (cases e; done) | skip
  cases e
  exact ⟨_, r1, h2 _ _ .refl B1 rfl⟩
theorem rd_on {Q : Option Int → Hp → Prop} (h : rd c (pX (α := Option Int)) W (evO cf .none) σ H Q) : tNoPart σ H Q := by
  obtain ⟨N0, s, b, R, B, h⟩ := h
  exact h _ _ .refl B rfl
/-- slices of lists, tuples, texts, the script -/
def rSl (K : PySem.W.Frag) : V → Option Int → Option Int → Hp → VK → Prop := fun x lo hi H Q => rSlL K x lo hi H Q ∨ rSlA K x lo hi H Q ∨ rSlS x lo hi H Q
theorem sl_all {X : Cx} : SlR X (rSl X.K) := sl_list.or (sl_tupA.or sl_str)
theorem cutS_fits {z : Str} {lo hi : Option Int} (h : strFits z = true) : strFits ⟨(cut z.cps.toList lo hi).toArray⟩ = true := by
  unfold strFits at *
  rw [Bool.and_eq_true] at *
  refine ⟨decide_eq_true ?_, ?_⟩
  · have h1 := of_decide_eq_true h.1
    show (cut z.cps.toList lo hi).toArray.size ≤ strMax
    rw [List.size_toArray]
    unfold cut
    rw [List.length_take, List.length_drop]
    rw [← Array.length_toList] at h1
    omega
  · have h2 := h.2
    show (cut z.cps.toList lo hi).toArray.all (· < 0x110000) = true
    rw [← Array.all_toList, List.all_eq_true] at *
    intro y hy
    have hy' : y ∈ cut z.cps.toList lo hi := by simpa using hy
    unfold cut at hy'
    exact h2 y (List.mem_of_mem_drop (List.mem_of_mem_take hy'))
theorem cut_map {α β : Type} (f : α → β) (xs : List α) (lo hi : Option Int) : (cut xs lo hi).map f = cut (xs.map f) lo hi := by
  unfold cut
  rw [List.map_take, List.map_drop, List.length_map]
theorem cut_whole {ds : List D} {vs : List V} {l u : Option Int} (q : RepL c H N ds vs) (h1 : HT.sIx vs.length 0 l = 0) (h2 : HT.sIx vs.length vs.length u = vs.length) : cut ds l u = ds := by
  unfold cut
  rw [q.length, h1, h2, List.drop_zero, Nat.sub_zero, ← q.length, List.take_length]
theorem rd_sl {a : ME} {lo hi : MO} (hns : cf.ns = c.ns) (h : rd c (pF c) W (evE cf (.sl a lo hi)) σ H Q) :
    tSl (rSl c.K) (rd c (pW c) W (evE cf a)) (rd c (pX (α := Option Int)) W (evO cf lo)) (rd c (pX (α := Option Int)) W (evO cf hi)) σ H Q := by
  obtain ⟨N0, s, b, R, B, h⟩ := h
  refine ⟨N0, s, b, R, B, Out.mono (Out.bd (Rp := fun H' => pW c H H' N0 (Nof N0 σ s)) h) fun vx H1 ⟨x, b1, k1, B1, r1, h1⟩ => ?_⟩
  refine ⟨N0, s, b1, R.keep k1, B1, Out.mono (Out.bd (Rp := fun H' => pX (α := Option Int) H1 H' N0 (Nof N0 σ s)) h1) fun vl H2 ⟨l, b2, k2, B2, r2, h2⟩ => ?_⟩
  refine ⟨N0, s, b2, (R.keep k1).keep k2, B2, Out.mono (Out.bd (Rp := fun H' => pX (α := Option Int) H2 H' N0 (Nof N0 σ s)) h2) fun vu H3 ⟨u, b3, k3, B3, r3, h3⟩ => ?_⟩
  obtain rfl : l = vl := r2
  obtain rfl : u = vu := r3
  obtain ⟨z, e, h4⟩ := h3.ofO
  have R3 := ((R.keep k1).keep k2).keep k3
  have r1 := (r1.keep k2 R.bet fun _ => .inl).keep k3 R.bet fun _ => .inl
  have g := OpG.of R3 ((k1.trans k2).trans k3) B3 h4
  cases x <;> simp only [evSl] at e <;> first | (cases e; done) | skip
  · cases e
    refine .inr (.inr ⟨_, r1.1, str_line r1.2, g.same ⟨?_, cutS_fits r1.2⟩⟩)
    rfl
  · cases e
    obtain ⟨p, vs, e0, n, h5, q⟩ := r1
    refine .inr (.inl ⟨p, vs, e0, .of h5, fun hw => ?_, fun _ p hp => g.tup hp (q.cutV _ _)⟩)
    refine g.same ⟨p, vs, rfl, n, h5, ?_⟩
    rw [cut_whole q hw.1 hw.2]
    exact q
  · cases e
    obtain ⟨p, vs, e0, n, h5, q⟩ := r1
    exact .inl ⟨p, vs, e0, .of h5, fun p hp => g.lst hp (q.cutV _ _)⟩
  · cases e
    obtain ⟨p, e0, q⟩ := r1
    have hS : SqL c.K H3 p (c.ns.map V.int) := q.imp (fun z => z.2) id
    refine .inl ⟨p, _, e0, hS, fun p hp => ?_⟩
    have e2 : L2.cutV (c.ns.map V.int) l u = (cut cf.ns l u).map V.int := by
      rw [cut_map, hns]
      rfl
    rw [e2]
    exact g.lst hp (.ofInts _)
end
end Mi
namespace Mi
open PySem L2
/-- what a built-in's rule asks -/
def rBi (c : Cc) (k : Bi) : List V → Hp → VK → Prop := fun vs H Q => ∃ (N0 N : Addr → Prop) (d z : D) (v : V), vs = [v] ∧ RepW c H N0 N d v ∧ evBi k d = some z ∧ OpG c H N z Q
def biVal : Bi → Value
  | .len => .builtin "len"
  | .int => .type "int"
  | .abs => .builtin "abs"
  | .all => .builtin "all"
  | .any => .builtin "any"
  | .list => .type "list"
  | .tuple => .type "tuple"
  | .sortSet => .builtin "sorted"
  | .lenSet => .builtin "len"
  | .sort => .builtin "sorted"
  | .str => .type "str"
  | .sum => .builtin "sum"
theorem bools_rep {c : Cc} {H : Hp} {N : Addr → Prop} : ∀ {ds : List D} {vs : List V} {bs : List Bool}, RepL c H N ds vs → bools ds = some bs → vs = bs.map V.bl
  | [], _, _, r, e => by cases r; cases e; rfl
  | d :: ds, _, _, r, e => by
    obtain ⟨v, vs, rfl, h, q⟩ := r
    cases d <;> simp only [bools] at e <;> first | (cases e; done) | skip
    obtain ⟨bs, e1, rfl⟩ := Option.map_eq_some_iff.mp e
    rw [bools_rep q e1, show v = V.bl _ from h]
    rfl
theorem ints_rep {c : Cc} {H : Hp} {N : Addr → Prop} : ∀ {ds : List D} {vs : List V} {bs : List Int}, RepL c H N ds vs → intsD ds = some bs → vs = bs.map V.int
  | [], _, _, r, e => by cases r; cases e; rfl
  | d :: ds, _, _, r, e => by
    obtain ⟨v, vs, rfl, h, q⟩ := r
    cases d <;> simp only [intsD] at e <;> first | (cases e; done) | skip
    obtain ⟨bs, e1, rfl⟩ := Option.map_eq_some_iff.mp e
    rw [ints_rep q e1, show v = V.int _ from h]
    rfl
theorem strs_rep {c : Cc} {H : Hp} {N : Addr → Prop} : ∀ {ds : List D} {vs : List V} {bs : List Str}, RepL c H N ds vs → strsD ds = some bs → vs = bs.map V.str ∧ ∀ x ∈ bs, strFits x = true
  | [], _, _, r, e => by cases r; cases e; exact ⟨rfl, fun _ h => nomatch h⟩
  | d :: ds, _, _, r, e => by
    obtain ⟨v, vs, rfl, h, q⟩ := r
    cases d <;> simp only [strsD] at e <;> first | (cases e; done) | skip
    obtain ⟨bs, e1, rfl⟩ := Option.map_eq_some_iff.mp e
    obtain ⟨h1, h2⟩ := strs_rep q e1
    refine ⟨by rw [h1, h.1]; rfl, fun x hx => ?_⟩
    rcases List.mem_cons.mp hx with rfl | hx
    · exact h.2
    · exact h2 x hx
section
variable {X : Cx} {c : Cc}
theorem bi_len : CallR X (biVal .len) (rBi c .len) := by
  intro pins s σ H xs us Q I r h
  obtain ⟨N0, N, d, z, v, rfl, w, e, g⟩ := h
  cases d <;> simp only [evBi] at e <;> first | (cases e; done) | skip
  · cases e
    exact call_len_str pins s σ H _ us Q I r ⟨_, by rw [w.1], str_line w.2, g.same rfl⟩
  · cases e
    obtain ⟨a, vs, rfl, n, h1, q⟩ := w
    exact call_len_seq pins s σ H _ us Q I r ⟨a, vs, rfl, .inr (.of h1), by rw [← q.length]; exact g.same rfl⟩
  · cases e
    obtain ⟨a, vs, rfl, n, h1, q⟩ := w
    exact call_len_seq pins s σ H _ us Q I r ⟨a, vs, rfl, .inl (.of h1), by rw [← q.length]; exact g.same rfl⟩
theorem bi_int : CallR X (biVal .int) (rBi c .int) := by
  intro pins s σ H xs us Q I r h
  obtain ⟨N0, N, d, z, v, rfl, w, e, g⟩ := h
  cases d <;> simp only [evBi] at e <;> first | (cases e; done) | skip
  · cases e
    exact call_int1 pins s σ H _ us Q I r (.inr ⟨_, by rw [show v = _ from w], g.same rfl⟩)
  · cases e
    exact call_int1 pins s σ H _ us Q I r (.inl ⟨_, by rw [show v = _ from w], g.same rfl⟩)
theorem bi_abs : CallR X (biVal .abs) (rBi c .abs) := by
  intro pins s σ H xs us Q I r h
  obtain ⟨N0, N, d, z, v, rfl, w, e, g⟩ := h
  cases d <;> simp only [evBi] at e <;> first | (cases e; done) | skip
  cases e
  exact call_abs pins s σ H _ us Q I r ⟨_, by rw [show v = _ from w], g.same rfl⟩
theorem bi_all (hc : X.calm = true) : CallR X (biVal .all) (rBi c .all) := by
  intro pins s σ H xs us Q I r h
  obtain ⟨N0, N, d, z, v, rfl, w, e, g⟩ := h
  cases d <;> simp only [evBi] at e <;> first | (cases e; done) | skip
  obtain ⟨bs, e1, rfl⟩ := Option.map_eq_some_iff.mp e
  obtain ⟨a, vs, rfl, n, h1, q⟩ := w
  have e2 := bools_rep q e1
  subst e2
  exact cr_all hc pins s σ H _ us Q I r ⟨a, bs, rfl, .of h1, g.same rfl⟩
theorem bi_any (hc : X.calm = true) : CallR X (biVal .any) (rBi c .any) := by
  intro pins s σ H xs us Q I r h
  obtain ⟨N0, N, d, z, v, rfl, w, e, g⟩ := h
  cases d <;> simp only [evBi] at e <;> first | (cases e; done) | skip
  obtain ⟨bs, e1, rfl⟩ := Option.map_eq_some_iff.mp e
  obtain ⟨a, vs, rfl, n, h1, q⟩ := w
  have e2 := bools_rep q e1
  subst e2
  exact cr_any hc pins s σ H _ us Q I r ⟨a, bs, rfl, .of h1, g.same rfl⟩
theorem bi_sum (hc : X.calm = true) : CallR X (biVal .sum) (rBi c .sum) := by
  intro pins s σ H xs us Q I r h
  obtain ⟨N0, N, d, z, v, rfl, w, e, g⟩ := h
  cases d <;> simp only [evBi] at e <;> first | (cases e; done) | skip
  obtain ⟨bs, e1, rfl⟩ := Option.map_eq_some_iff.mp e
  obtain ⟨a, vs, rfl, n, h1, q⟩ := w
  have e2 := ints_rep q e1
  subst e2
  exact cr_sum hc pins s σ H _ us Q I r ⟨a, bs, rfl, .of h1, g.same rfl⟩
theorem bi_list : CallR X (biVal .list) (rBi c .list) := by
  intro pins s σ H xs us Q I r h
  obtain ⟨N0, N, d, z, v, rfl, w, e, g⟩ := h
  cases d <;> simp only [evBi] at e <;> first | (cases e; done) | skip
  · cases e
    obtain ⟨a, vs, rfl, n, h1, q⟩ := w
    exact call_list_of pins s σ H _ us Q I r ⟨a, vs, rfl, .inr (.of h1), fun p hp => g.lst hp q⟩
  · cases e
    obtain ⟨a, vs, rfl, n, h1, q⟩ := w
    exact call_list_of pins s σ H _ us Q I r ⟨a, vs, rfl, .inl (.of h1), fun p hp => g.lst hp q⟩
theorem bi_tuple : CallR X (biVal .tuple) (rBi c .tuple) := by
  intro pins s σ H xs us Q I r h
  obtain ⟨N0, N, d, z, v, rfl, w, e, g⟩ := h
  cases d <;> simp only [evBi] at e <;> first | (cases e; done) | skip
  · cases e
    obtain ⟨a, vs, rfl, n, h1, q⟩ := w
    exact call_tuple_of pins s σ H _ us Q I r ⟨a, vs, rfl, .inr ⟨.of h1, g.same ⟨a, vs, rfl, n, h1, q⟩⟩⟩
  · cases e
    obtain ⟨a, vs, rfl, n, h1, q⟩ := w
    exact call_tuple_of pins s σ H _ us Q I r ⟨a, vs, rfl, .inl ⟨.of h1, fun p hp => g.tup hp q⟩⟩
end
section
variable {X : Cx} {c : Cc} {H : Hp} {N : Addr → Prop}
open PySem.W in
theorem each_zip {s : Shared} {pins : List (Addr × Obj)} {σ : L2.St} (I : Inv X pins σ H s) (hK : c.K = X.K) : ∀ {ds : List D} {vs : List V} {us : List Value}, RepL c H N ds vs → Vals vs us → D.pyL ds = true →
    EachIs (fun u (p : D × V) => RelV p.2 u) us (ds.zip vs) ∧ EachIs (fun u (p : D × V) => ∃ as, Reads s.heap u (toPy p.1) as) us (ds.zip vs)
  | [], _, _, r, w, _ => by
    cases r
    cases w
    exact ⟨.nil, .nil⟩
  | d :: ds, _, _, r, w, p => by
    obtain ⟨v, vs, rfl, h, q⟩ := r
    cases w with
    | cons w1 w2 =>
      simp only [D.pyL, Bool.and_eq_true] at p
      obtain ⟨e1, e2⟩ := each_zip I hK q w2 p.2
      have z := (Rep.dp d v p.1 h).1
      rw [hK] at z
      exact ⟨.cons w1 e1, .cons (Dp.reads I (toPy d) v _ z w1) e2⟩
theorem zip_rep : ∀ {ds : List D} {vs : List V}, RepL c H N ds vs → ∀ p ∈ ds.zip vs, Rep c H N p.1 p.2
  | [], _, r => by cases r; exact fun _ h => nomatch h
  | d :: ds, _, r => by
    obtain ⟨v, vs, rfl, h, q⟩ := r
    intro p hp
    rcases List.mem_cons.mp hp with rfl | hp
    · exact h
    · exact zip_rep q p hp
theorem rep_zip : ∀ (ps : List (D × V)), (∀ p ∈ ps, Rep c H N p.1 p.2) → RepL c H N (ps.map (·.1)) (ps.map (·.2))
  | [], _ => rfl
  | p :: ps, h => ⟨_, _, rfl, h p (List.mem_cons_self ..), rep_zip ps fun q hq => h q (List.mem_cons_of_mem _ hq)⟩
theorem vals_of : ∀ {us : List Value} {ps : List (D × V)}, PySem.W.EachIs (fun u (p : D × V) => RelV p.2 u) us ps → Vals (ps.map (·.2)) us
  | _, _, .nil => .nil
  | _, _, .cons h t => .cons h (vals_of t)
theorem toPyL_map : ∀ (ds : List D), toPyL ds = ds.map toPy
  | [] => rfl
  | d :: ds => by rw [toPyL, toPyL_map ds]; rfl
theorem dep_of {d : D} (p : D.py d = true) (h : D.dep d ≤ 60) : (toPy d).depth ≤ 60 := by
  rw [dep_toPy d p]; exact h
theorem pyL_mem : ∀ {ds : List D}, D.pyL ds = true → ∀ d ∈ ds, D.py d = true
  | [], _, _, h => nomatch h
  | x :: xs, p, d, h => by
    simp only [D.pyL, Bool.and_eq_true] at p
    rcases List.mem_cons.mp h with rfl | h
    · exact p.1
    · exact pyL_mem p.2 d h
open PySem.W in
theorem bi_sort (hK : c.K = X.K) (hu : X.A.units + 64 < cLine) : CallR X (biVal .sort) (rBi c .sort) := by
  intro pins s σ H xs us Q I r h
  obtain ⟨N0, N, d, z, v, rfl, w, e, g⟩ := h
  cases d <;> simp only [evBi] at e <;> first | (cases e; done) | skip
  rename_i ds
  split at e
  · rename_i hk
    cases e
    rw [Bool.and_eq_true] at hk
    obtain ⟨hk, hlen⟩ := hk
    have hlen := of_decide_eq_true hlen
    unfold sortOk at hk
    rw [Bool.and_eq_true, Bool.and_eq_true, Bool.and_eq_true] at hk
    obtain ⟨⟨⟨k1, k2⟩, k3⟩, k4⟩ := hk
    obtain ⟨a, vs, rfl, n, h1, q⟩ := w
    obtain ⟨u, rfl, ru⟩ := r.one
    cases ru
    obtain ⟨z1, its, n1, rv, hl, e1⟩ := I.lstM h1
    obtain ⟨er, ed⟩ := each_zip I hK q rv k1
    have ql := q.length
    have hfst : (ds.zip vs).map (·.1) = ds := by
      rw [List.map_fst_zip (by omega)]
    have hmem : ∀ p ∈ ds.zip vs, p.1 ∈ ds := fun p hp => by
      have := List.mem_map_of_mem (f := fun x : D × V => x.1) hp
      rwa [hfst] at this
    have al : AllAlike ((ds.zip vs).map fun p => toPy p.1) := by
      intro x hx y hy
      obtain ⟨p, hp, rfl⟩ := List.mem_map.mp hx
      obtain ⟨p', hp', rfl⟩ := List.mem_map.mp hy
      exact List.all_eq_true.mp (List.all_eq_true.mp k3 _ (hmem p hp)) _ (hmem p' hp')
    have so : Sortable ((ds.zip vs).map fun p => toPy p.1) := by
      rw [Bool.or_eq_true] at k4
      rcases k4 with k4 | k4
      · refine .inl fun x hx => ?_
        obtain ⟨p, hp, rfl⟩ := List.mem_map.mp hx
        have := List.all_eq_true.mp k4 _ (hmem p hp)
        cases e : p.1 <;> rw [e] at this <;> first | (cases this; done) | skip
        rename_i xs
        cases xs with
        | nil => cases this
        | cons y ys => exact ⟨_, _, by simp only [toPy, toPyL]; rfl⟩
      · refine .inr fun x hx => ?_
        obtain ⟨p, hp, rfl⟩ := List.mem_map.mp hx
        have h2 := List.all_eq_true.mp k4 _ (hmem p hp)
        have h3 := pyL_mem k1 _ (hmem p hp)
        cases e : p.1 <;> rw [e] at h2 h3 <;> first | (cases h2; done) | (cases h3; done) | exact ⟨fun z => by simp [toPy] at z, fun xs z => by simp [toPy] at z⟩
    refine sorted_data (R := fun u (p : D × V) => RelV p.2 u) (enc := fun p : D × V => toPy p.1) (vs := its) ⟨_, e1, rfl, n1, rfl⟩ er ed al so (by rw [List.length_zip, ← ql, Nat.min_self]; exact line_ok hlen) (fun p hp => ?_) fun out ho hE => ?_
    · have := dep_of (pyL_mem k1 _ (hmem p hp)) (of_decide_eq_true (List.all_eq_true.mp k2 _ (hmem p hp)))
      omega
    · have hv := vals_of hE
      have e2 : ((ds.zip vs).mergeSort (dataLe false fun p : D × V => toPy p.1)).map (·.1) = sortD ds := by
        unfold sortD
        rw [srt_eq]
        have z := List.map_mergeSort (r := dataLe false fun p : D × V => toPy p.1) (s := leD) (f := fun x : D × V => x.1) (l := ds.zip vs) (fun x _ y _ => rfl)
        rw [hfst] at z
        exact z
      have rp : RepL c H N (((ds.zip vs).mergeSort (dataLe false fun p : D × V => toPy p.1)).map (·.1)) (((ds.zip vs).mergeSort (dataLe false fun p : D × V => toPy p.1)).map (·.2)) := rep_zip _ fun p hp => zip_rep q p (List.mem_mergeSort.mp hp)
      rw [e2] at rp
      obtain ⟨cc, hc⟩ := PyProof.Rows.sortedAll_at s.heap its out.toArray
      have fr : H (s.heap.objs.size + 1) = none := I.hok.fresh (Nat.le_succ _)
      refine ⟨.ref _, _, I.laid (t' := s.toks) (o := .lst (((ds.zip vs).mergeSort (dataLe false fun p : D × V => toPy p.1)).map (·.2))) (fun b o e => PyProof.Rows.sortedAll_old e) (Nat.le_succ _) ⟨?_, out, cc, hv, hc⟩, rfl, g.lst fr rp⟩
      rw [List.length_map, List.length_mergeSort, List.length_zip, ← ql, Nat.min_self]
      exact line_ok hlen
  · cases e
end
def tyTag : D → Option String
  | .non => some "NoneType"
  | .bl _ => some "bool"
  | .int _ => some "int"
  | .str _ => some "str"
  | .tup _ => some "tuple"
  | .lst _ => some "list"
  | _ => none
def tyStr : Ty → Option String
  | .valueError => some "ValueError"
  | .lookupError => some "LookupError"
  | .keyError => some "KeyError"
  | .indexError => some "IndexError"
  | .int => some "int"
  | .bool => some "bool"
  | .str => some "str"
  | .list => some "list"
  | .tuple => some "tuple"
  | .dict => some "dict"
  | _ => none
theorem tyX_of {c : Cc} {H : Hp} {N0 N : Addr → Prop} {d : D} {v : V} {t : String} (r : RepW c H N0 N d v) (h : tyTag d = some t) : TyX c.K H v (.type t) := by
  cases d <;> simp only [tyTag] at h <;> first | (cases h; done) | skip
  · cases h; rw [show v = _ from r]; exact .base .non
  · cases h; rw [show v = _ from r]; exact .base (.bl _)
  · cases h; rw [show v = _ from r]; exact .base (.int _)
  · cases h; rw [r.1]; exact .base (.str _)
  · cases h
    obtain ⟨a, vs, rfl, n, h1, q⟩ := r
    exact .base (.tup h1)
  · cases h
    obtain ⟨a, vs, rfl, n, h1, q⟩ := r
    exact .base (.lst h1)
theorem kit_of_ty {d : D} {t : Ty} {b : Bool} {x y : String} (h : D.isTy d t = some b) (hd : tyTag d = some x) (ht : tyStr t = some y) : kitB x y = some b := by
  cases d <;> simp only [tyTag] at hd <;> first | (cases hd; done) | skip
  all_goals cases hd
  all_goals cases t <;> simp only [tyStr] at ht <;> first | (cases ht; done) | skip
  all_goals cases ht
  all_goals simp only [D.isTy] at h
  all_goals cases h
  all_goals decide +kernel
end Mi
namespace Mi
open PySem L2
section
variable {c : Cc} {cf : Cfg} {W : WX} {σ σ' : L2.St} {H H1 H2 H' : Hp} {N : Addr → Prop} {N0 N1 : Addr → Prop} {s s' : Env} {b : Bx} {d : D} {v : V}
theorem get_set {α : Type} {l : List α} {i j : Nat} {x y : α} (h : (l.set i x)[j]? = some y) : (j = i ∧ y = x) ∨ (j ≠ i ∧ l[j]? = some y) := by
  by_cases e : j = i
  · subst e
    by_cases hl : j < l.length
    · rw [List.getElem?_set_self hl] at h
      cases h
      exact .inl ⟨rfl, rfl⟩
    · rw [List.getElem?_eq_none (by simpa using hl)] at h
      cases h
  · rw [List.getElem?_set_ne (Ne.symm e)] at h
    exact .inr ⟨e, h⟩
theorem own_set {i : Nat} {x : Option V} {y : Sl} {a : Addr} (hy : ∀ d, y ≠ .ow d) (h : IsOwn (σ.set i x) (s.set i y) a) : IsOwn σ s a := by
  obtain ⟨j, d, h1, h2⟩ := h
  rcases get_set h1 with ⟨rfl, e⟩ | ⟨ne, h1⟩
  · exact absurd e.symm (hy d)
  · rcases get_set h2 with ⟨e, _⟩ | ⟨_, h2⟩
    · exact absurd e ne
    · exact ⟨j, d, h1, h2⟩
theorem Nof_set {i : Nat} {x : Option V} {y : Sl} {a : Addr} (hy : ∀ d, y ≠ .ow d) (h : Nof N0 (σ.set i x) (s.set i y) a) : Nof N0 σ s a := h.imp id (own_set hy)
theorem Rep.sub {N N' : Addr → Prop} (r : Rep c H N d v) (h : ∀ a, N' a → N a) : Rep c H N' d v := Rep.anti (fun a z => .inl (h a z)) d v r
theorem OwnAt.sub {N N' : Addr → Prop} {a : Addr} (r : OwnAt c H N a d) (h : ∀ a, N' a → N a) : OwnAt c H N' a d := by
  cases d with
  | lst ds =>
    obtain ⟨xs, h1, q⟩ := r
    exact ⟨xs, h1, RepL.anti (fun a z => .inl (h a z)) ds xs q⟩
  | _ => exact r
theorem Rel.setVl (R : Rel c H N0 σ s) (r : Rep c H (Nof N0 σ s) d v) (i : Nat) (hi : i < s.length) : Rel c H N0 (σ.set i (some v)) (s.set i (.vl d)) := by
  have sub : ∀ a, Nof N0 (σ.set i (some v)) (s.set i (.vl d)) a → Nof N0 σ s a := fun a => Nof_set fun d z => nomatch z
  have hσ : i < σ.length := by rw [← R.len]; exact hi
  refine ⟨by simpa using R.len, fun j e h => ?_, fun j e h => ?_, fun j l e f a h1 h2 h3 h4 => ?_, R.dom, R.bet⟩
  · rcases get_set h with ⟨rfl, e⟩ | ⟨ne, h⟩
    · cases e
      exact ⟨v, List.getElem?_set_self hσ, r.sub sub⟩
    · obtain ⟨w, h1, h2⟩ := R.vl j e h
      exact ⟨w, by rw [List.getElem?_set_ne (Ne.symm ne)]; exact h1, h2.sub sub⟩
  · rcases get_set h with ⟨rfl, e⟩ | ⟨ne, h⟩
    · cases e
    · obtain ⟨a, h1, h2, h3⟩ := R.ow j e h
      exact ⟨a, by rw [List.getElem?_set_ne (Ne.symm ne)]; exact h1, h2.sub sub, h3⟩
  · rcases get_set h1 with ⟨_, e⟩ | ⟨n1, h1⟩
    · cases e
    rcases get_set h2 with ⟨_, e⟩ | ⟨n2, h2⟩
    · cases e
    rw [List.getElem?_set_ne (Ne.symm n1)] at h3
    rw [List.getElem?_set_ne (Ne.symm n2)] at h4
    exact R.dis j l e f a h1 h2 h3 h4
/-- a slot forgotten -/
theorem Rel.setNo (R : Rel c H N0 σ s) (i : Nat) : Rel c H N0 (σ.set i none) (s.set i .no) := by
  have sub : ∀ a, Nof N0 (σ.set i none) (s.set i .no) a → Nof N0 σ s a := fun a => Nof_set fun d z => nomatch z
  refine ⟨by simpa using R.len, fun j e h => ?_, fun j e h => ?_, fun j l e f a h1 h2 h3 h4 => ?_, R.dom, R.bet⟩
  · rcases get_set h with ⟨rfl, e⟩ | ⟨ne, h⟩
    · cases e
    · obtain ⟨w, h1, h2⟩ := R.vl j e h
      exact ⟨w, by rw [List.getElem?_set_ne (Ne.symm ne)]; exact h1, h2.sub sub⟩
  · rcases get_set h with ⟨rfl, e⟩ | ⟨ne, h⟩
    · cases e
    · obtain ⟨a, h1, h2, h3⟩ := R.ow j e h
      exact ⟨a, by rw [List.getElem?_set_ne (Ne.symm ne)]; exact h1, h2.sub sub, h3⟩
  · rcases get_set h1 with ⟨_, e⟩ | ⟨n1, h1⟩
    · cases e
    rcases get_set h2 with ⟨_, e⟩ | ⟨n2, h2⟩
    · cases e
    rw [List.getElem?_set_ne (Ne.symm n1)] at h3
    rw [List.getElem?_set_ne (Ne.symm n2)] at h4
    exact R.dis j l e f a h1 h2 h3 h4
/-- the same slots, the box and the heap as they are, forgotten in the text's slots too or not -/
theorem Rel.kill (R : Rel c H N0 σ s) : ∀ is : List Nat, Rel c H N0 (wipe σ is) (s.kill is)
  | [] => R
  | i :: is => (R.kill is).setNo i
theorem wipe_get {is : List Nat} {j : Nat} (h : j ∉ is) : (wipe σ is)[j]? = σ[j]? := by
  induction is with
  | nil => rfl
  | cons i is ih =>
    have h1 : j ≠ i := fun e => h (by simp [e])
    have h2 : j ∉ is := fun e => h (by simp [e])
    unfold wipe
    rw [List.getElem?_set_ne (Ne.symm h1)]
    exact ih h2
theorem kill_get {is : List Nat} {j : Nat} (h : j ∉ is) : (s.kill is)[j]? = s[j]? := by
  induction is with
  | nil => rfl
  | cons i is ih =>
    have h1 : j ≠ i := fun e => h (by simp [e])
    have h2 : j ∉ is := fun e => h (by simp [e])
    unfold Env.kill
    rw [List.getElem?_set_ne (Ne.symm h1)]
    exact ih h2
theorem kill_len (is : List Nat) : (s.kill is).length = s.length := by
  induction is with
  | nil => rfl
  | cons i is ih => unfold Env.kill; rw [List.length_set, ih]
theorem wipe_in {is : List Nat} {j : Nat} (h : j ∈ is) (hj : j < σ.length) : (wipe σ is)[j]? = some none := by
  induction is with
  | nil => cases h
  | cons i is ih =>
    unfold wipe
    by_cases e : j = i
    · subst e
      exact List.getElem?_set_self (by rw [wipe_length]; exact hj)
    · rw [List.getElem?_set_ne (Ne.symm e)]
      exact ih ((List.mem_cons.mp h).resolve_left e)
theorem wipe_eq {is : List Nat} (hl : σ'.length = σ.length) (h : ∀ j, j ∉ is → σ'[j]? = σ[j]?) : wipe σ' is = wipe σ is := by
  refine List.ext_getElem? fun j => ?_
  by_cases hj : j ∈ is
  · by_cases hn : j < σ.length
    · rw [wipe_in hj hn, wipe_in hj (by rw [hl]; exact hn)]
    · rw [List.getElem?_eq_none (by rw [wipe_length]; omega), List.getElem?_eq_none (by rw [wipe_length]; omega)]
  · rw [wipe_get hj, wipe_get hj, h j hj]
/-- a reading of a target -/
def rdG (c : Cc) (t : MT) : TG := fun v σ H Q => ∃ N0 s d s', Rel c H N0 σ s ∧ Rep c H (Nof N0 σ s) d v ∧ bindT t d s = some s' ∧
  ∀ σ', Rel c H N0 σ' s' → σ'.length = σ.length → (∀ j, j ∉ tSlots t → σ'[j]? = σ[j]? ∧ s'[j]? = s[j]?) → (∀ a, Nof N0 σ' s' a → Nof N0 σ s a) → Q σ' H
def rdGs (c : Cc) (ts : MTs) : TGs := fun vs σ H Q => ∃ N0 s ds s', Rel c H N0 σ s ∧ RepL c H (Nof N0 σ s) ds vs ∧ bindTs ts ds s = some s' ∧
  ∀ σ', Rel c H N0 σ' s' → σ'.length = σ.length → (∀ j, j ∉ tSlotsL ts → σ'[j]? = σ[j]? ∧ s'[j]? = s[j]?) → (∀ a, Nof N0 σ' s' a → Nof N0 σ s a) → Q σ' H
theorem rdG_slot {i : Nat} {Q : L2.St → Hp → Prop} (h : rdG c (.slot i) v σ H Q) : gName i v σ H Q := by
  obtain ⟨N0, s, d, s', R, r, e, h⟩ := h
  have e' : (if i < s.length then some (s.set i (.vl d)) else none) = some s' := e
  split at e'
  · rename_i hi
    cases e'
    refine h _ (R.setVl r i hi) (by simp) (fun j hj => ?_) fun a => Nof_set fun d z => nomatch z
    have : i ≠ j := fun e => hj (by simp [tSlots, e])
    exact ⟨List.getElem?_set_ne this, List.getElem?_set_ne this⟩
  · cases e'
theorem rdGs_nil {vs : List V} {Q : L2.St → Hp → Prop} (h : rdGs c .nil vs σ H Q) : gNil vs σ H Q := by
  obtain ⟨N0, s, ds, s', R, r, e, h⟩ := h
  cases ds with
  | nil =>
    cases r
    cases e
    exact ⟨rfl, h σ R rfl (fun _ _ => ⟨rfl, rfl⟩) fun _ z => z⟩
  | cons d ds => cases e
theorem RepL.sub {ds : List D} {vs : List V} {N N' : Addr → Prop} (r : RepL c H N ds vs) (h : ∀ a, N' a → N a) : RepL c H N' ds vs := RepL.anti (fun a z => .inl (h a z)) ds vs r
theorem rdGs_cons {t : MT} {ts : MTs} {vs : List V} {Q : L2.St → Hp → Prop} (h : rdGs c (.cons t ts) vs σ H Q) : gCons (rdG c t) (rdGs c ts) vs σ H Q := by
  obtain ⟨N0, s, ds, s', R, r, e, h⟩ := h
  cases ds with
  | nil => cases e
  | cons d ds =>
    obtain ⟨v, ws, rfl, h1, h2⟩ := r
    have e' : (match bindT t d s with | some s1 => bindTs ts ds s1 | none => none) = some s' := e
    cases e1 : bindT t d s with
    | none => rw [e1] at e'; cases e'
    | some s1 =>
      rw [e1] at e'
      refine ⟨v, ws, rfl, N0, s, d, s1, R, h1, e1, fun σ1 R1 hl hs hn => ?_⟩
      refine ⟨N0, s1, ds, s', R1, h2.sub hn, e', fun σ2 R2 hl2 hs2 hn2 => ?_⟩
      refine h σ2 R2 (hl2.trans hl) (fun j hj => ?_) fun a z => hn a (hn2 a z)
      have hj1 : j ∉ tSlots t := fun z => hj (List.mem_append_left _ z)
      have hj2 : j ∉ tSlotsL ts := fun z => hj (List.mem_append_right _ z)
      exact ⟨(hs2 j hj2).1.trans (hs j hj1).1, (hs2 j hj2).2.trans (hs j hj1).2⟩
def mtLen : MTs → Nat
  | .nil => 0
  | .cons _ r => mtLen r + 1
theorem bindTs_len : ∀ {ts : MTs} {ds : List D} {s s' : Env}, bindTs ts ds s = some s' → ds.length = mtLen ts
  | .nil, [], _, _, _ => rfl
  | .nil, _ :: _, _, _, e => by cases e
  | .cons _ _, [], _, _, e => by cases e
  | .cons t ts, d :: ds, s, s', e => by
    have e' : (match bindT t d s with | some s1 => bindTs ts ds s1 | none => none) = some s' := e
    cases e1 : bindT t d s with
    | none => rw [e1] at e'; cases e'
    | some s1 =>
      rw [e1] at e'
      show ds.length + 1 = mtLen ts + 1
      rw [bindTs_len e']
theorem rdG_tup {ts : MTs} {Q : L2.St → Hp → Prop} {K : PySem.W.Frag} (h : rdG c (.tup ts) v σ H Q) : gTup K (mtLen ts) (rdGs c ts) v σ H Q := by
  obtain ⟨N0, s, d, s', R, r, e, h⟩ := h
  cases d <;> first | (cases e; done) | skip
  obtain ⟨a, xs, rfl, n, h1, q⟩ := r
  have e' : bindTs ts _ s = some s' := e
  exact ⟨a, xs, rfl, .of h1, by rw [← q.length]; exact bindTs_len e', N0, s, _, s', R, q, e', h⟩
end
end Mi
namespace Mi
open PySem L2
theorem star_ns {a : Expr} {r : List Expr} {env : PySem.Env} (h : isStar a = false) : starEach (a :: r) env = (false, eval a env) :: starEach r env := by
  cases a <;> first | rfl | cases h
section
variable {c : Cc} {cf : Cfg} {W : WX} {σ σ' : L2.St} {H H1 H2 H' : Hp} {N : Addr → Prop} {N0 N1 : Addr → Prop} {s s' : Env} {b : Bx} {d : D} {v : V}
/-- lists, tuples, texts -/
def iAny (K : PySem.W.Frag) (te : TE) : TI := fun σ H R => te σ H fun x H1 => (∃ a xs, x = .ref a ∧ SqL K H1 a xs ∧ R (Itl K a) H1) ∨ (∃ a xs, x = .ref a ∧ SqT K H1 a xs ∧ R (Itt K a) H1) ∨ (∃ z, x = .str z ∧ R (Its z) H1)
theorem pi_any {X : Cx} {tg l : Expr} {tl : TE} (hl : PE X l tl) : PI X tg l (iAny X.K tl) := by
  refine ⟨fun pins s σ H R I h => ?_⟩
  refine thn (hl.run pins s σ H _ I h) fun v s1 ⟨x, H1, I1, r1, q1⟩ => ?_
  rcases q1 with ⟨a, xs, e, hq, q⟩ | ⟨a, xs, e, hq, q⟩ | ⟨z, e, q⟩
  · subst e
    cases r1
    obtain ⟨its, rv, p, hz⟩ := I1.list hq
    refine wpAny_pyIter_list p.isList ?_
    refine ⟨s1.heap.objs.size, [s1.heap.objs.size], _, _, H1, rfl, I1.kept (t' := s1.toks) fun b o e => Heap.get?_push_of_some _ e, turn_list a _, ⟨_, Heap.get?_push_size _ rfl, rfl, rfl⟩, fun b hb => ?_, q⟩
    have e : b = s1.heap.objs.size := by simpa using hb
    subst e
    exact I1.fpOk (Nat.le_refl _) (I1.hok.fresh (Nat.le_refl _))
  · subst e
    cases r1
    obtain ⟨its, rv, p, hz⟩ := I1.tuple hq
    refine wpAny_pyIter_tuple (show s1.heap.IsTuple a its.toArray from p) ?_
    refine ⟨s1.heap.objs.size, [s1.heap.objs.size], _, _, H1, rfl, I1.kept (t' := s1.toks) fun b o e => Heap.get?_push_of_some _ e, turn_tuple a _, ⟨_, Heap.get?_push_size _ rfl, rfl, rfl⟩, fun b hb => ?_, q⟩
    have e : b = s1.heap.objs.size := by simpa using hb
    subst e
    exact I1.fpOk (Nat.le_refl _) (I1.hok.fresh (Nat.le_refl _))
  · subst e
    obtain ⟨t, rfl⟩ := r1
    cases ha : z.cps.all (· < 128)
    · exact wpAny_pyIter_wide ha (pi_one (tk := s1.toks) I1 _ (turn_str _ z t "str_iterator" (.inr rfl)) ⟨_, Heap.get?_push_size _ rfl, rfl, rfl⟩ q)
    · exact wpAny_pyIter_ascii ha (pi_one (tk := s1.toks) I1 _ (turn_str _ z t "str_ascii_iterator" (.inl rfl)) ⟨_, Heap.get?_push_size _ rfl, rfl, rfl⟩ q)
/-- where N2 stands for what is protected -/
def selN (w : Bool) (N0 N : Addr → Prop) : Addr → Prop := if w = true then N0 else N
/-- a value, weakly or not -/
abbrev pV (c : Cc) (w : Bool) : Hp → Hp → (Addr → Prop) → (Addr → Prop) → D → V → Prop := fun _ H' N0 N d v => RepW c H' (selN w N0 N) N d v
/-- a source: the items ds come one by one while what N2 does not protect stays -/
def Src (c : Cc) (N2 N : Addr → Prop) (H' : Hp) (ds : List D) (J : It) : Prop := ∃ (n : Nat) (G : Hp → Prop) (Y : Nat → Hp → V → Hp → Prop), n = ds.length ∧ Walk J n G Y ∧ (∀ H2, KeepN N2 H' H2 → G H2) ∧
  ∀ i H2 x H3 d (N3 : Addr → Prop), KeepN N2 H' H2 → (∀ a, N3 a → N a ∨ H' a = none) → (∀ a, N3 a → H2 a ≠ none) → (∀ b, c.β = some b → N3 b) → ds[i]? = some d → Y i H2 x H3 →
    (∀ a o, H2 a = some o → H3 a = some o) ∧ Rep c H3 N3 d x
abbrev pS (c : Cc) (w : Bool) : Hp → Hp → (Addr → Prop) → (Addr → Prop) → List D → It → Prop := fun _ H' N0 N ds J => Src c (selN w N0 N) N H' ds J
theorem sel_sub {w : Bool} (h : ∀ a, N0 a → N a) : ∀ a, selN w N0 N a → N a := by
  intro a z
  unfold selN at z
  split at z
  · exact h a z
  · exact z
/-- an item later -/
theorem Rep.move {N2 N3 : Addr → Prop} (r : Rep c H' N d v) (k : KeepN N2 H' H2) (h2 : ∀ a, N2 a → N a) (h3 : ∀ a, N3 a → N a ∨ H' a = none) : Rep c H2 N3 d v := by
  have r1 : Rep c H' (fun a => N a ∨ N3 a) d v := Rep.anti (fun a z => z.elim .inl (h3 a)) d v r
  have r2 := Rep.keepN (N := fun a => N a ∨ N3 a) (fun a o n h => k a o (fun z => n (.inl (h2 a z))) h) d v r1
  exact r2.sub fun a z => .inr z
theorem RepL.move {N2 N3 : Addr → Prop} {ds : List D} {vs : List V} (r : RepL c H' N ds vs) (k : KeepN N2 H' H2) (h2 : ∀ a, N2 a → N a) (h3 : ∀ a, N3 a → N a ∨ H' a = none) : RepL c H2 N3 ds vs := by
  have r1 : RepL c H' (fun a => N a ∨ N3 a) ds vs := RepL.anti (fun a z => z.elim .inl (h3 a)) ds vs r
  have r2 := RepL.keepN (N := fun a => N a ∨ N3 a) (fun a o n h => k a o (fun z => n (.inl (h2 a z))) h) ds vs r1
  exact r2.sub fun a z => .inr z
theorem get_both {ds : List D} {vs : List V} {i : Nat} {d : D} {x : V} (r : RepL c H N ds vs) (h1 : ds[i]? = some d) (h2 : vs[i]? = some x) : Rep c H N d x := by
  obtain ⟨v, e, q⟩ := r.get h1
  rw [e] at h2
  cases h2
  exact q
variable {N2 : Addr → Prop}
theorem src_lst {a : Addr} {vs : List V} {ds : List D} {K : PySem.W.Frag} (hs : ∀ a, N2 a → N a) (n : ¬ N2 a) (h1 : H' a = some (.lst vs)) (q : RepL c H' N ds vs) : Src c N2 N H' ds (Itl K a) :=
  ⟨vs.length, _, _, q.length.symm, walk_list, fun H2 k => .of (k a _ n h1), fun i H2 x H3 d N3 k h3 _ _ e y => by
    obtain ⟨rfl, y⟩ := y
    exact ⟨fun _ _ h => h, (get_both q e y).move k hs h3⟩⟩
theorem src_tup {a : Addr} {vs : List V} {ds : List D} {K : PySem.W.Frag} (hs : ∀ a, N2 a → N a) (n : ¬ N2 a) (h1 : H' a = some (.tup vs)) (q : RepL c H' N ds vs) : Src c N2 N H' ds (Itt K a) :=
  ⟨vs.length, _, _, q.length.symm, walk_tup, fun H2 k => .of (k a _ n h1), fun i H2 x H3 d N3 k h3 _ _ e y => by
    obtain ⟨rfl, y⟩ := y
    exact ⟨fun _ _ h => h, (get_both q e y).move k hs h3⟩⟩
theorem src_str {z : Str} (hz : strFits z = true) : Src c N2 N H' (strItems z) (Its z) :=
  ⟨z.cps.size, _, _, by simp [strItems], walk_str, fun _ _ => trivial, fun i H2 x H3 d N3 k h3 _ _ e y => by
    obtain ⟨rfl, ch, h1, rfl⟩ := y
    refine ⟨fun _ _ h => h, ?_⟩
    unfold strItems at e
    rw [List.getElem?_map, Array.getElem?_toList, h1] at e
    cases e
    exact ⟨rfl, one_fits hz (by
      have := Array.mem_of_getElem? h1
      simpa using this)⟩⟩
theorem src_range {lo : Int} {n : Nat} : Src c N2 N H' (upTo lo n) (Itr lo n) :=
  ⟨n, _, _, by simp [upTo], walk_range, fun _ _ => trivial, fun i H2 x H3 d N3 k h3 _ _ e y => by
    obtain ⟨rfl, rfl⟩ := y
    refine ⟨fun _ _ h => h, ?_⟩
    unfold upTo at e
    rw [List.getElem?_map] at e
    by_cases hi : i < n
    · rw [List.getElem?_range hi] at e
      cases e
      rfl
    · rw [List.getElem?_eq_none (by simpa using hi)] at e
      cases e⟩
theorem enum_get : ∀ {ds : List D} {k i : Nat} {d : D}, (enumD k ds)[i]? = some d → ∃ x, ds[i]? = some x ∧ d = .tup [.int ((k + i : Nat) : Int), x]
  | [], _, _, _, h => by simp [enumD] at h
  | y :: ds, k, 0, d, h => by
    simp [enumD] at h
    exact ⟨y, by simp, by simp [← h]⟩
  | y :: ds, k, i + 1, d, h => by
    obtain ⟨x, h1, h2⟩ := enum_get (ds := ds) (k := k + 1) (i := i) (d := d) (by simpa [enumD] using h)
    exact ⟨x, by simpa using h1, by rw [h2]; congr 4; omega⟩
theorem enum_len : ∀ {ds : List D} {k : Nat}, (enumD k ds).length = ds.length
  | [], _ => rfl
  | _ :: ds, k => by simp [enumD, enum_len (ds := ds)]
theorem pair_new {T : Addr} {N3 : Addr → Prop} {x y : D} {u v : V} (hT : H2 T = none) (h4 : ∀ a, N3 a → H2 a ≠ none) (h5 : ∀ b, c.β = some b → N3 b) (r1 : Rep c H2 N3 x u) (r2 : Rep c H2 N3 y v) :
    (∀ a o, H2 a = some o → upd H2 T (.tup [u, v]) a = some o) ∧ Rep c (upd H2 T (.tup [u, v])) N3 (.tup [x, y]) (.ref T) := by
  refine ⟨same_laid hT, ?_⟩
  exact newTup hT ⟨u, _, rfl, r1, v, _, rfl, r2, rfl⟩ h5 h4
theorem src_enumL {a : Addr} {vs : List V} {ds : List D} {K : PySem.W.Frag} (hs : ∀ a, N2 a → N a) (n : ¬ N2 a) (h1 : H' a = some (.lst vs)) (q : RepL c H' N ds vs) : Src c N2 N H' (enumD 0 ds) (Ite K a) :=
  ⟨vs.length, _, _, by rw [enum_len, q.length], walk_enum, fun H2 k => .of (k a _ n h1), fun i H2 x H3 d N3 k h3 h4 h5 e y => by
    obtain ⟨T, u, w, rfl, hT, rfl, e1, e2⟩ := y
    obtain ⟨z, e3, rfl⟩ := enum_get e
    cases e1
    rw [Nat.zero_add]
    exact pair_new hT h4 h5 rfl ((get_both q e3 e2).move k hs h3)⟩
theorem zip_get : ∀ {xs ys : List D} {i : Nat} {d : D}, (zipD xs ys)[i]? = some d → ∃ x y, xs[i]? = some x ∧ ys[i]? = some y ∧ d = .tup [x, y]
  | [], _, _, _, h => by simp [zipD] at h
  | _ :: _, [], _, _, h => by simp [zipD] at h
  | x :: xs, y :: ys, 0, d, h => by
    simp [zipD] at h
    exact ⟨x, y, by simp, by simp, h.symm⟩
  | x :: xs, y :: ys, i + 1, d, h => by
    obtain ⟨u, v, h1, h2, h3⟩ := zip_get (xs := xs) (ys := ys) (i := i) (d := d) (by simpa [zipD] using h)
    exact ⟨u, v, by simpa using h1, by simpa using h2, h3⟩
theorem zip_len : ∀ {xs ys : List D}, (zipD xs ys).length = min xs.length ys.length
  | [], _ => by simp [zipD]
  | _ :: _, [] => by simp [zipD]
  | x :: xs, y :: ys => by simp [zipD, zip_len (xs := xs) (ys := ys)]
theorem src_zipL {a a2 : Addr} {vs vs2 : List V} {ds ds2 : List D} {K : PySem.W.Frag} (hs : ∀ a, N2 a → N a) (n : ¬ N2 a) (h1 : H' a = some (.lst vs)) (q : RepL c H' N ds vs) (n2 : ¬ N2 a2) (h2 : H' a2 = some (.lst vs2)) (q2 : RepL c H' N ds2 vs2) :
    Src c N2 N H' (zipD ds ds2) (Itz K a a2) :=
  ⟨min vs.length vs2.length, _, _, by rw [zip_len, q.length, q2.length], walk_zip rfl, fun H2 k => ⟨.of (k a _ n h1), .of (k a2 _ n2 h2)⟩, fun i H2 x H3 d N3 k h3 h4 h5 e y => by
    obtain ⟨T, u, w, rfl, hT, rfl, e1, e2⟩ := y
    obtain ⟨z, z2, e3, e4, rfl⟩ := zip_get e
    exact pair_new hT h4 h5 ((get_both q e3 e1).move k hs h3) ((get_both q2 e4 e2).move k hs h3)⟩
theorem walk_zipT {K : PySem.W.Frag} {a b : Addr} {xs ys : List V} : Walk (RZ.ItzT K a b) (min xs.length ys.length) (fun H => SqT K H a xs ∧ SqT K H b ys) (YPair (fun i => xs[i]?) (fun i => ys[i]?)) := by
  refine ⟨fun i _ hi q => ?_, fun _ q => ⟨xs, ys, q.1, q.2, by omega⟩, fun i H v H' _ q y => ?_⟩
  · have h1 : i < xs.length := by omega
    have h2 : i < ys.length := by omega
    exact ⟨xs, ys, xs[i], ys[i], q.1, q.2, by simp [h1], by simp [h2]⟩
  · obtain ⟨T, x, z, h1, h2, h3, h4, h5⟩ := y
    exact ⟨T, x, z, h1, h2, h3, h4 xs q.1, h5 ys q.2⟩
theorem src_zipT {a a2 : Addr} {vs vs2 : List V} {ds ds2 : List D} {K : PySem.W.Frag} (hs : ∀ a, N2 a → N a) (n : ¬ N2 a) (h1 : H' a = some (.tup vs)) (q : RepL c H' N ds vs) (n2 : ¬ N2 a2) (h2 : H' a2 = some (.tup vs2)) (q2 : RepL c H' N ds2 vs2) :
    Src c N2 N H' (zipD ds ds2) (RZ.ItzT K a a2) :=
  ⟨min vs.length vs2.length, _, _, by rw [zip_len, q.length, q2.length], walk_zipT, fun H2 k => ⟨.of (k a _ n h1), .of (k a2 _ n2 h2)⟩, fun i H2 x H3 d N3 k h3 h4 h5 e y => by
    obtain ⟨T, u, w, rfl, hT, rfl, e1, e2⟩ := y
    obtain ⟨z, z2, e3, e4, rfl⟩ := zip_get e
    exact pair_new hT h4 h5 ((get_both q e3 e1).move k hs h3) ((get_both q2 e4 e2).move k hs h3)⟩
end
section
open PySem PySem.Spec PyProof.Rows
set_option maxHeartbeats 4000000 in
theorem meets_enum_1 {v : Value} {o : Obj} {H : Heap → Prop} (B : Begins v o H) :
    Meets (Builtin.«enumerate.__new__» ⟨[.type "enumerate", v], []⟩) (fun _ R s => H s.heap ∧
      R (.ok (.ret (.ref (s.heap.push o).objs.size))) { s with heap := (s.heap.push o).push { cls := .type "enumerate", data := .fields #[.none, .bool false, .ref s.heap.objs.size, rawInt 0, .none, .none] } }) :=
  .of_wp fun prog w A R s h => by
    obtain ⟨hp, g, d, tk, os⟩ := s; obtain ⟨h1, h⟩ := h
    have hsub := sub_enumerate
    have q1 : ∀ {A' : Around} {E : Value → Shared → Prop} {Q : Value → Shared → Prop}, Q (.ref hp.objs.size) ⟨hp.push o, g, d, tk, os⟩ → wpAny (model prog w) A' (pyIter v) Q E ⟨hp, g, d, tk, os⟩ :=
      fun q => B.iter prog w _ _ ⟨hp, g, d, tk, os⟩ _ h1 q
    wp_walk using q1
    refine wpAny_stack_any fun st => wpAny_pure ?_
    split
    · rename_i c _ _ _ _ _
      cases (c == Value.type "enumerate")
      · wp_walk using q1
        exact ⟨_, rfl, h⟩
      · wp_walk using q1
        exact ⟨_, rfl, h⟩
    · wp_walk using q1
      exact ⟨_, rfl, h⟩
theorem enum_begins1 {prog : Program} {w : World} {A : Around} {E : Value → Shared → Prop} {s : Shared} {v : Value} {o : Obj} {H : Heap → Prop} {Q : Value → Shared → Prop} (B : Begins v o H) (h1 : H s.heap)
    (h : ∀ h', IsEnum h' (s.heap.objs.size + 1) s.heap.objs.size 0 .none → h'.get? s.heap.objs.size = some o → h'.objs.size = s.heap.objs.size + 2 →
      (∀ b o, s.heap.get? b = some o → h'.get? b = some o) → Q (.ref (s.heap.objs.size + 1)) { s with heap := h' }) :
    wpAny (model prog w) A (call (.type "enumerate") [v]) Q E s := by
  refine callType_new F.called_enumerate (by decide) (F.typeCall_enumerate_1 _) (F.newCall_enumerate_1 _) (fun obj => F.args_object_init_2 obj _) F.entry_enumerate_new
    (meets_enum_1 B) ⟨h1, ?_⟩
  have hz : (s.heap.push o).objs.size = s.heap.objs.size + 1 := Heap.size_push ..
  show _ ∧ _
  rw [hz]
  have he : IsEnum ((s.heap.push o).push { cls := .type "enumerate", data := .fields #[.none, .bool false, .ref s.heap.objs.size, rawInt 0, .none, .none] }) (s.heap.objs.size + 1) s.heap.objs.size 0 .none := by
    have := Heap.get?_push_size (s.heap.push o) (o := { cls := .type "enumerate", data := .fields #[.none, .bool false, .ref s.heap.objs.size, rawInt 0, .none, .none] }) rfl
    rw [hz] at this; exact this
  refine ⟨⟨_, he, rfl⟩, h _ he (Heap.get?_push_of_some _ (Heap.get?_push_size _ B.free)) (by rw [Heap.size_push, hz]) fun b o x => Heap.get?_push_of_some _ (Heap.get?_push_of_some _ x)⟩
/-- the tuple at a, each item in a new pair -/
def IteT (K : PySem.W.Frag) (a : Addr) : It :=
  ⟨fun i H => ∃ (xs : List V) (x : V), SqT K H a xs ∧ xs[i]? = some x, fun i H v H' => ∃ T x, v = .ref T ∧ H T = none ∧ H' = upd H T (.tup [.int (i : Nat), x]) ∧ ∀ xs, SqT K H a xs → xs[i]? = some x, fun i H => ∃ xs : List V, SqT K H a xs ∧ xs.length ≤ i⟩
theorem turn_enumT {P : Program} {w : World} {K : PySem.W.Frag} {elts : List Expr} {kk : Nat} {tpos : Pos} (a e it : Addr) (hne : e ≠ it) (hae : a ≠ e) (hai : a ≠ it) :
    Turn P w K (.Tuple elts kk tpos) (IteT K a) [e, it] e (fun i h => (∃ old, IsEnum h e it ((i : Nat) : Int) old) ∧ h.IsTupleIter it a i) where
  mem := by simp
  obj := fun i h st b hb => by
    obtain ⟨⟨old, he⟩, ⟨o, ho, hc, hd⟩⟩ := st
    have e' : b = e ∨ b = it := by simpa using hb
    rcases e' with z | z
    · rw [z]; exact ⟨_, he, fun v q => nomatch q⟩
    · rw [z]; exact ⟨o, ho, fun v q => by rw [hd] at q; cases q⟩
  keep := fun i h h' st k => let ⟨⟨old, he⟩, hi⟩ := st; ⟨⟨old, k e (by simp) _ he⟩, hi.at fun o q => k it (by simp) o q⟩
  item := by
    intro X hP hw hK hc i pins s σ H E I hf st hg
    subst hP hw hK
    obtain ⟨⟨old, he⟩, hit⟩ := st
    obtain ⟨xs, x, hq, hx⟩ := hg
    obtain ⟨its, rv, p, hz⟩ := I.tuple hq
    obtain ⟨u, hu, ru⟩ := rv.get hx
    have pT : s.heap.IsTuple a its.toArray := p
    have hel : e < s.heap.objs.size := Heap.lt_size he
    have hil : it < s.heap.objs.size := by obtain ⟨_, q, _⟩ := hit; exact Heap.lt_size q
    have hlen : i < its.toArray.size := by
      have := rv.length
      have h1 := (List.getElem?_eq_some_iff.mp hx).1
      simp; omega
    refine wpAny_pyNext_enum_itemC (Draws.tuple (A := X.A.in1) (I.ok.hd hc) it a hai its.toArray) he ⟨hit, pT⟩ hlen hne (by simp; exact ⟨hne, Ne.symm hae⟩) fun u' h' tk hP ho hit' hT hsz hk => ?_
    have eu : u' = u := by
      have hP : its.toArray[i]? = some u' := hP
      have h2 : its[i]? = some u' := by simpa using hP
      rw [hu] at h2
      exact (Option.some.inj h2).symm
    subst eu
    obtain ⟨hit', _⟩ := hit'
    refine ⟨_, rfl, wpAny_letOwnedTupleGo_enum (s := { s with heap := h', toks := tk + 1 }) ho fun h'' he' sb => ?_⟩
    have hT2 : h''.get? s.heap.objs.size = some { cls := .type "tuple", data := .seq #[.int i tk, u'] } := (sb.2 _ (Nat.ne_of_gt hel)).trans hT
    have new : ObjOk X.prog X.w (upd H s.heap.objs.size (.tup [.int (i : Nat), x])) h'' s.heap.objs.size (.tup [.int (i : Nat), x]) :=
      ⟨by show 2 ≤ sizeLine; decide, [.int i tk, u'], .cons ⟨_, rfl⟩ (.cons ru .nil), ⟨_, hT2, rfl, _, rfl⟩⟩
    have I1 : Inv X pins σ (upd H s.heap.objs.size (.tup [.int (i : Nat), x])) { s with heap := h'', toks := tk + 1 } :=
      I.turnedNew (ch := [e, it]) (fun b ob hb q => (sb.2 b (fun z => hb (by simp [z]))).trans (hk b ob (fun z => hb (by simp [z])) (fun z => hb (by simp [z])) q)) hf (Nat.le_refl _) new
    refine ⟨.ref s.heap.objs.size, _, I1, rfl, ⟨_, x, rfl, I.hok.fresh (Nat.le_refl _), rfl, fun ys hy => by rw [I.tuple_inj hy hq]; exact hx⟩, ⟨⟨u', ?_⟩, hit'.at fun o q => (sb.2 it (Ne.symm hne)).trans q⟩, fun b hb => ?_⟩
    · have e1 : ((i + 1 : Nat) : Int) = (i : Int) + 1 := by omega
      rw [e1]; exact he'
    · have hb' : b < s.heap.objs.size := by
        have e' : b = e ∨ b = it := by simpa using hb
        rcases e' with z | z
        · rw [z]; exact hel
        · rw [z]; exact hil
      rw [upd_ne (Nat.ne_of_lt hb')]
      exact (hf b hb).1
  done := by
    intro X hP hw hK hc i pins s σ H E I hf st hg
    subst hP hw hK
    obtain ⟨⟨old, he⟩, hit⟩ := st
    obtain ⟨xs, hq, hx⟩ := hg
    obtain ⟨its, rv, p, hz⟩ := I.tuple hq
    have pT : s.heap.IsTuple a its.toArray := p
    have hl := rv.length
    have hT : s.TypeIs (.ref e) "enumerate" := ⟨_, he, rfl⟩
    unfold pyNext
    refine wpAny_bind (wpAny_attempt (wpAny_callSpecial?_slot (name := Str.ofString "__next__") hT F.slot_enumerate_next
      (wpAny_call_entry F.slot_enumerate_next hT F.entry_enumerate_next ?_ (F.args_enumerate_next_1 _))))
    show wpAny _ _ (field (.ref e) 2 >>= _) _ _ _
    refine wpAny_bind (wpAny_field he rfl (x := .ref it) rfl ?_)
    refine wpAny_bind (wpAny_nextOf_tuple_end (I.ok.hd hc) hit pT (by simp; omega) fun h' x eb hx' => ?_)
    obtain ⟨o, ho, hc⟩ := hx'
    refine wpAny_bind (wpAny_isInstance (T := "StopIteration") (b := true) ⟨o, ho, hc⟩ isSubtype_stop ?_)
    obtain ⟨f0, f1, f2, f3, f4, f5⟩ := hf it (by simp)
    exact wpAny_pure ⟨rfl, I.turned (t' := s.toks) (fun b o hb q => eb b o hb q) f0 f1 f3 f4 f5⟩
  self := fun A i s Q E st h => let ⟨⟨_, he⟩, _⟩ := st; wpAny_pyIter_enum he h
def iEnumA (K : PySem.W.Frag) (ta : TA) : TI := fun σ H R => ta σ H fun vs H1 => ∃ a xs, vs = [.ref a] ∧ ((SqL K H1 a xs ∧ R (Ite K a) H1) ∨ (SqT K H1 a xs ∧ R (IteT K a) H1))
theorem pi_enumA {X : Cx} {e : Expr} {ta : TA} {p pos tpos : Pos} {elts : List Expr} {kk : Nat} (hg : Gl X "enumerate") (hm : X.mg "enumerate" = none) (ha : PA X [e] ta) (hs : starEach [e] X.env = [(false, eval e X.env)] := by rfl) :
    PI X (.Tuple elts kk tpos) (.Call (.Name "enumerate" p) [e] [] pos) (iEnumA X.K ta) := by
  refine ⟨fun pins s σ H R I h => ?_⟩
  refine Call_ (ld_blt I hg hm boot_enumerate (PyProof.Rows.callWith_type1 (thn (ha.run pos pins s σ H _ I h) fun us s1 ⟨vs, H1, I1, r1, q1⟩ => ?_) hs rfl))
  obtain ⟨a, xs, ex, q1⟩ := q1
  subst ex
  have fresh2 : ∀ b ∈ [s1.heap.objs.size + 1, s1.heap.objs.size], FpOk X pins H1 b := fun b hb => by
    have e' : b = s1.heap.objs.size + 1 ∨ b = s1.heap.objs.size := by simpa using hb
    have hle : s1.heap.objs.size ≤ b := by
      rcases e' with z | z
      · rw [z]; exact Nat.le_add_right _ _
      · rw [z]; exact Nat.le_refl _
    exact I1.fpOk hle (I1.hok.fresh hle)
  cases r1 with
  | cons r rr =>
    cases rr
    cases r
    rcases q1 with ⟨hq, q⟩ | ⟨hq, q⟩
    · obtain ⟨its, rv, p', hz⟩ := I1.list hq
      refine call_enumerate_list p'.isList fun h' he hit hsz hk => wpAny_pyIter_enum he ?_
      have I2 : Inv X pins σ H1 { s1 with heap := h' } := I1.kept (t' := s1.toks) hk
      exact ⟨s1.heap.objs.size + 1, [s1.heap.objs.size + 1, s1.heap.objs.size], _, _, H1, rfl, I2, turn_enum a (s1.heap.objs.size + 1) s1.heap.objs.size, ⟨⟨.none, he⟩, hit, Nat.succ_ne_self _⟩, fresh2, q⟩
    · obtain ⟨its, rv, p', hz⟩ := I1.tuple hq
      have pT : s1.heap.IsTuple a its.toArray := p'
      have la : a < s1.heap.objs.size := by obtain ⟨o1, ho1, _⟩ := id p'; exact Heap.lt_size ho1
      refine enum_begins1 (begins_tuple a its.toArray) pT fun h' he hit hsz hk => wpAny_pyIter_enum he ?_
      have I2 : Inv X pins σ H1 { s1 with heap := h' } := I1.kept (t' := s1.toks) hk
      exact ⟨s1.heap.objs.size + 1, [s1.heap.objs.size + 1, s1.heap.objs.size], _, _, H1, rfl, I2, turn_enumT a (s1.heap.objs.size + 1) s1.heap.objs.size (Nat.succ_ne_self _) (Nat.ne_of_lt (Nat.lt_succ_of_lt la)) (Nat.ne_of_lt la), ⟨⟨.none, he⟩, ⟨_, hit, rfl, rfl⟩⟩, fresh2, q⟩
theorem walk_enumT {K : PySem.W.Frag} {a : Addr} {xs : List V} : Walk (IteT K a) xs.length (fun H => SqT K H a xs) (YPair (fun i => some (.int (i : Nat))) (fun i => xs[i]?)) := by
  refine ⟨fun i _ hi q => ⟨xs, xs[i], q, by simp [hi]⟩, fun _ q => ⟨xs, q, Nat.le_refl _⟩, fun i H v H' _ q y => ?_⟩
  obtain ⟨T, x, h1, h2, h3, h4⟩ := y
  exact ⟨T, .int (i : Nat), x, h1, h2, h3, rfl, h4 xs q⟩
end
section
variable {c : Cc} {H' : Hp} {N N2 : Addr → Prop}
theorem src_enumT {a : Addr} {vs : List V} {ds : List D} {K : PySem.W.Frag} (hs : ∀ a, N2 a → N a) (n : ¬ N2 a) (h1 : H' a = some (.tup vs)) (q : RepL c H' N ds vs) : Src c N2 N H' (enumD 0 ds) (IteT K a) :=
  ⟨vs.length, _, _, by rw [enum_len, q.length], walk_enumT, fun H2 k => .of (k a _ n h1), fun i H2 x H3 d N3 k h3 h4 h5 e y => by
    obtain ⟨T, u, w, rfl, hT, rfl, e1, e2⟩ := y
    obtain ⟨z, e3, rfl⟩ := enum_get e
    cases e1
    rw [Nat.zero_add]
    exact pair_new hT h4 h5 rfl ((get_both q e3 e2).move k hs h3)⟩
end
end Mi
namespace Mi
open PySem PySem.W PySem.Calls PyProof.Rows L2
open PySem.Builtin PySem.Builtin.ObjectAttr
/-- an exception of the class at C, its arguments at t, its dict -/
abbrev exR (C t : Addr) (d : Option Addr) : Obj := { cls := .ref C, dict := d, data := .fields #[.ref t, .none, .none, .none, .bool false, .none] }
/-- what the written part says of the class at C, straight over the built-in class B -/
structure ExK (K : Frag) (C : Addr) (B newId initId : String) (bmB : List Value) : Prop where
  fb : ExcBaseFacts B newId initId bmB
  kf : KxsFacts B initId
  pass : ∀ self, refuseLoop self "__setattr__" bmB = pure ()
  ob : bmB.contains (.type "object") = true
  cls : ∃ nm q N bs sn sub ab col dd k0 k1 k2 k3 k5, K.lookup C = some (excClassObj nm q C N bs bmB true sn sub ab col dd k0 k1 k2 k3 k5 newId)
  sa : findIn K (.ref C) "__setattr__" = some (some (.builtin "object.__setattr__"))
  al : alongIn K "__init__" bmB = some (some (.builtin initId))
  opq : nsIn K cStatics "thirdparty.any" = some none
section
variable {prog : Program} {w : World} {A : Around} {R : Result → Shared → Prop} {K : Frag} {C : Addr} {B newId initId : String} {bmB : List Value} {h : Heap} {g : Array GenState} {d : Drawn} {t : Nat} {os : OsState}
theorem ExK.clsIn (T : ExK K C B newId initId bmB) : ∃ cd, clsIn K C = some cd ∧ cd.mro = .ref C :: bmB ∧ cd.hasDict = true := by
  obtain ⟨nm, q, N, bs, sn, sub, ab, col, dd, k0, k1, k2, k3, k5, hC⟩ := T.cls
  refine ⟨{ name := nm, bases := bs, mro := .ref C :: bmB, ns := N, qualname := q, hasDict := true, slotNames := sn, subclasses := sub, abstract := ab, collection := col, hasDel := false }, ?_, rfl, rfl⟩
  unfold PySem.W.clsIn
  rw [hC] <;> rfl
theorem mro_in (T : ExK K C B newId initId bmB) {b : Value} (hb : (Value.ref C :: bmB).contains b = true) : mroIn K C b = some true := by
  obtain ⟨cd, h1, h2, _⟩ := T.clsIn
  unfold mroIn
  rw [h1, Option.bind_some, h2, if_neg (show ¬ (List.isEmpty (Value.ref C :: bmB) = true) from Bool.false_ne_true), hb]
/-- the first store on such an exception lays its dict -/
theorem ex_store (T : ExK K C B newId initId bmB) {name : Str} {tk : Tok} {v : Value} {x t1 : Addr} (X : K.In h) (hx : h.get? x = some (exR C t1 none)) (ha : findIn K (.ref C) name = some none)
    (hq : ∀ h' tk' dx, (∀ b o, b ≠ x → h.get? b = some o → h'.get? b = some o) → h.objs.size ≤ dx → dx ≠ x → h'.get? x = some (exR C t1 (some dx)) →
      h'.Ns1 dx (fun y => if y = name then some v else none) → R (.ok (.ret .none)) ⟨h', g, d, tk', os⟩) :
    codeAny (model prog w) A (.call (.builtin "object.__setattr__") ⟨[.ref x, .str name tk, v], []⟩) R ⟨h, g, d, t, os⟩ := by
  obtain ⟨cd, hcd, hm, hh⟩ := T.clsIn
  have I : InstAt h x (exR C t1 none) C none := ⟨hx, rfl, rfl, trivial⟩
  have SF := PySem.F.store_object
  have hxs : x ≠ h.objs.size := Nat.ne_of_lt (Heap.lt_size hx)
  have sub : Looks (model prog w) h (isInstance (.ref x) (.type "object")) true := I.type.andThen (looks_mroIn X (mro_in T (by rw [List.contains_cons, T.ob, Bool.or_true])))
  refine codeAny_call_builtin SF.slot.plain SF.entry (@check_slot (model prog w) _ _ ⟨h, g, d, t, os⟩ "object.__setattr__" "object" "__setattr__" (.ref x) [.str name tk, v] [] _ SF.kind SF.split sub (SF.args (.ref x) (.str name tk) v) ?_)
  have hmr : Looks (model prog w) h (mroOf (.ref C)) cd.mro := (looks_clsIn X hcd).andThen .now
  have L3 : Looks (model prog w) h (storeTaker? none) none := .now
  have hcls : Looks (model prog w) h (classData C) cd := looks_clsIn X hcd
  have hp : refuseLoop (.ref x) "__setattr__" cd.mro = pure () := by
    rw [hm, refuseLoop_ref]
    exact T.pass _
  rw [osa_eq, refuse_eq]
  refine wpAny_bind (wpAny_bind (I.type.at (wpAny_bind (hmr.at ?_))))
  rw [hp]
  refine wpAny_pure (wpAny_bind (I.type.at (wpAny_bind ((looks_findIn X ha).at (wpAny_bind (L3.at ?_))))))
  show wpAny _ _ (storeInOwnDict (.ref x) (.ref C) (.str name tk) name v false) _ _ _
  obtain ⟨nm, bs, mro, ns, qn, hd, sn, sb, ab, col, del⟩ := cd
  dsimp only at hh
  subst hh
  unfold storeInOwnDict ownDictForStores
  repeat (first | with_reducible refine HandSPX.store_in_new ?_ ?_ | with_reducible refine wpAny_loadPart_at hx ?_ | with_reducible refine hcls.at ?_ | wp_step)
  · exact ⟨_, #[], _, (Heap.get?_update_ne _ _ _ _ hxs.symm).trans (Heap.get?_push_at rfl rfl), rfl, fun e he => absurd he (by simp), fun _ => rfl⟩
  · intro h' tk' hn' hs
    have hx₁ : (h.push { cls := .type "dict", data := .dict #[] }).get? x = some (exR C t1 none) := Heap.get?_push_of_some _ hx
    refine hq h' tk' h.objs.size (fun b o hb ho => ?_) (Nat.le_refl _) hxs.symm ?_ hn'
    · exact (hs.2 b (Nat.ne_of_lt (Heap.lt_size ho))).trans ((Heap.get?_update_ne _ _ _ _ hb).trans (Heap.get?_push_of_some _ ho))
    · exact (hs.2 x hxs).trans (Heap.get?_update_self _ hx₁ rfl)
/-- the built-in __init__ bound to x, called -/
theorem ex_init (T : ExK K C B newId initId bmB) {u x t0 : Addr} {rest : List Value} {E : Value → Shared → Prop} {Q : Value → Shared → Prop} (X : K.In h) (hu : h.get? u = some (kxs_mw initId x)) (hx : h.get? x = some (exR C t0 none)) (hz : rest.length ≤ sizeLine)
    (hq : ∀ h' t1, (∀ b o, b ≠ x → h.get? b = some o → h'.get? b = some o) → h'.get? x = some (exR C t1 none) → Q .none ⟨h', g, d, t, os⟩) :
    wpAny (model prog w) A (call (.ref u) rest) Q E ⟨h, g, d, t, os⟩ := by
  obtain ⟨nm, q, N, bs, sn, sub, ab, col, dd, k0, k1, k2, k3, k5, hC⟩ := T.cls
  refine wpAny_call (codeAny_of_tree ?_)
  show wpAny _ A.in1 (callAny (.ref u) ⟨rest, []⟩) _ _ _
  simp only [callAny]
  refine wpAny_bind (wpAny_load hu ?_)
  have m1 : (Value.type "method-wrapper" == Value.type "method" || Value.type "method-wrapper" == Value.type "builtin_function_or_method" || Value.type "method-wrapper" == Value.type "method-wrapper") = true := by decide
  simp only [kxs_mw, m1, if_true]
  refine KFB.if_so (by decide) ?_
  refine wpAny_bind (check_bound_init T.fb.toExcCallFacts (X _ _ hC) hx rfl ?_)
  refine wpAny_bind (wpAny_pure (wpAny_pure ?_))
  refine ⟨plainId_quiet T.fb.init.plain _, codeAny_builtin T.fb.initEntry ?_⟩
  exact exc_init_tree (cls := .ref C) (t0 := t0) (dv := none) (c2 := .none) (c3 := .none) (b4 := .bool false) hx hz fun h' k e _ => hq h' _ k e
theorem meth_eq {o : Expr} {name : Str} {apos pos : Pos} {x : Str} {p4 : Pos} {env : PySem.Env} (hl : (apos.endLine == pos.line) = true) : PySem.eval (.Call (.Attribute o name apos) [.Name x p4] [] pos) env = (do
      let ov ← attributeBase o name env (PySem.eval o env)
      standAt apos.atName
      let (f, first) ← holding [ov] (getMethod ov name (do return (← importBound o env).getD true))
      callWith pos f first (backTo pos (starEach [.Name x p4] env)) []) := by
  rw [arm_eval_Call]
  refine bind_congr fun ov => bind_congr fun _ => ?_
  have hform : methodCallForm (([.Name x p4] : List Expr).length + ([] : List Keyword).length) (backTo pos (starEach [.Name x p4] env)) (backToKw pos (keywordEach [] env)) = true := rfl
  have hpos : methodCallPos true o env apos pos = pure pos := by unfold methodCallPos; simp [hl]
  unfold methodCall calleeOf
  rw [hform]
  simp only [if_true]
  refine bind_congr fun f => ?_
  rw [hpos, pure_bind]
  rfl
/-- the row of such an __init__ -/
def iniBody (me x f : Str) : List Stmt → Bool
  | [.Expr (.Call (.Attribute (.Call (.Name s0 _) [] [] _) m ap) [.Name y _] [] cp) _, .Assign [.Attribute (.Name s1 _) f1 _] (.Name z _) _] => decide (s0 = ("super" : Str)) && decide (m = ("__init__" : Str)) && decide (y = x) && decide (s1 = me) && decide (f1 = f) && decide (z = x) && (ap.endLine == cp.line)
  | _ => false
theorem ini_inv {me x f : Str} {body : List Stmt} (h : iniBody me x f body = true) : ∃ p1 p2 p3 p4 p5 p6 p7 p8 p9 p10, body = [.Expr (.Call (.Attribute (.Call (.Name "super" p1) [] [] p2) "__init__" p3) [.Name x p4] [] p5) p6, .Assign [.Attribute (.Name me p7) f p8] (.Name x p9) p10] ∧ (p3.endLine == p5.line) = true := by
  unfold iniBody at h
  split at h
  · simp only [Bool.and_eq_true, decide_eq_true_eq] at h
    obtain ⟨⟨⟨⟨⟨⟨h1, h2⟩, h3⟩, h4⟩, h5⟩, h6⟩, h7⟩ := h
    subst h1 h2 h3 h4 h5 h6
    exact ⟨_, _, _, _, _, _, _, _, _, _, rfl, h7⟩
  · cases h
/-- its names -/
def iniScope (me x : Str) (sc : Scope) : Bool := (match sc.kind with | .function => true | _ => false) && !sc.isCoroutine && !sc.isGenerator && decide (sc.names.lookup me = some .local) && decide (sc.names.lookup x = some .local) && decide (sc.names.lookup ("super" : Str) = some .globalImplicit) &&
  decide (sc.names.lookup ("__class__" : Str) = some .free) && (sc.names.all fun y => match y.2 with | .cell => false | _ => true) && decide (me ≠ x) && !(me == ("__debug__" : Str)) && !(x == ("__debug__" : Str))
/-- what the written part says of the def -/
structure IniK (prog : Program) (K : Frag) (C fI : Addr) (me x f : Str) (fd : FuncData) : Prop where
  fn : ∃ oc od osl, K.lookup fI = some ⟨oc, od, .func fd, osl⟩
  code : ∃ cda ccl cdd vs ccs file tf, fd.code = .ref cda ∧ K.lookup cda = some ⟨ccl, cdd, .fields vs, ccs⟩ ∧ vs[2]? = some (.str file tf) ∧ (prog.main.file == file) = true
  cin : codeIn K fd.code fd.qualname = true
  cell : ∃ cc cl cld csl, fd.closure = [(("__class__" : Str), cc)] ∧ K.lookup cc = some ⟨cl, cld, .cell (some (.ref C)), csl⟩
  glob : fd.globals = mainGlobals
  blt : fd.builtins = builtinsNs
  body : ∃ b, fd.body = .stmts b ∧ iniBody me x f b = true
  sc : iniScope me x fd.scope = true
  args : plainArgs [me, x] fd.params = true
  dfl : fd.defaults = .none
  top : (prog.main.scope.names.lookup ("super" : Str)).isSome = false
theorem ini_run {mg : Str → Option Value} {base : Heap} {fI e t0 : Addr} {me x f : Str} {fd : FuncData} {v : Value} (T : ExK K C B newId initId bmB) (J : IniK prog K C fI me x f fd) (Md : Mod K mg base) (kb : ∀ b o, base.get? b = some o → h.get? b = some o) (hs : mg "super" = none)
    (ha : findIn K (.ref C) f = some none) (hroom : A.depth < recursionLimit) (he : h.get? e = some (exR C t0 none)) (hbe : base.get? e = none)
    (hq : ∀ h' tk' t1 dx, (∀ b o, b ≠ e → h.get? b = some o → h'.get? b = some o) → h.objs.size ≤ dx → dx ≠ e → h'.get? e = some (exR C t1 (some dx)) → h'.Ns1 dx (fun y => if y = f then some v else none) → R (.ok (.ret .none)) ⟨h', g, d, tk', os⟩) :
    codeAny (model prog w) A (.call (.ref fI) ⟨[.ref e, v], []⟩) R ⟨h, g, d, t, os⟩ := by
  have X : K.In h := Md.kin.keeps kb
  obtain ⟨oc, od, osl, hfn⟩ := J.fn
  obtain ⟨cda, ccl, cdd, vs, ccs, file, tf, hc1, hc2, hc3, hc4⟩ := J.code
  obtain ⟨cc, cl, cld, csl, hcl1, hcl2⟩ := J.cell
  obtain ⟨bd, hb1, hb2⟩ := J.body
  obtain ⟨p1, p2, p3, p4, p5, p6, p7, p8, p9, p10, rfl, hline⟩ := ini_inv hb2
  have hsc := J.sc
  unfold iniScope at hsc
  simp only [Bool.and_eq_true, decide_eq_true_eq, Bool.not_eq_true'] at hsc
  obtain ⟨⟨⟨⟨⟨⟨⟨⟨⟨⟨s1, s2⟩, s3⟩, s4⟩, s5⟩, s6⟩, s7⟩, s8⟩, s9⟩, s10⟩, s11⟩ := hsc
  have hk : fd.scope.kind = .function := by
    cases e1 : fd.scope.kind <;> rw [e1] at s1 <;> first | rfl | cases s1
  have hnc : ∀ y ∈ fd.scope.names, y.2 ≠ .cell := fun y hy z => by
    have := List.all_eq_true.mp s8 y hy
    rw [z] at this
    cases this
  obtain ⟨mb, hmb1, hmb2⟩ := Md.blt
  have hbind : ∀ s, BindsTo s fd ⟨[.ref e, v], []⟩ [(me, .ref e), (x, v)] := fun s => by
    obtain ⟨nm, qn, pr, bo, sc, gl, cls, df, kd, dc, pm, an, cdv, ct, bl⟩ := fd
    have hdf : df = .none := J.dfl
    subst hdf
    have hgl : gl = mainGlobals := J.glob
    have hbl : bl = builtinsNs := J.blt
    subst hgl hbl
    have hp := bind_args (x := nm) (qual := qn) (body := []) (scope := sc) (kV := kd) (doc := dc) (pm := pm) (an := an) (cdv := cdv) (ct := ct) (params := pr) (ps := [me, x]) J.args (by simp [s9]) [.ref e, v] [] [] rfl rfl List.nodup_nil (fun k => by simp)
    refine .of_eq ?_
    have e0 : bindArgs ⟨nm, qn, pr, bo, sc, mainGlobals, cls, .none, kd, dc, pm, an, cdv, ct, builtinsNs⟩ ⟨[.ref e, v], []⟩ = bindArgs (fnOf nm qn pr [] sc .none kd dc pm an cdv ct) ⟨[.ref e, v], []⟩ := rfl
    rw [e0]
    refine hp.trans ?_
    have hne : (x == me) = false := beq_eq_false_iff_ne.mpr (Ne.symm s9)
    simp [List.lookup, hne]
  refine ks_codeAny_call_defAt (fd := fd) (binds := [(me, .ref e), (x, v)]) hroom (X _ _ hfn) rfl (Md.nolimit.keeps kb) (codeRec_of X J.cin) hb1 (hbind _) hnc (fun y hy => ?_) (fun h0 hns k0 => ?_) s2 s3 hk
  · rcases List.mem_cons.mp hy with rfl | hy
    · exact s4
    · rcases List.mem_cons.mp hy with rfl | hy
      · exact s5
      · cases hy
  have X0 : K.In h0 := X.keeps k0
  have kindOf : ∀ y, (callEnv fd h.objs.size fI).kindOf y = fd.scope.names.lookup y := fun y => rfl
  have hme : ([(me, Value.ref e), (x, v)].reverse.lookup me) = some (.ref e) := by
    have hne : (me == x) = false := beq_eq_false_iff_ne.mpr s9
    simp [List.lookup, hne]
  have hx : ([(me, Value.ref e), (x, v)].reverse.lookup x) = some v := by simp [List.lookup]
  have he0 := k0 _ _ he
  obtain ⟨cd, hcd, hmro, _⟩ := T.clsIn
  obtain ⟨nm, q, N, bs, sn, sub, ab, col, dd, kk0, kk1, kk2, kk3, kk5, hC⟩ := T.cls
  have hI : InstAt h0 e (exR C t0 none) C none := ⟨he0, rfl, rfl, trivial⟩
  obtain ⟨ar, ar2, hpa, hnm, hnm2⟩ : ∃ ar ar2, fd.params.posonlyargs ++ fd.params.args = [ar, ar2] ∧ ar.arg = me ∧ ar2.arg = x := by
    have h1 := J.args
    unfold plainArgs at h1
    simp only [Bool.and_eq_true, decide_eq_true_eq, List.isEmpty_iff] at h1
    obtain ⟨⟨⟨⟨h1, _⟩, _⟩, _⟩, h5⟩ := h1
    rw [h1, List.nil_append]
    rcases hl : fd.params.args with _ | ⟨a1, _ | ⟨a2, _ | ⟨_, _⟩⟩⟩ <;> rw [hl] at h5 <;> simp at h5
    exact ⟨a1, a2, rfl, h5.1, h5.2⟩
  have kb0 : ∀ b o, base.get? b = some o → h0.get? b = some o := fun b o z => k0 b o (kb b o z)
  have oL : h0.get? h.objs.size ≠ none := by
    obtain ⟨o, _, _, z, _⟩ := hns
    rw [z]
    exact fun y => nomatch y
  have eL : e ≠ h.objs.size := Nat.ne_of_lt (Heap.lt_size he)
  have hint : interactive (callEnv fd h.objs.size fI) = false := by
    have e1 : (callEnv fd h.objs.size fI).scope = fd.scope := rfl
    unfold interactive
    simp [e1, hk]
  refine ks_wpAt_execs_cons (ks_wpAt_Expr_any (ks_wpAt_MethodCall (ks_wpAt_super_base (env := callEnv fd h.objs.size fI) (ar := ar) s6 s7 (by decide) rfl (X0 _ _ hfn) rfl (by rw [hpa]; rfl) hc1 (X0 _ _ hc2) rfl hc3 hc4 J.top ?_) (meth_eq hline)) hint rfl)
  refine ks_loadName_global hk s6 (loadGlobal_builtin (mg := mg) (mb := mb) (by rw [show (callEnv fd h.objs.size fI).globals = mainGlobals from J.glob]; exact Md.glob.keeps kb0) hs (by rw [show (callEnv fd h.objs.size fI).builtins = builtinsNs from J.blt]; exact hmb1.keeps kb0) ((hmb2 _ (by decide)).trans (show bootBuiltins "super" = some (.type "super") from by decide +kernel)) ⟨rfl, ?_⟩)
  refine wpAny_loadName_free (c := cc) hk s7 (by show fd.closure.lookup _ = _; rw [hcl1]; rfl) ⟨_, X0 _ _ hcl2, rfl⟩ ?_
  refine wpAny_loadName_local hk (by rw [hnm]; exact s4) hns (by rw [hnm]; exact hme) ?_
  refine ks_wpAny_isType_cls (X0 _ _ hC) rfl ⟨rfl, ?_⟩
  refine ks_wpAny_call_super (X0 _ _ hC) rfl he0 rfl (fun c z => by cases z) (looks_mroIn X0 (mro_in T (by rw [List.contains_cons]; simp))) (fun h1 e1 k1 => ?_)
  have X1 : K.In h1 := X0.keeps k1
  have he1 := k1 _ _ he0
  have hB : Looks (model prog w) h1 (isInstance (.ref e) (.type B)) true := (InstAt.type (C := C) (od := none) ⟨he1, rfl, rfl, trivial⟩).andThen (looks_mroIn X1 (mro_in T (by rw [List.contains_cons, T.fb.hasB, Bool.or_true])))
  refine kxs_getMethod T.kf e1 (looks_opaque X1 T.opq) (l₀ := cd.mro) (fun A Q E s k q => wpAny_bind ((looks_clsIn X1 hcd) A _ E s k (wpAny_pure q))) rfl X1 (by rw [hmro]; simpa [List.dropWhile_cons] using T.al) hB (fun z => ?hxC) (by decide) ?_
  case hxC =>
    have := X1 _ _ hC
    rw [← z, he1] at this
    cases this
  have hns1 : h1.Ns h.objs.size (fun y => [(me, Value.ref e), (x, v)].reverse.lookup y) := hns.keeps k1
  have k2 : ∀ b o, h1.get? b = some o → (h1.push (kxs_mw initId e)).get? b = some o := fun b o z => Heap.get?_push_of_some _ z
  have hu2 : (h1.push (kxs_mw initId e)).get? h1.objs.size = some (kxs_mw initId e) := Heap.get?_push_size _ rfl
  have hd : (x == ("__debug__" : Str)) = false := s11
  refine kxs_callWith (i := initId) (x := e) rfl (evalArgs_plain ?_)
  refine PyProof.Rows.args_cons (wpAny_Name (wpAny_loadName_local (env := callEnv fd h.objs.size fI) (name := x) hk s5 (hns1.keeps k2) hx (PyProof.Rows.args_nil ⟨hu2, ?_⟩)) hd) rfl
  refine ex_init T (X1.keeps k2) hu2 (k2 _ _ he1) (by show 1 ≤ sizeLine; rw [sizeLine_eq]; omega) (fun h3 t1 k3 e3 => ?_)
  have k13 : ∀ b o, b ≠ e → h0.get? b = some o → h3.get? b = some o := fun b o hb z => k3 b o hb (k2 _ _ (k1 _ _ z))
  have X3 : K.In h3 := fun a o z => by
    have hb := Md.kin a o z
    refine k13 a o (fun ze => ?_) (kb0 _ _ hb)
    rw [ze, hbe] at hb
    cases hb
  have hns3 : h3.Ns h.objs.size (fun y => [(me, Value.ref e), (x, v)].reverse.lookup y) := hns1.at fun o z => k3 _ _ eL.symm (k2 _ _ z)
  have hd2 : (me == ("__debug__" : Str)) = false := s10
  refine ks_wpAt_execs_cons (ks_wpAt_Assign_Attr (wpAt_of_wpAny (wpAny_Name (wpAny_loadName_local (env := callEnv fd h.objs.size fI) (name := x) hk s5 hns3 hx (wpAny_Name (wpAny_loadName_local (env := callEnv fd h.objs.size fI) (name := me) hk s4 hns3 hme ?_) hd2)) hd)) rfl)
  refine set_plain X3 (ox := exR C t1 none) (od := none) ⟨e3, rfl, rfl, trivial⟩ T.sa ?_
  refine ex_store T X3 e3 ha (fun h4 tk4 dx k4 l4 n4 e4 ns4 => ?_)
  refine wpAt_of_wpAny (wpAny_execs_nil ?_)
  refine hq h4 tk4 t1 dx (fun b o hb z => k4 b o hb (k13 b o hb (k0 b o z))) ?_ n4 e4 ns4
  obtain ⟨oL3, _, _, z, _⟩ := hns3
  exact Nat.le_trans (Nat.le_of_lt (Heap.lt_size z)) l4
end
end Mi
namespace Mi
open PySem PySem.Spec PyProof.Rows L2
/-- at a: an exception of the class at C, its dict (none | at d) -/
def ExV (C : Addr) (d : Option Addr) (a : Addr) : HO := .ext fun h => ∃ (oe : Obj) (vs : Array Value), h.get? a = some oe ∧ oe.cls = .ref C ∧ oe.dict = d ∧ oe.data = .fields vs
theorem exV_ok {P : Program} {w : World} {H : Hp} {h : Heap} {a C : Addr} {d : Option Addr} {oe : Obj} {vs : Array Value} (e : h.get? a = some oe) (h1 : oe.cls = .ref C) (h2 : oe.dict = d) (h3 : oe.data = .fields vs) : ObjOk P w H h a (ExV C d a) :=
  ⟨⟨oe, vs, e, h1, h2, h3⟩, ⟨oe, e⟩, fun _ _ ⟨o, v, q, r⟩ k => ⟨o, v, k o q, r⟩⟩
theorem exV_at {P : Program} {w : World} {H : Hp} {h : Heap} {a b C : Addr} {d : Option Addr} (hok : HOk P w H h) (e : H a = some (ExV C d b)) : ∃ (oe : Obj) (vs : Array Value), h.get? b = some oe ∧ oe.cls = .ref C ∧ oe.dict = d ∧ oe.data = .fields vs := by
  have x : ObjOk P w H h a (.ext fun h => ∃ (oe : Obj) (vs : Array Value), h.get? b = some oe ∧ oe.cls = .ref C ∧ oe.dict = d ∧ oe.data = .fields vs) := hok a _ e
  exact x.1
/-- two new objects -/
theorem un_two {fs ex : List Addr} {H : Hp} {h h' : Heap} {a b : Addr} {o u : HO} (k : ∀ c z, h.get? c = some z → h'.get? c = some z) (ha : h.objs.size ≤ a) (hb : h.objs.size ≤ b) (na : H a = none) (nb : H b = none) : Un fs ex H (upd (upd H b u) a o) h h' where
  keep := fun c z q _ _ _ => k c z q
  slot := fun c z q _ _ _ => ⟨z.slots, k c z q⟩
  free := fun c z q n _ => by
    have hc := Heap.lt_size q
    rw [upd_ne (Nat.ne_of_lt (Nat.lt_of_lt_of_le hc ha)), upd_ne (Nat.ne_of_lt (Nat.lt_of_lt_of_le hc hb))]
    exact n
  there := fun c z q _ => ⟨z, k c z q⟩
  tups := fun c xs q => by rw [upd_ne (ne_of_none q na), upd_ne (ne_of_none q nb)]; exact q
  frzs := fun c z xs q => by rw [upd_ne (ne_of_none q na), upd_ne (ne_of_none q nb)]; exact q
  tbls := fun c ps q => ⟨#[], by rw [upd_ne (ne_of_none q na), upd_ne (ne_of_none q nb), q]; simp⟩
theorem hok_two {P : Program} {w : World} {H : Hp} {h h' : Heap} {a b : Addr} {o u : HO} (x : HOk P w H h) (k : ∀ c z, h.get? c = some z → h'.get? c = some z) (na : H a = none) (nb : H b = none) (hab : a ≠ b)
    (n1 : ObjOk P w (upd (upd H b u) a o) h' a o) (n2 : ObjOk P w (upd (upd H b u) a o) h' b u) : HOk P w (upd (upd H b u) a o) h' := fun c z e => by
  by_cases hc : c = a
  · subst hc; rw [upd_same] at e; cases e; exact n1
  · rw [upd_ne hc] at e
    by_cases hc2 : c = b
    · subst hc2; rw [upd_same] at e; cases e; exact n2
    · rw [upd_ne hc2] at e
      exact (x c z e).stay (fun y v _ q => k y v q) (fun y q => by rw [upd_ne (ne_of_none q na), upd_ne (ne_of_none q nb)]; exact q) fun y xs q => by rw [upd_ne (ne_of_none q na), upd_ne (ne_of_none q nb)]; exact q
section
variable {X : Cx} {C fI : Addr} {B newId initId : String} {bmB : List Value} {me x f : Str} {fd : FuncData} {ta : TA}
/-- what is known of a class with such an __init__ -/
structure MkK (X : Cx) (C fI : Addr) (B newId initId : String) (bmB : List Value) (me x f : Str) (fd : FuncData) : Prop where
  ex : ExK X.K C B newId initId bmB
  ini : IniK X.prog X.K C fI me x f fd
  iC : PySem.W.findIn X.K (.ref C) "__init__" = some (some (.ref fI))
  tI : PySem.W.typeIn X.K (.ref fI) = some (.type "function")
  na : PySem.W.findIn X.K (.ref C) f = some none
  kC : PySem.W.keepIn X.K (.ref C) = true
  sup : X.mg "super" = none
/-- C(v) at the level of the heap -/
theorem run_mk {pins : List (Addr × Obj)} {σ : L2.St} {H : Hp} {s : Shared} {v : V} {u : Value} {E : Value → Shared → Prop} {Q : Value → Shared → Prop} (T : MkK X C fI B newId initId bmB me x f fd) (hdp : X.A.depth + 5 < recursionLimit) (I : Inv X pins σ H s) (r : RelV v u)
    (h : ∀ a dx s' t1, H a = none → H dx = none → a ≠ dx → (∀ b o, s.heap.get? b = some o → s'.heap.get? b = some o) → s.heap.objs.size ≤ a → s.heap.get? a = none → s'.heap.get? a = some (exR C t1 (some dx)) →
      Inv X pins σ (upd (upd H dx (.xd [(f, v)])) a (ExV C (some dx) a)) s' → Q (.ref a) s') :
    wpAny (model X.prog X.w) X.A (call (.ref C) [u]) Q E s := by
  obtain ⟨nm, q, N, bs, sn, sub, ab, col, dd, k0, k1, k2, k3, k5, hC⟩ := T.ex.cls
  obtain ⟨hp, g, dr, tk, os⟩ := s
  have hsz : hp.objs.size ≤ hp.objs.size + 1 := Nat.le_succ _
  have kk : ∀ b o, hp.get? b = some o → ((hp.push (PySem.W.kdv_tup [u])).push (exR C hp.objs.size none)).get? b = some o := fun b o e => Heap.get?_push_of_some _ (Heap.get?_push_of_some _ e)
  have hget : ((hp.push (PySem.W.kdv_tup [u])).push (exR C hp.objs.size none)).get? (hp.objs.size + 1) = some (exR C hp.objs.size none) := by heap_get
  have hn : H (hp.objs.size + 1) = none := I.hok.fresh hsz
  have hbk : ∀ b o, X.base.get? b = some o → hp.get? b = some o := fun b o z => I.bk b o z
  refine wpAny_call (PySem.HandSPX.call_own T.ex.fb (fun _ => rfl) (I.kIn _ _ hC) (PySem.W.looks_findIn I.kIn T.iC) (fun z => PySem.W.bind_fn I.kIn z T.tI) (by show 1 ≤ sizeLine; rw [sizeLine_eq]; omega) ?_)
  refine ini_run T.ex T.ini I.mod (fun b o z => kk b o (hbk b o z)) T.sup T.na (by rw [make_depth]; omega) hget ?_ ?_
  · cases e : X.base.get? (hp.objs.size + 1) with
    | none => rfl
    | some o => exact absurd (Heap.lt_size (hbk _ _ e)) (Nat.not_lt.mpr hsz)
  · intro h' tk' t1 dx k l ne e ns
    have kA : ∀ b o, hp.get? b = some o → h'.get? b = some o := fun b o z => k b o (Nat.ne_of_lt (Nat.lt_succ_of_lt (Heap.lt_size z))) (kk b o z)
    have l2 : hp.objs.size ≤ dx := by
      exact Nat.le_trans (Nat.le_of_lt (Nat.lt_trans (Nat.lt_succ_self _) (Heap.lt_size hget))) l
    have hd : H dx = none := I.hok.fresh l2
    have J : Inv X pins σ (upd (upd H dx (.xd [(f, v)])) (hp.objs.size + 1) (ExV C (some dx) (hp.objs.size + 1))) ⟨h', g, dr, tk', os⟩ := by
      refine I.un (t' := tk') (un_two kA hsz l2 hn hd) (hok_two I.hok kA hn hd (Ne.symm ne) (exV_ok e rfl rfl rfl) ?_)
      exact ⟨_, ns, fun y => by
        by_cases hy : y = f
        · subst hy
          simp only [List.lookup, beq_self_eq_true, if_true]
          exact r
        · have : (y == f) = false := beq_eq_false_iff_ne.mpr hy
          simp only [List.lookup, this, if_neg hy]
          trivial⟩
    exact ⟨rfl, h (hp.objs.size + 1) dx ⟨h', g, dr, tk', os⟩ t1 hn hd (Ne.symm ne) kA hsz (Heap.get?_none_of_le hsz) e J⟩
/-- C(e) as a value -/
def tMkV (C : Addr) (f : Str) (ta : TA) : TE := fun σ H Q => ta σ H fun vs H1 => ∃ v, vs = [v] ∧ ∀ a dx, H1 a = none → H1 dx = none → a ≠ dx → Q (.ref a) (upd (upd H1 dx (.xd [(f, v)])) a (ExV C (some dx) a))
theorem pe_mk {y : Str} {e : Expr} {p pos : Pos} (T : MkK X C fI B newId initId bmB me x f fd) (hdp : X.A.depth + 5 < recursionLimit) (hg : Gl X y) (hm : X.mg y = some (.ref C)) (hA : PA X [e] ta) (hdb : (y == ("__debug__" : Str)) = false) (hst : starEach [e] X.env = [(false, eval e X.env)]) :
    PE X (.Call (.Name y p) [e] [] pos) (tMkV C f ta) := by
  refine ⟨fun pins s σ H Q I h => ?_⟩
  refine wpAny_Call_Name_kw (ld_glob I hg hm ?_ hdb)
  refine PySem.W.callWith_K (h₀ := X.base) I.ok.mod.kin T.kC (thn (hA.run pos pins s σ H _ I h) fun us s1 ⟨vs, H1, I1, r1, v, ev, q1⟩ => ⟨I1.kIn, ?_⟩) hst rfl
  subst ev
  cases r1 with
  | @cons _ u0 _ ur ra rw' =>
    cases rw'
    exact run_mk T hdp I1 ra fun a dx s' t1 n1 n2 ne _ _ _ _ J => ⟨.ref a, _, J, rfl, q1 a dx n1 n2 ne⟩
end
end Mi
namespace Mi
open PySem PySem.Spec PyProof.Rows L2
/-- what isinstance asks of a value -/
def KitV (K : PySem.W.Frag) (H : Hp) (v : V) (t : Value) : Prop := ∀ (X : Cx) (pins : List (Addr × Obj)) (σ : L2.St) (s : Shared) (u : Value), X.K = K → Inv X pins σ H s → L2.RelV v u → ∃ P : Heap → Prop, PySem.W.KitX K u t P ∧ P s.heap ∧ u ≠ .builtin "__main__.__loader__#opaque"
theorem TyX.kit {K : PySem.W.Frag} {H : Hp} {v : V} {t : Value} (h : TyX K H v t) : KitV K H v t := fun X pins σ s u e I r => by
  subst e
  exact kit_of I r h
/-- what is known of an exception class's instances -/
structure ClsX (K : PySem.W.Frag) (C : Addr) : Prop where
  cl : (PySem.W.clsIn K C).isSome = true
  ga : PySem.W.findIn K (.ref C) "__getattribute__" = some (some (.builtin "BaseException.__getattribute__"))
  gt : PySem.W.findIn K (.ref C) "__getattr__" = some none
  su : PySem.W.subIn K (.ref C) (.type "BaseException") = some true
  ca : PySem.W.findIn K (.ref C) "__class__" = some (some (.builtin "object.__class__"))
  sp : PySem.W.specialIn K (.builtin "object.__class__") "__get__" = some (some (.builtin "getset_descriptor.__get__"))
  tk : PySem.W.takesIn K (.builtin "object.__class__") = some true
  mo : PySem.W.mroIn K C (.type "object") = some true
  hd : PySem.W.hasDictIn K C = true
theorem inst_of {X : Cx} {pins : List (Addr × Obj)} {σ : L2.St} {s : Shared} {H : Hp} {a C : Addr} {dd : Option Addr} (I : Inv X pins σ H s) (he : H a = some (ExV C dd a)) (hd : ∀ e, dd = some e → ∃ u, H e = some u) :
    ∃ oe od, PySem.W.InstAt s.heap a oe C od ∧ (∀ e, dd = some e → ∃ o, s.heap.get? e = some o ∧ od = some o) := by
  obtain ⟨oe, vs, h1, h2, h3, h4⟩ := exV_at I.hok he
  have nc : PySem.W.notCls oe = true := by unfold PySem.W.notCls; rw [h4] <;> rfl
  cases dd with
  | none => exact ⟨oe, none, ⟨h1, h2, nc, by rw [h3]; trivial⟩, fun e z => nomatch z⟩
  | some e =>
    obtain ⟨u, hu⟩ := hd e rfl
    obtain ⟨o, ho⟩ := objOk_get (I.hok e u hu)
    exact ⟨oe, some o, ⟨h1, h2, nc, by rw [h3]; exact ho⟩, fun e' z => by cases z; exact ⟨o, ho, rfl⟩⟩
theorem kitV_exc {K : PySem.W.Frag} {H : Hp} {a C : Addr} {dd : Option Addr} (T : ClsX K C) (he : H a = some (ExV C dd a)) (hd : ∀ e, dd = some e → ∃ u, H e = some u) : KitV K H (.ref a) (.ref C) := fun X pins σ s u e I r => by
  obtain rfl : u = Value.ref a := r
  obtain ⟨oe, od, J, _⟩ := inst_of I he hd
  exact ⟨_, PySem.W.kitx_exc T.cl T.ga T.gt T.su T.ca T.sp T.tk T.mo, J, fun z => nomatch z⟩
/-- isinstance(x, c) -/
def rIsiV (K : PySem.W.Frag) : List V → Hp → VK → Prop := fun xs H Q => ∃ (x c : V) (t u : Value) (b : Bool), xs = [x, c] ∧ ClsV c u ∧ KitV K H x t ∧ PySem.W.kitOne K t u = some b ∧ Q (.bl b) H
/-- isinstance(x, (c1, ..)) -/
def rIsiTV (K : PySem.W.Frag) : List V → Hp → VK → Prop := fun xs H Q => ∃ (x : V) (tp : Addr) (cs : List V) (t : Value) (us : List Value) (b : Bool), xs = [x, .ref tp] ∧ H tp = some (.tup cs) ∧ Paired ClsV cs us ∧ KitV K H x t ∧ PySem.W.kitAny K t us = some b ∧ Q (.bl b) H
section
variable {X : Cx}
theorem call_isiV : CallR X (.builtin "isinstance") (rIsiV X.K) := by
  intro pins s σ H xs us Q I r h
  obtain ⟨x, c, t, u, b, rfl, k, ty, e, q⟩ := h
  obtain ⟨u1, u2, rfl, r1, r2⟩ := vals2 r
  have e2 := k.eq r2
  subst e2
  obtain ⟨P, Z, p, hx⟩ := ty X pins σ s u1 rfl I r1
  exact PySem.W.kia_one Z I.kIn p e hx fun tk => ⟨.bl b, H, I.tok tk, rfl, q⟩
theorem call_isiTV : CallR X (.builtin "isinstance") (rIsiTV X.K) := by
  intro pins s σ H xs us Q I r h
  obtain ⟨x, tp, cs, t, ws, b, rfl, hT, k, ty, e, q⟩ := h
  obtain ⟨u1, u2, rfl, r1, r2⟩ := vals2 r
  cases (show u2 = Value.ref tp from r2)
  obtain ⟨P, Z, p, hx⟩ := ty X pins σ s u1 rfl I r1
  obtain ⟨_, its, rv, o, h1, h2, n, h3⟩ := (show ObjOk X.prog X.w H s.heap tp (.tup cs) from I.hok tp _ hT)
  have e3 := ClsV.all k rv
  subst e3
  obtain ⟨oc, od, dt, sl⟩ := o
  simp only at h2 h3
  subst h2 h3
  exact PySem.W.kia_tup Z I.kIn p h1 e hx fun tk => ⟨.bl b, H, I.tok tk, rfl, q⟩
/-- e.f, e an exception -/
def tAttr (K : PySem.W.Frag) (f : Str) (te : TE) : TE := fun σ H Q => te σ H fun x H1 => ∃ (a C dx : Addr) (v : V), x = .ref a ∧ H1 a = some (ExV C (some dx) a) ∧ ClsX K C ∧ PySem.W.findIn K (.ref C) f = some none ∧ H1 dx = some (.xd [(f, v)]) ∧ Q v H1
theorem pe_attr {e : Expr} {te : TE} {f : Str} {pos : Pos} (he : PE X e te) (hb : attributeBase e f X.env (PySem.eval e X.env) = PySem.eval e X.env) : PE X (.Attribute e f pos) (tAttr X.K f te) := by
  refine ⟨fun pins s σ H Q I h => ?_⟩
  refine attr_of hb (thn (he.run pins s σ H _ I h) fun u s1 ⟨x, H1, I1, rx, a, C, dx, v, ex, ea, T, hno, ed, q⟩ => ?_)
  subst ex
  obtain rfl : u = Value.ref a := rx
  obtain ⟨oe, od, J, hod⟩ := inst_of I1 ea (fun e z => ⟨_, by cases z; exact ed⟩)
  have hx : ObjOk X.prog X.w H1 s1.heap dx (.xd [(f, v)]) := I1.hok dx _ ed
  obtain ⟨mA, hns, hr⟩ := hx
  obtain ⟨o, ho, hl⟩ := lookIn_ns hns
  obtain ⟨o2, h2, rfl⟩ := hod dx rfl
  rw [ho] at h2
  cases h2
  have hlk : ([(f, v)] : List (Str × V)).lookup f = some v := by simp [List.lookup]
  obtain ⟨u, hu, ru⟩ := RelO.some_of (v := v) (o := mA f) (by rw [← hlk]; exact hr f)
  exact HandSPX.exc_get I1.kIn J T.ga T.gt T.su (PySem.W.findObj_own T.hd hno rfl (by rw [hl, hu])) (handed_of ru) ⟨v, H1, I1.tok _, ru, q⟩
end
end Mi
namespace Mi
open PySem L2
/-- what a def promises: it answers as cl f does -/
def Cc.at (c : Cc) (β : Option Addr) : Cc := { c with β := β }
/-- what results of def f: new, if f makes its result anew -/
def RepQ (c : Cc) (f : Nat) (H H' : Hp) (N : Addr → Prop) (d : D) (v : V) : Prop := Rep c H' N d v ∧ (c.frs f = true → RepF c H H' N d v)
def spF (c : Cc) (cl : Nat → List D → M D) (f n : Nat) : Sp := fun vs H Q E => vs.length = n ∧ ∃ (β : Option Addr) (N0 : Addr → Prop) (ds : List D) (b : Bx), RepL (c.at β) H N0 ds vs ∧ (∀ a, N0 a → H a ≠ none) ∧ (∀ a, β = some a → N0 a) ∧ BoxAt (c.at β) H b ∧
  Out (c.at β) (fun H' d v => RepQ (c.at β) f H H' N0 d v) [] H (fun cls dd _ H' => E cls dd H') Q (cl f ds b)
/-- a class that isinstance is asked about -/
def TyIs (mg : Str → Option Value) (cls : List Str) (t : Ty) (cv : V) (u : Value) : Prop := (∃ y, tyStr t = some y ∧ cv = .ty y ∧ u = .type y) ∨ (∃ j C, t = .exc j ∧ excName j ∈ cls ∧ mg (excName j) = some (.ref C) ∧ cv = .ref C ∧ u = .ref C)
/-- where a text runs: X fits k -/
structure GX (X : Cx) (c : Cc) (cf : Cfg) (k : Ck) (W : WX) : Prop where
  N : X.N = k.N
  K : c.K = X.K
  nd : X.N.Nodup
  sc : X.env.scope = k.sc
  fn : ∀ x, k.fnB x = true → X.fn x = true
  calm : X.calm = true
  un : X.A.units + 64 < cLine
  tk : Takes X W
  ns : cf.ns = c.ns
  free : ∀ x, x ∈ k.free → X.mg x = none
  gs : ∀ g x, (k.P.gs[g]?).map (·.1) = some x → ∃ d v u, cf.G g = some d ∧ X.mg x = some u ∧ RelV v u ∧ ∀ H N, Rep c H N d v
  evs : ∀ j a dd o H, c.ev j a dd o → H a = some o → (∀ e, dd = some e → ∃ u, H e = some u) → ∃ tv, KitV c.K H (.ref a) tv ∧ ∀ t cv u b, TyIs X.mg k.cls t cv u → D.isTy (.exc j []) t = some b → PySem.W.kitOne c.K tv u = some b
  att : ∀ j a dd o, c.ev j a dd o → ∃ C, o = ExV C dd a ∧ ClsX c.K C ∧ ∀ f, excFld j = some f → PySem.W.findIn c.K (.ref C) f = some none
  mks : ∀ j f, excName j ∈ k.cls → excFld j = some f → ∃ C fI B newId initId bmB y x fd, MkK X C fI B newId initId bmB y x f fd ∧ X.mg (excName j) = some (.ref C) ∧ ∀ a d, c.ev j a (some d) (ExV C (some d) a)
  own : ∀ j, excName j ∈ k.cls → ∃ C, X.mg (excName j) = some (.ref C)
  dp : X.A.depth + 5 < recursionLimit
  frs : ∀ f fd, k.P.fs[f]? = some fd → c.frs f = fd.fresh
  fns : ∀ f x, (k.P.fs[f]?).map (·.name) = some x → ∃ (lv : Nat) (a : Addr) (fd : FuncData) (ps : List Str), X.mg x = some (.ref a) ∧ PySem.W.keepIn X.K (.ref a) = true ∧ Binds X.K fd ps [] ∧ (KwOk fd ps ∧ (k.P.fs[f]?).map (·.ps) = some ps) ∧ Room lv X.A ∧
    FnOk X.prog X.w X.K X.mg X.base (L2.CX X.prog X.w) lv a fd ps (spF c cf.cl f ps.length) ∧ ∀ ds b, ds.length ≠ ps.length → cf.cl f ds b = .no
section
variable {X : Cx} {c : Cc} {cf : Cfg} {k : Ck} {W : WX} {σ : L2.St} {H H1 H2 H' : Hp} {N N0 : Addr → Prop} {s : Env} {b : Bx}
theorem plain_db {x : Str} (h : plainName x = true) : (x == ("__debug__" : Str)) = false := by
  unfold plainName at h
  simp only [Bool.and_eq_true, Bool.not_eq_true'] at h
  exact h.1.1
theorem plain_cd {x : Str} (h : plainName x = true) : (x == ("__classdict__" : Str)) = false := by
  unfold plainName at h
  simp only [Bool.and_eq_true, Bool.not_eq_true'] at h
  exact h.1.2
theorem plain_nm {x : Str} (h : plainName x = true) : x ≠ ("__name__" : Str) := by
  unfold plainName at h
  simp only [Bool.and_eq_true, Bool.not_eq_true'] at h
  have h2 := h.2
  intro e
  subst e
  revert h2
  decide +kernel
theorem vis_of (G : GX X c cf k W) {x : Str} (h : k.vis x = true) : Vis X.env.scope x ∧ plainName x = true := by
  unfold Ck.vis at h
  rw [Bool.and_eq_true] at h
  refine ⟨?_, h.1⟩
  have h2 := h.2
  unfold Vis
  rw [G.sc]
  split at h2
  · exact .inl (by assumption)
  · exact .inr (.inl (by assumption))
  · exact .inr (.inr (by assumption))
  · cases h2
theorem gl_of (G : GX X c cf k W) {x : Str} (h : k.gl x = true) : Gl X x ∧ plainName x = true := by
  unfold Ck.gl at h
  rw [Bool.and_eq_true] at h
  refine ⟨?_, h.1⟩
  have h2 := of_decide_eq_true h.2
  show X.env.scope.names.lookup x = _
  rw [G.sc]
  exact h2
theorem blt_of (G : GX X c cf k W) {x : Str} (h : k.blt x = true) : Gl X x ∧ plainName x = true ∧ X.mg x = none := by
  unfold Ck.blt at h
  rw [Bool.and_eq_true] at h
  obtain ⟨h1, h2⟩ := gl_of G h.1
  exact ⟨h1, h2, G.free x (of_decide_eq_true h.2)⟩
theorem RepW.e {d : D} {v : V} (r : RepW c H N N d v) : Rep c H N d v := by
  cases d <;> exact r
theorem Rep.sel {w : Bool} {d : D} {v : V} (hs : ∀ a, N0 a → N a) (r : Rep c H N d v) : RepW c H (selN w N0 N) N d v := r.w (sel_sub hs)
theorem rd_VE {w : Bool} {m : Env → M D} {Q : VK} (h : rd c (pV c w) W m σ H Q) : rd c (pE c) W m σ H Q := by
  obtain ⟨N0, s, b, R, B, h⟩ := h
  exact ⟨N0, s, b, R, B, h.rp fun H' x v k r => Rep.sel (fun _ => .inl) r⟩
theorem rd_VF {w : Bool} {m : Env → M D} {Q : VK} (h : rd c (pV c w) W m σ H Q) : rd c (pF c) W m σ H Q := rd_EF (rd_VE h)
theorem rd_EV {m : Env → M D} {Q : VK} (h : rd c (pE c) W m σ H Q) : rd c (pV c false) W m σ H Q := by
  obtain ⟨N0, s, b, R, B, h⟩ := h
  exact ⟨N0, s, b, R, B, h.rp fun H' x v k r => RepW.e r⟩
theorem rd_WV {m : Env → M D} {Q : VK} (h : rd c (pW c) W m σ H Q) : rd c (pV c true) W m σ H Q := by
  obtain ⟨N0, s, b, R, B, h⟩ := h
  exact ⟨N0, s, b, R, B, h.rp fun H' x v k r => r⟩
theorem PE.v0 {x : Expr} {m : Env → M D} (h : PE X x (rd c (pV c false) W m)) : PE X x (rd c (pE c) W m) := PE.imp h fun _ _ _ => rd_EV
theorem PE.v1 {x : Expr} {m : Env → M D} (h : PE X x (rd c (pV c true) W m)) : PE X x (rd c (pW c) W m) := PE.imp h fun _ _ _ => rd_WV
theorem tru_of {d : D} {v : V} {t : Bool} (r : RepW c H N0 N d v) (h : truth d = some t) : TruV c.K v H t := by
  cases d <;> simp only [truth] at h <;> first | (cases h; done) | skip
  · cases h; rw [show v = _ from r]; rfl
  · cases h; rw [show v = _ from r]; rfl
  · cases h; rw [show v = _ from r]; rfl
  · cases h
    rw [r.1]
    refine ⟨str_line r.2, ?_⟩
    rename_i x
    show (x.cps.size != 0) = ((x.cps.size : Int) != 0)
    generalize x.cps.size = n
    cases n <;> rfl
  · cases h
    obtain ⟨a, vs, rfl, n, h1, q⟩ := r
    refine .inr (.inl ⟨vs, .inl (.of h1), ?_⟩)
    have := q.length
    rename_i ds
    cases vs <;> cases ds <;> first | rfl | cases this
  · cases h
    obtain ⟨a, vs, rfl, n, h1, q⟩ := r
    refine .inl ⟨vs, .inl (.of h1), ?_⟩
    have := q.length
    rename_i ds
    cases vs <;> cases ds <;> first | rfl | cases this
/-- a test by a value's truth -/
theorem rd_tru {w : Bool} {m : Env → M D} {Q : Bool → Hp → Prop} (h : rd c (pX (α := Bool)) W (fun s => (m s).bd fun x => M.ofO (truth x)) σ H Q) :
    rd c (pV c w) W m σ H fun x H' => ∃ t, TruV c.K x H' t ∧ Q t H' := by
  obtain ⟨N0, s, b, R, B, h⟩ := h
  refine ⟨N0, s, b, R, B, Out.mono (Out.bd (Rp := fun H' => pV c w H H' N0 (Nof N0 σ s)) h) fun vx H1 ⟨x, b1, k1, B1, r1, h1⟩ => ?_⟩
  obtain ⟨t, e, h2⟩ := h1.ofO
  exact ⟨t, tru_of r1 e, h2 _ _ .refl B1 rfl⟩
/-- .. that is a bool -/
theorem rd_truB {m : Env → M D} {Q : Bool → Hp → Prop} (hb : ∀ s b d b', m s b = .ok d b' → ∃ t, d = .bl t) (h : rd c (pX (α := Bool)) W (fun s => (m s).bd fun x => M.ofO (truth x)) σ H Q) :
    rd c (pE c) W m σ H fun x H' => ∃ t, x = .bl t ∧ Q t H' := by
  obtain ⟨N0, s, b, R, B, h⟩ := h
  refine ⟨N0, s, b, R, B, ?_⟩
  have h : Out c (fun H' => pX (α := Bool) H H' N0 (Nof N0 σ s)) σ H W Q ((M.bd (m s) fun x => M.ofO (truth x)) b) := h
  unfold M.bd at h
  cases e : m s b with
  | no => rw [e] at h; exact h
  | ex kk as b1 => rw [e] at h; exact h
  | ok d b1 =>
    rw [e] at h
    obtain ⟨t, rfl⟩ := hb s b d b1 e
    intro v H' K1 B1 r
    exact ⟨t, r, h t H' K1 B1 rfl⟩
theorem op_bl {o : Op} {p : CmpOp} {x y z : D} (hp : cmpOf o = some p) (e : evOp o x y = some z) : ∃ t, z = .bl t := by
  cases o <;> simp only [cmpOf] at hp <;> first | (cases hp; done) | skip
  · simp only [evOp] at e; split at e <;> cases e; exact ⟨_, rfl⟩
  · simp only [evOp] at e; split at e <;> cases e; exact ⟨_, rfl⟩
  · cases x <;> cases y <;> simp only [evOp, cmpI] at e <;> cases e <;> exact ⟨_, rfl⟩
  · cases x <;> cases y <;> simp only [evOp, cmpI] at e <;> cases e <;> exact ⟨_, rfl⟩
  · cases x <;> cases y <;> simp only [evOp, cmpI] at e <;> cases e <;> exact ⟨_, rfl⟩
  · cases x <;> cases y <;> simp only [evOp, cmpI] at e <;> cases e <;> exact ⟨_, rfl⟩
  · simp only [evOp, inSeq] at e
    repeat' (split at e)
    all_goals (cases e <;> exact ⟨_, rfl⟩)
  · simp only [evOp, inSeq] at e
    repeat' (split at e)
    all_goals (cases e <;> exact ⟨_, rfl⟩)
theorem evB_op {o : Op} {p : CmpOp} {a e : ME} (hp : cmpOf o = some p) : ∀ s b d b', evE cf (.op o a e) s b = .ok d b' → ∃ t, d = .bl t := by
  intro s b d b' h
  have h' : ((evE cf a s).bd fun x => (evE cf e s).bd fun y => M.ofO (evOp o x y)) b = .ok d b' := h
  unfold M.bd at h'
  cases e1 : evE cf a s b with
  | ok x b1 =>
    rw [e1] at h'
    simp only at h'
    cases e2 : evE cf e s b1 with
    | ok y b2 =>
      rw [e2] at h'
      simp only at h'
      cases e3 : evOp o x y with
      | none => rw [e3] at h'; cases h'
      | some z => rw [e3] at h'; cases h'; exact op_bl hp e3
    | _ => rw [e2] at h'; cases h'
  | _ => rw [e1] at h'; cases h'
theorem rd_nil {Q : List V → Hp → Prop} (h : rd c (pL c) W (evEs cf .nil) σ H Q) : tNil σ H Q := by
  obtain ⟨N0, s, b, R, B, h⟩ := h
  exact h [] H .refl B rfl
theorem rd_cons {e : ME} {r : MEs} {Q : List V → Hp → Prop} (h : rd c (pL c) W (evEs cf (.cons false e r)) σ H Q) : tCons (rd c (pE c) W (evE cf e)) (rd c (pL c) W (evEs cf r)) σ H Q := by
  obtain ⟨N0, s, b, R, B, h⟩ := h
  refine ⟨N0, s, b, R, B, Out.mono (Out.bd (Rp := fun H' => pE c H H' N0 (Nof N0 σ s)) h) fun vx H1 ⟨x, b1, k1, B1, r1, h1⟩ => ?_⟩
  refine ⟨N0, s, b1, R.keep k1, B1, Out.mono (Out.bd (Rp := fun H' => pL c H1 H' N0 (Nof N0 σ s)) h1) fun vy H2 ⟨y, b2, k2, B2, r2, h2⟩ => ?_⟩
  exact h2 _ _ .refl B2 ⟨_, _, rfl, r1.keep k2 R.betN, r2⟩
theorem rd_star {e : ME} {r : MEs} {Q : List V → Hp → Prop} (h : rd c (pL c) W (evEs cf (.cons true e r)) σ H Q) : StX.tStar c.K (rd c (pW c) W (evE cf e)) (rd c (pL c) W (evEs cf r)) σ H Q := by
  obtain ⟨N0, s, b, R, B, h⟩ := h
  refine ⟨N0, s, b, R, B, Out.mono (Out.bd (Rp := fun H' => pW c H H' N0 (Nof N0 σ s)) h) fun vx H1 ⟨x, b1, k1, B1, r1, h1⟩ => ?_⟩
  obtain ⟨ys, e, h1⟩ := h1.ofObd
  have fin : ∀ vs : List V, RepL c H1 (Nof N0 σ s) ys vs → (rd c (pL c) W (evEs cf r)) σ H1 fun ws H2 => Q (vs ++ ws) H2 := fun vs q =>
    ⟨N0, s, b1, R.keep k1, B1, Out.mono (Out.bd (Rp := fun H' => pL c H1 H' N0 (Nof N0 σ s)) h1) fun vy H2 ⟨y, b2, k2, B2, r2, h2⟩ => h2 _ _ .refl B2 ((q.keep k2 R.betN).append r2)⟩
  cases x <;> simp only [itemsOf] at e <;> first | (cases e; done) | skip
  · cases e
    obtain ⟨a, vs, rfl, n, h3, q⟩ := r1
    exact ⟨a, vs, rfl, .inl (.inl (.of h3)), fin vs q⟩
  · cases e
    obtain ⟨a, vs, rfl, n, h3, q⟩ := r1
    exact ⟨a, vs, rfl, .inr (.inl (.of h3)), fin vs q⟩
/-- lent: lists of one's own among them -/
abbrev pL0 (c : Cc) : Hp → Hp → (Addr → Prop) → (Addr → Prop) → List D → List V → Prop := fun _ H' N0 N d v => RepL c H' N0 d v
theorem RepW.rep0 {d : D} {v : V} (r : RepW c H N0 N d v) (hs : ∀ a, N0 a → N a) : Rep c H N0 d v := by
  cases d with
  | lst ds =>
    obtain ⟨a, xs, e, n, h, q⟩ := r
    exact ⟨a, xs, e, n, h, q.sub hs⟩
  | _ => exact Rep.sub (N := N) r hs
theorem rd_nil0 {Q : List V → Hp → Prop} (h : rd c (pL0 c) W (evEs cf .nil) σ H Q) : tNil σ H Q := by
  obtain ⟨N0, s, b, R, B, h⟩ := h
  exact h [] H .refl B rfl
theorem rd_cons0 {e : ME} {r : MEs} {Q : List V → Hp → Prop} (h : rd c (pL0 c) W (evEs cf (.cons false e r)) σ H Q) : tCons (rd c (pW c) W (evE cf e)) (rd c (pL0 c) W (evEs cf r)) σ H Q := by
  obtain ⟨N0, s, b, R, B, h⟩ := h
  refine ⟨N0, s, b, R, B, Out.mono (Out.bd (Rp := fun H' => pW c H H' N0 (Nof N0 σ s)) h) fun vx H1 ⟨x, b1, k1, B1, r1, h1⟩ => ?_⟩
  refine ⟨N0, s, b1, R.keep k1, B1, Out.mono (Out.bd (Rp := fun H' => pL0 c H1 H' N0 (Nof N0 σ s)) h1) fun vy H2 ⟨y, b2, k2, B2, r2, h2⟩ => ?_⟩
  exact h2 _ _ .refl B2 ⟨_, _, rfl, (r1.rep0 fun _ => .inl).keep k2 R.bet, r2⟩
theorem rd_not {w : Bool} {a : ME} {Q : VK} (h : rd c (pV c w) W (evE cf (.notE a)) σ H Q) : tNotT c.K (rd c (pW c) W (evE cf a)) σ H Q := by
  obtain ⟨N0, s, b, R, B, h⟩ := h
  refine ⟨N0, s, b, R, B, Out.mono (Out.bd (Rp := fun H' => pW c H H' N0 (Nof N0 σ s)) h) fun vx H1 ⟨x, b1, k1, B1, r1, h1⟩ => ?_⟩
  obtain ⟨t, e, h2⟩ := h1.ofObd
  exact ⟨t, tru_of r1 e, h2 _ _ .refl B1 rfl⟩
theorem rdT_not {a : ME} {Q : Bool → Hp → Prop} (h : rd c (pX (α := Bool)) W (evT cf (.notE a)) σ H Q) : tNot (rd c (pX (α := Bool)) W (evT cf a)) σ H Q := by
  obtain ⟨N0, s, b, R, B, h⟩ := h
  refine ⟨N0, s, b, R, B, Out.mono (Out.bd (Rp := fun H' => pX (α := Bool) H H' N0 (Nof N0 σ s)) h) fun vx H1 ⟨x, b1, k1, B1, r1, h1⟩ => ?_⟩
  obtain rfl : x = vx := r1
  exact h1 _ _ .refl B1 rfl
theorem rd_and {w : Bool} {e e2 : ME} {st : Bool} {r : MEs} {Q : VK} (h : rd c (pV c w) W (evAnd cf (.cons false e (.cons st e2 r))) σ H Q) :
    tAndT c.K (rd c (pV c w) W (evE cf e)) (rd c (pV c w) W (evAnd cf (.cons st e2 r))) σ H Q := by
  obtain ⟨N0, s, b, R, B, h⟩ := h
  refine ⟨N0, s, b, R, B, Out.mono (Out.bd (Rp := fun H' => pV c w H H' N0 (Nof N0 σ s)) h) fun vx H1 ⟨x, b1, k1, B1, r1, h1⟩ => ?_⟩
  obtain ⟨t, e, h2⟩ := h1.ofObd
  refine ⟨t, tru_of r1 e, ?_⟩
  cases t with
  | true => exact ⟨N0, s, b1, R.keep k1, B1, h2⟩
  | false => exact h2 _ _ .refl B1 r1
theorem rd_or {w : Bool} {e e2 : ME} {st : Bool} {r : MEs} {Q : VK} (h : rd c (pV c w) W (evOr cf (.cons false e (.cons st e2 r))) σ H Q) :
    tOrT c.K (rd c (pV c w) W (evE cf e)) (rd c (pV c w) W (evOr cf (.cons st e2 r))) σ H Q := by
  obtain ⟨N0, s, b, R, B, h⟩ := h
  refine ⟨N0, s, b, R, B, Out.mono (Out.bd (Rp := fun H' => pV c w H H' N0 (Nof N0 σ s)) h) fun vx H1 ⟨x, b1, k1, B1, r1, h1⟩ => ?_⟩
  obtain ⟨t, e, h2⟩ := h1.ofObd
  refine ⟨t, tru_of r1 e, ?_⟩
  cases t with
  | true => exact h2 _ _ .refl B1 r1
  | false => exact ⟨N0, s, b1, R.keep k1, B1, h2⟩
theorem rdT_and {e : ME} {r : MEs} {Q : Bool → Hp → Prop} (h : rd c (pX (α := Bool)) W (evTAnd cf (.cons false e r)) σ H Q) : tAnd (rd c (pX (α := Bool)) W (evT cf e)) (rd c (pX (α := Bool)) W (evTAnd cf r)) σ H Q := by
  obtain ⟨N0, s, b, R, B, h⟩ := h
  refine ⟨N0, s, b, R, B, Out.mono (Out.bd (Rp := fun H' => pX (α := Bool) H H' N0 (Nof N0 σ s)) h) fun vx H1 ⟨x, b1, k1, B1, r1, h1⟩ => ?_⟩
  obtain rfl : x = vx := r1
  cases x with
  | true => exact ⟨N0, s, b1, R.keep k1, B1, h1⟩
  | false => exact h1 _ _ .refl B1 rfl
theorem rdT_or {e : ME} {r : MEs} {Q : Bool → Hp → Prop} (h : rd c (pX (α := Bool)) W (evTOr cf (.cons false e r)) σ H Q) : tOr (rd c (pX (α := Bool)) W (evT cf e)) (rd c (pX (α := Bool)) W (evTOr cf r)) σ H Q := by
  obtain ⟨N0, s, b, R, B, h⟩ := h
  refine ⟨N0, s, b, R, B, Out.mono (Out.bd (Rp := fun H' => pX (α := Bool) H H' N0 (Nof N0 σ s)) h) fun vx H1 ⟨x, b1, k1, B1, r1, h1⟩ => ?_⟩
  obtain rfl : x = vx := r1
  cases x with
  | true => exact h1 _ _ .refl B1 rfl
  | false => exact ⟨N0, s, b1, R.keep k1, B1, h1⟩
/-- the last one -/
theorem rdT_and1 {e : ME} {Q : Bool → Hp → Prop} (h : rd c (pX (α := Bool)) W (evTAnd cf (.cons false e .nil)) σ H Q) : rd c (pX (α := Bool)) W (evT cf e) σ H Q := by
  obtain ⟨N0, s, b, R, B, h⟩ := h
  refine ⟨N0, s, b, R, B, Out.mono (Out.bd (Rp := fun H' => pX (α := Bool) H H' N0 (Nof N0 σ s)) h) fun vx H1 ⟨x, b1, k1, B1, r1, h1⟩ => ?_⟩
  obtain rfl : x = vx := r1
  cases x <;> exact h1 _ _ .refl B1 rfl
theorem rdT_or1 {e : ME} {Q : Bool → Hp → Prop} (h : rd c (pX (α := Bool)) W (evTOr cf (.cons false e .nil)) σ H Q) : rd c (pX (α := Bool)) W (evT cf e) σ H Q := by
  obtain ⟨N0, s, b, R, B, h⟩ := h
  refine ⟨N0, s, b, R, B, Out.mono (Out.bd (Rp := fun H' => pX (α := Bool) H H' N0 (Nof N0 σ s)) h) fun vx H1 ⟨x, b1, k1, B1, r1, h1⟩ => ?_⟩
  obtain rfl : x = vx := r1
  cases x <;> exact h1 _ _ .refl B1 rfl
theorem rdT_all1 {e : ME} {Q : Bool → Hp → Prop} (h : rd c (pX (α := Bool)) W (evTs cf (.cons false e .nil)) σ H Q) : rd c (pX (α := Bool)) W (evT cf e) σ H Q := by
  obtain ⟨N0, s, b, R, B, h⟩ := h
  refine ⟨N0, s, b, R, B, Out.mono (Out.bd (Rp := fun H' => pX (α := Bool) H H' N0 (Nof N0 σ s)) h) fun vx H1 ⟨x, b1, k1, B1, r1, h1⟩ => ?_⟩
  obtain rfl : x = vx := r1
  cases x <;> exact h1 _ _ .refl B1 rfl
theorem rdT_all0 {Q : Bool → Hp → Prop} (h : rd c (pX (α := Bool)) W (evTs cf .nil) σ H Q) : tYes σ H Q := by
  obtain ⟨N0, s, b, R, B, h⟩ := h
  exact h _ _ .refl B rfl
theorem rd_iteV {w : Bool} {t a e : ME} {Q : VK} (h : rd c (pV c w) W (evE cf (.ite t a e)) σ H Q) : tIf (rd c (pX (α := Bool)) W (evT cf t)) (rd c (pV c w) W (evE cf a)) (rd c (pV c w) W (evE cf e)) σ H Q := by
  obtain ⟨N0, s, b, R, B, h⟩ := h
  refine ⟨N0, s, b, R, B, Out.mono (Out.bd (Rp := fun H' => pX (α := Bool) H H' N0 (Nof N0 σ s)) h) fun vx H1 ⟨x, b1, k1, B1, r1, h1⟩ => ?_⟩
  obtain rfl : x = vx := r1
  cases x with
  | true => exact ⟨N0, s, b1, R.keep k1, B1, h1⟩
  | false => exact ⟨N0, s, b1, R.keep k1, B1, h1⟩
theorem rd_bi {q : Bi} {a : ME} {Q : VK} (h : rd c (pF c) W (evE cf (.bi q a)) σ H Q) : tCB (rBi c q) (tCons (rd c (pW c) W (evE cf a)) tNil) σ H Q := by
  obtain ⟨N0, s, b, R, B, h⟩ := h
  refine ⟨N0, s, b, R, B, Out.mono (Out.bd (Rp := fun H' => pW c H H' N0 (Nof N0 σ s)) h) fun vx H1 ⟨x, b1, k1, B1, r1, h1⟩ => ?_⟩
  obtain ⟨z, e, h2⟩ := h1.ofO
  exact ⟨N0, _, x, z, vx, rfl, r1, e, OpG.of (R.keep k1) k1 B1 h2⟩
end
end Mi
namespace Mi
open PySem L2
section
variable {X : Cx} {c : Cc} {cf : Cfg} {k : Ck} {W : WX} {σ σ' : L2.St} {H H1 H2 H' : Hp} {N N0 : Addr → Prop} {s s' : Env} {b : Bx}
theorem sel_bet {w : Bool} (h : ∀ b, c.β = some b → N0 b) (hs : ∀ a, N0 a → N a) : ∀ b, c.β = some b → selN w N0 N b := by
  intro a z
  unfold selN
  split
  · exact h a z
  · exact hs a (h a z)
theorem rdS_it {w : Bool} {e : ME} {R : It → Hp → Prop} (h : rd c (pS c w) W (evSrc cf (.it e)) σ H R) : iAny c.K (rd c (pV c w) W (evE cf e)) σ H R := by
  obtain ⟨N0, s, b, R, B, h⟩ := h
  refine ⟨N0, s, b, R, B, Out.mono (Out.bd (Rp := fun H' => pV c w H H' N0 (Nof N0 σ s)) h) fun vx H1 ⟨x, b1, k1, B1, r1, h1⟩ => ?_⟩
  obtain ⟨ds, e, h2⟩ := h1.ofO
  have hs := sel_sub (w := w) (N0 := N0) (N := Nof N0 σ s) fun _ => .inl
  cases x <;> simp only [walkOf] at e <;> first | (cases e; done) | skip
  · cases e
    exact .inr (.inr ⟨_, r1.1, h2 _ _ .refl B1 (src_str r1.2)⟩)
  · cases e
    obtain ⟨a, vs, rfl, n, h3, q⟩ := r1
    exact .inr (.inl ⟨a, vs, rfl, .inl (.of h3), h2 _ _ .refl B1 (src_tup hs (fun z => n (hs a z)) h3 q)⟩)
  · cases e
    obtain ⟨a, vs, rfl, n, h3, q⟩ := r1
    exact .inl ⟨a, vs, rfl, .inl (.of h3), h2 _ _ .refl B1 (src_lst hs n h3 q)⟩
theorem rdS_range {w : Bool} {e : ME} {R : It → Hp → Prop} (h : rd c (pS c w) W (evSrc cf (.range e)) σ H R) : iRng1 (tCons (rd c (pW c) W (evE cf e)) tNil) σ H R := by
  obtain ⟨N0, s, b, R, B, h⟩ := h
  refine ⟨N0, s, b, R, B, Out.mono (Out.bd (Rp := fun H' => pW c H H' N0 (Nof N0 σ s)) h) fun vx H1 ⟨x, b1, k1, B1, r1, h1⟩ => ?_⟩
  obtain ⟨i, e, h2⟩ := h1.ofObd
  obtain ⟨ds, e2, h3⟩ := h2.ofO
  cases x <;> first | (cases e; done) | skip
  cases e
  rw [show vx = V.int i from r1]
  unfold evRange at e2
  split at e2
  · rename_i hb
    cases e2
    refine ⟨i, rfl, hb.2.2.1, hb.2.2.2, h3 _ _ .refl B1 ?_⟩
    rw [Int.sub_zero]
    exact src_range
  · cases e2
theorem rdS_range2 {w : Bool} {e e2 : ME} {R : It → Hp → Prop} (h : rd c (pS c w) W (evSrc cf (.range2 e e2)) σ H R) : iRng2 (tCons (rd c (pW c) W (evE cf e)) (tCons (rd c (pW c) W (evE cf e2)) tNil)) σ H R := by
  obtain ⟨N0, s, b, R, B, h⟩ := h
  refine ⟨N0, s, b, R, B, Out.mono (Out.bd (Rp := fun H' => pW c H H' N0 (Nof N0 σ s)) h) fun vx H1 ⟨x, b1, k1, B1, r1, h1⟩ => ?_⟩
  refine ⟨N0, s, b1, R.keep k1, B1, Out.mono (Out.bd (Rp := fun H' => pW c H1 H' N0 (Nof N0 σ s)) h1) fun vy H2 ⟨y, b2, k2, B2, r2, h2⟩ => ?_⟩
  obtain ⟨i, e, h3⟩ := h2.ofObd
  obtain ⟨j, e2, h4⟩ := h3.ofObd
  obtain ⟨ds, e3, h5⟩ := h4.ofO
  cases x <;> first | (cases e; done) | skip
  cases e
  cases y <;> first | (cases e2; done) | skip
  cases e2
  rw [show vx = V.int i from r1, show vy = V.int j from r2]
  unfold evRange at e3
  split at e3
  · rename_i hb
    cases e3
    exact ⟨i, j, rfl, hb, h5 _ _ .refl B2 src_range⟩
  · cases e3
theorem rdS_enum {w : Bool} {e : ME} {R : It → Hp → Prop} (h : rd c (pS c w) W (evSrc cf (.enum e)) σ H R) : iEnumA c.K (tCons (rd c (pV c w) W (evE cf e)) tNil) σ H R := by
  obtain ⟨N0, s, b, R, B, h⟩ := h
  refine ⟨N0, s, b, R, B, Out.mono (Out.bd (Rp := fun H' => pV c w H H' N0 (Nof N0 σ s)) h) fun vx H1 ⟨x, b1, k1, B1, r1, h1⟩ => ?_⟩
  obtain ⟨ds, e, h2⟩ := h1.ofObd
  have hs := sel_sub (w := w) (N0 := N0) (N := Nof N0 σ s) fun _ => .inl
  cases x <;> simp only [itemsOf] at e <;> first | (cases e; done) | skip
  · cases e
    obtain ⟨a, vs, rfl, n, h3, q⟩ := r1
    exact ⟨a, vs, rfl, .inr ⟨.inl (.of h3), h2 _ _ .refl B1 (src_enumT hs (fun z => n (hs a z)) h3 q)⟩⟩
  · cases e
    obtain ⟨a, vs, rfl, n, h3, q⟩ := r1
    exact ⟨a, vs, rfl, .inl ⟨.inl (.of h3), h2 _ _ .refl B1 (src_enumL hs n h3 q)⟩⟩
theorem rdS_zip {w : Bool} {e e2 : ME} {R : It → Hp → Prop} (h : rd c (pS c w) W (evSrc cf (.zip e e2)) σ H R) : RZ.iZipA c.K (tCons (rd c (pV c w) W (evE cf e)) (tCons (rd c (pV c w) W (evE cf e2)) tNil)) σ H R := by
  obtain ⟨N0, s, b, R, B, h⟩ := h
  refine ⟨N0, s, b, R, B, Out.mono (Out.bd (Rp := fun H' => pV c w H H' N0 (Nof N0 σ s)) h) fun vx H1 ⟨x, b1, k1, B1, r1, h1⟩ => ?_⟩
  refine ⟨N0, s, b1, R.keep k1, B1, Out.mono (Out.bd (Rp := fun H' => pV c w H1 H' N0 (Nof N0 σ s)) h1) fun vy H2 ⟨y, b2, k2, B2, r2, h2⟩ => ?_⟩
  obtain ⟨ds, e, h3⟩ := h2.ofO
  have hs := sel_sub (w := w) (N0 := N0) (N := Nof N0 σ s) fun _ => .inl
  have r1 := r1.keep k2 (sel_bet (N := Nof N0 σ s) R.bet fun _ => .inl) hs
  cases x <;> cases y <;> simp only [zipOf] at e <;> first | (cases e; done) | skip
  · cases e
    obtain ⟨a, vs, rfl, n, h4, q⟩ := r1
    obtain ⟨a2, vs2, rfl, n2, h5, q2⟩ := r2
    exact ⟨a, a2, vs, vs2, rfl, .inr ⟨.inl (.of h4), .inl (.of h5), h3 _ _ .refl B2 (src_zipT hs (fun z => n (hs a z)) h4 q (fun z => n2 (hs a2 z)) h5 q2)⟩⟩
  · cases e
    obtain ⟨a, vs, rfl, n, h4, q⟩ := r1
    obtain ⟨a2, vs2, rfl, n2, h5, q2⟩ := r2
    exact ⟨a, a2, vs, vs2, rfl, .inl ⟨.inl (.of h4), .inl (.of h5), h3 _ _ .refl B2 (src_zipL hs n h4 q n2 h5 q2)⟩⟩
theorem Rel.keepN (R : Rel c H N0 σ s) (k : ∀ a o, ¬ N0 a → H a = some o → H' a = some o) (fr : ∀ a, N0 a → H' a ≠ none) : Rel c H' N0 σ s where
  len := R.len
  vl := fun i d e => let ⟨v, h, q⟩ := R.vl i d e; ⟨v, h, Rep.keepN (fun a o n h => k a o (fun z => n (.inl z)) h) d v q⟩
  ow := fun i d e => by
    obtain ⟨a, h, q, n⟩ := R.ow i d e
    refine ⟨a, h, ?_, n⟩
    cases d with
    | lst ds =>
      obtain ⟨xs, h1, h2⟩ := q
      exact ⟨xs, k a _ n h1, RepL.keepN (fun a o n h => k a o (fun z => n (.inl z)) h) ds xs h2⟩
    | _ => exact q.elim
  dis := R.dis
  dom := fr
  bet := R.bet
/-- a new list besides -/
theorem Rel.more {D : Addr} {xs : List V} (R : Rel c H N0 σ s) (hD : H D = none) : Rel c (upd H D (.lst xs)) (fun a => N0 a ∨ a = D) σ s where
  len := R.len
  vl := fun i d e => by
    obtain ⟨v, h, q⟩ := R.vl i d e
    refine ⟨v, h, ?_⟩
    have q1 : Rep c H (Nof (fun a => N0 a ∨ a = D) σ s) d v := Rep.anti (fun a z => by
      rcases z with (z | z) | z
      · exact .inl (.inl z)
      · exact .inr (by rw [z]; exact hD)
      · exact .inl (.inr z)) d v q
    exact q1.keep (.laid hD) fun b z => .inl (.inl (R.bet b z))
  ow := fun i d e => by
    obtain ⟨a, h, q, n⟩ := R.ow i d e
    have hne : H a ≠ none := by
      cases d with
      | lst ds =>
        obtain ⟨xs, h1, _⟩ := q
        rw [h1]
        exact fun z => nomatch z
      | _ => exact q.elim
    refine ⟨a, h, ?_, fun z => z.elim n fun z => hne (by rw [z]; exact hD)⟩
    cases d with
    | lst ds =>
      obtain ⟨ys, h1, h2⟩ := q
      refine ⟨ys, by rw [upd_ne (fun z => hne (by rw [z]; exact hD))]; exact h1, ?_⟩
      have q1 : RepL c H (Nof (fun a => N0 a ∨ a = D) σ s) ds ys := RepL.anti (fun a z => by
        rcases z with (z | z) | z
        · exact .inl (.inl z)
        · exact .inr (by rw [z]; exact hD)
        · exact .inl (.inr z)) ds ys h2
      exact q1.keep (.laid hD) fun b z => .inl (.inl (R.bet b z))
    | _ => exact q.elim
  dis := R.dis
  dom := fun a z => by
    rcases z with z | z
    · intro e
      by_cases ea : a = D
      · rw [ea, upd_same] at e; cases e
      · rw [upd_ne ea] at e; exact R.dom a z e
    · rw [z, upd_same]; exact fun z => nomatch z
  bet := fun b z => .inl (R.bet b z)
theorem kill_own {is : List Nat} {i : Nat} {d : D} (h : (s.kill is)[i]? = some (.ow d)) : i ∉ is ∧ s[i]? = some (.ow d) := by
  by_cases hi : i ∈ is
  · exfalso
    induction is with
    | nil => cases hi
    | cons j js ih =>
      unfold Env.kill at h
      rcases get_set h with ⟨_, e⟩ | ⟨ne, h⟩
      · cases e
      · exact ih h ((List.mem_cons.mp hi).resolve_left ne)
  · exact ⟨hi, by rw [kill_get hi] at h; exact h⟩
theorem noOw_get {is : List Nat} {i : Nat} {d : D} (h : s.noOw is = true) (e : s[i]? = some (.ow d)) : i ∉ is := by
  intro hi
  unfold Env.noOw at h
  have := List.all_eq_true.mp h i hi
  rw [e] at this
  cases this
theorem compGo_cons {f : D → M (Option D)} {d : D} {ds rs : List D} {b b2 : Bx} (h : compGo f (d :: ds) b = .ok rs b2) :
    ∃ o b1 r, f d b = .ok o b1 ∧ compGo f ds b1 = .ok r b2 ∧ rs = (match o with | some x => x :: r | none => r) := by
  have h' : ((f d).bd fun o => (compGo f ds).bd fun r => M.ret (match o with | some x => x :: r | none => r)) b = .ok rs b2 := h
  unfold M.bd at h'
  cases e : f d b with
  | ok o b1 =>
    rw [e] at h'
    simp only at h'
    cases e2 : compGo f ds b1 with
    | ok r b3 =>
      rw [e2] at h'
      cases h'
      exact ⟨o, b1, r, rfl, e2, rfl⟩
    | _ => rw [e2] at h'; cases h'
  | _ => rw [e] at h'; cases h'
abbrev W0 : WX := fun _ _ _ _ => False
theorem bd_ok {α β : Type} {m : M α} {f : α → M β} {b b2 : Bx} {y : β} (h : (m.bd f) b = .ok y b2) : ∃ x b1, m b = .ok x b1 ∧ f x b1 = .ok y b2 := by
  unfold M.bd at h
  cases e : m b with
  | ok x b1 => rw [e] at h; exact ⟨x, b1, rfl, h⟩
  | _ => rw [e] at h; cases h
theorem rd_comp {e : ME} {t : MT} {r : MSrc} {ifs : MEs} {own : List Nat} {Q : VK} (hK : c.K = c.K) (ht : ∀ i ∈ tSlots t, i ∈ own) (h : rd c (pF c) W (evE cf (.comp e t r ifs own)) σ H Q) :
    tLc (rd c (pS c true) W (evSrc cf r)) (rdG c t) (rd c (pX (α := Bool)) W0 (evTs cf ifs)) (rd c (pE c) W0 (evE cf e)) own σ H Q := by
  obtain ⟨N0, s, b, R, B, h⟩ := h
  refine ⟨N0, s, b, R, B, Out.mono (Out.bd (Rp := fun H' => pS c true H H' N0 (Nof N0 σ s)) h) fun J H1 ⟨ds, b1, k1, B1, S, h1⟩ => ?_⟩
  have hno : s.noOw own = true := Classical.byContradiction fun z => by rw [if_neg z] at h1; exact h1.elim
  rw [if_pos hno] at h1
  generalize hf : (fun d => match bindT t d (s.kill own) with
        | some s1 => (evTs cf ifs s1).bd fun k => if k = true then (evP cf e s1).1.bd fun x => M.ret (some x) else M.ret none
        | none => M.no : D → M (Option D)) = f at h1
  intro D hD
  obtain ⟨n, G, Y, hn, walk, hG, hY⟩ := S
  unfold M.bd M.nex at h1
  cases ec : compGo f ds b1 with
  | no => rw [ec] at h1; exact h1.elim
  | ex kk as b2 => rw [ec] at h1; exact h1.elim
  | ok rs b2 =>
    rw [ec] at h1
    simp only at h1
    have hl : rs.length ≤ lineMax := Classical.byContradiction fun z => by rw [if_neg z] at h1; exact h1.elim
    rw [if_pos hl] at h1
    have R1 := R.keep k1
    have neD : ∀ a o, H1 a = some o → a ≠ D := fun a o h z => by rw [z, hD] at h; cases h
    have bD : ∀ a, c.β = some a → a ≠ D := fun a z e => R1.dom a (R1.bet a z) (by rw [e]; exact hD)
    -- the invariant
    refine lc_it walk (fun i H' => ∃ acc vs bi rest, H' D = some (.lst vs) ∧ RepL c H' (fun a => Nof N0 σ s a ∨ a = D) acc vs ∧ BoxAt c H' bi ∧ (∀ a o, c.β ≠ some a → H1 a = some o → H' a = some o) ∧ (∀ a, H' a = none → H1 a = none) ∧
      compGo f (ds.drop i) bi = .ok rest b2 ∧ rs = acc ++ rest) ?_ ?_ ?_ ?_
    · refine ⟨[], [], b1, rs, upd_same, rfl, B1.same (same_laid hD), fun a o _ h => same_laid hD a o h, fun a h => ?_, ec, rfl⟩
      by_cases ea : a = D
      · rw [ea]; exact hD
      · rwa [upd_ne ea] at h
    · rintro i H' hi ⟨acc, vs, bi, rest, e1, e2, e3, e4, e5, e6, e7⟩
      exact hG H' fun a o hn h => e4 a o (fun z => hn (R.bet a z)) h
    · rintro i x H' H'' hi ⟨acc, vs, bi, rest, e1, e2, e3, e4, e5, e6, e7⟩ y
      have hid : i < ds.length := by rw [← hn]; exact hi
      have ed : ds.drop i = ds[i] :: ds.drop (i + 1) := List.drop_eq_getElem_cons hid
      rw [ed] at e6
      obtain ⟨o, bj, rr, f1, f2, f3⟩ := compGo_cons e6
      have K1 : Keep c H1 H' := ⟨e4, e5⟩
      -- the slots in the block
      have RD : Rel c H' (fun a => N0 a ∨ a = D) (wipe σ own) (s.kill own) := by
        refine ((R1.kill own).more (xs := []) hD).keepN (fun a o hn h => ?_) fun a z => ?_
        · have ea : a ≠ D := fun z => hn (.inr z)
          rw [upd_ne ea] at h
          exact e4 a o (fun z => hn (.inl (R.bet a z))) h
        · rcases z with z | z
          · exact fun q => R1.dom a z (e5 a q)
          · rw [z, e1]; exact fun z => nomatch z
      have sub1 : ∀ a, Nof (fun a => N0 a ∨ a = D) (wipe σ own) (s.kill own) a → Nof N0 σ s a ∨ H1 a = none := by
        rintro a ((z | z) | ⟨j, d, z1, z2⟩)
        · exact .inl (.inl z)
        · exact .inr (by rw [z]; exact hD)
        · obtain ⟨hj, z1⟩ := kill_own z1
          rw [wipe_get hj] at z2
          exact .inl (.inr ⟨j, d, z1, z2⟩)
      obtain ⟨ext, rx⟩ := hY i H' x H'' ds[i] (Nof (fun a => N0 a ∨ a = D) (wipe σ own) (s.kill own)) (fun a o hn h => e4 a o (fun z => hn (R.bet a z)) h) sub1 (fun a => RD.domN) RD.betN (by simp [hid]) y
      have KE := Keep.ofSame (c := c) ext
      rw [← hf] at f1
      simp only at f1
      cases eb : bindT t ds[i] (s.kill own) with
      | none => rw [eb] at f1; cases f1
      | some s1 =>
        rw [eb] at f1
        refine ⟨_, _, _, s1, RD.keep KE, rx, eb, fun σ2 R2 hl2 hs2 hn2 => ?_⟩
        refine ⟨wipe_eq (by rw [hl2, wipe_length]) fun j hj => ?_, ?_⟩
        · rw [(hs2 j fun z => hj (ht j z)).1, wipe_get hj]
        have own2 : ∀ a, IsOwn σ s a → IsOwn σ2 s1 a := by
          rintro a ⟨j, d, z1, z2⟩
          have hj := noOw_get hno z1
          have hj2 : j ∉ tSlots t := fun z => hj (ht j z)
          refine ⟨j, d, ?_, ?_⟩
          · rw [(hs2 j hj2).2, kill_get hj]; exact z1
          · rw [(hs2 j hj2).1, wipe_get hj]; exact z2
        obtain ⟨kt, bk, f4, f5⟩ := bd_ok f1
        refine ⟨_, s1, bi, R2, e3.same ext, ?_⟩
        rw [f4]
        intro v H3 K3 B3 ev
        have ev : kt = v := ev
        subst ev
        cases kt with
        | true =>
          rw [if_pos rfl]
          rw [if_pos rfl] at f5
          obtain ⟨xx, bx, f6, f7⟩ := bd_ok f5
          cases f7
          refine ⟨_, s1, bk, R2.keep K3, B3, ?_⟩
          have f6' : evE cf e s1 bk = .ok xx bj := f6
          rw [f6']
          intro yv H4 K4 B4 ry
          have f3 : rest = xx :: rr := f3
          have K14 : Keep c H' H4 := (KE.trans K3).trans K4
          have hD4 : H4 D = some (.lst vs) := K14.kp D _ (fun z => bD D z rfl) e1
          have K5 : ∀ a o, a ≠ D → H4 a = some o → upd H4 D (.lst (vs ++ [yv])) a = some o := fun a o n h => by rw [upd_ne n]; exact h
          refine ⟨vs, hD4, ?_, acc ++ [xx], vs ++ [yv], bj, rr, upd_same, ?_, ?_, fun a o hb h => ?_, fun a h => ?_, f2, ?_⟩
          · have h1 := e2.length
            have h2 : rs.length = acc.length + (rr.length + 1) := by rw [e7, f3, List.length_append, List.length_cons]
            have := line_ok hl
            omega
          · refine RepL.keepN (N := fun a => Nof N0 σ s a ∨ a = D) (H := H4) (fun a o n h => K5 a o (fun z => n (.inr z)) h) _ _ (RepL.append (e2.keep K14 fun b z => .inl (.inl (R.bet b z))) (.one (ry.sub ?_)))
            rintro a ((z | z) | z)
            · exact .inl (.inl z)
            · exact .inr (own2 a z)
            · exact .inl (.inr z)
          · cases bj with
            | none => trivial
            | some p =>
              obtain ⟨i1, i2, i3⟩ := p
              obtain ⟨a, z1, z2⟩ := B4
              exact ⟨a, z1, K5 a _ (bD a z1) z2⟩
          · exact K5 a o (neD a o h) (K14.kp a o hb (e4 a o hb h))
          · by_cases ea : a = D
            · rw [ea]; exact hD
            · rw [upd_ne ea] at h
              exact e5 a (K14.fr a h)
          · rw [e7, f3]; simp
        | false =>
          rw [if_neg (by decide)]
          rw [if_neg (by decide)] at f5
          cases f5
          have f3 : rest = rr := f3
          have K13 : Keep c H' H3 := KE.trans K3
          refine ⟨acc, vs, bj, rr, K13.kp D _ (fun z => bD D z rfl) e1, e2.keep K13 fun b z => .inl (.inl (R.bet b z)), B3, fun a o hb h => K13.kp a o hb (e4 a o hb h), fun a h => e5 a (K13.fr a h), f2, ?_⟩
          rw [e7, f3]
    · rintro H' ⟨acc, vs, bi, rest, e1, e2, e3, e4, e5, e6, e7⟩
      have ed : ds.drop n = [] := List.drop_eq_nil_of_le (by omega)
      rw [ed] at e6
      cases e6
      rw [List.append_nil] at e7
      subst e7
      refine h1 _ H' ⟨e4, e5⟩ e3 ⟨D, vs, rfl, k1.fr D hD, e1, e2⟩
end
end Mi
namespace HT
open PySem PySem.Spec PyProof.Rows
section
variable {prog : Program} {w : World} {A : Around} {E : Value → Shared → Prop} {s : Shared}
theorem sliceApplied_rev {sl : Addr} {vl vu vs : Value} {n : Nat} {Q : Int × Int × Nat → Shared → Prop} (hs : s.heap.IsSliceOf sl vl vu vs) (pl : IsPart vl none) (pu : IsPart vu none) (ps : IsPart vs (some (-1)))
    (h : Q (((n : Int) - 1), -1, n) s) : wpAny (model prog w) A (Builtin.Slice.sliceApplied (.ref sl) (pure (n : Int))) Q E s := by
  obtain ⟨os, hos, hcs, hds⟩ := id hs
  unfold Builtin.Slice.sliceApplied Builtin.Slice.sliceFields
  refine wpAny_bind (wpAny_bind (wpAny_field hos hds (x := vl) rfl (wpAny_bind (wpAny_field hos hds (x := vu) rfl (wpAny_bind (wpAny_field hos hds (x := vs) rfl (wpAny_pure ?_)))))))
  refine wpAny_bind (slicePart_ ps ?_)
  show wpAny _ _ (if ((-1 : Int) == 0) = true then _ else _) _ _ s
  rw [if_neg (by decide)]
  refine wpAny_bind (slicePart_ pl (wpAny_bind (slicePart_ pu (wpAny_bind (wpAny_pure ?_)))))
  have e1 : Builtin.Slice.sliceAdjust none none (-1) (n : Int) = ((n : Int) - 1, -1) := by
    unfold Builtin.Slice.sliceAdjust
    simp
  have e2 : Builtin.Slice.slicePlaces ((n : Int) - 1) (-1) (-1) = n := by
    unfold Builtin.Slice.slicePlaces
    rw [if_neg (by decide)]
    by_cases hn : (n : Int) - 1 > -1
    · rw [if_pos hn, show (-(-1) : Int) = 1 by decide, Int.ediv_one]
      omega
    · rw [if_neg hn]
      omega
  show wpAny _ _ (match Builtin.Slice.sliceAdjust none none (-1) (n : Int) with | (lo, hi) => pure (lo, (-1 : Int), Builtin.Slice.slicePlaces lo hi (-1))) _ _ s
  rw [e1]
  show wpAny _ _ (pure ((n : Int) - 1, (-1 : Int), Builtin.Slice.slicePlaces ((n : Int) - 1) (-1) (-1))) _ _ s
  rw [e2]
  exact wpAny_pure h
theorem filterMap_cong {α β : Type} {f g : α → Option β} : ∀ {l : List α}, (∀ x ∈ l, f x = g x) → l.filterMap f = l.filterMap g
  | [], _ => rfl
  | x :: l, h => by
    have h1 := h x (List.mem_cons_self ..)
    have h2 := filterMap_cong (l := l) fun y hy => h y (List.mem_cons_of_mem _ hy)
    rw [List.filterMap_cons, List.filterMap_cons, h1, h2]
theorem pick_rev (xs : Array Value) : ((List.range xs.size).filterMap fun (m : Nat) => xs[(((xs.size : Int) - 1) + (m : Int) * (-1)).toNat]?).toArray = xs.toList.reverse.toArray := by
  have e : ((List.range xs.size).filterMap fun (m : Nat) => xs[(((xs.size : Int) - 1) + (m : Int) * (-1)).toNat]?) = ((List.range xs.size).map fun k => xs.size - 1 - k).filterMap (xs[·]?) := by
    rw [List.filterMap_map]
    refine filterMap_cong fun m hm => ?_
    have := List.mem_range.mp hm
    have e : (((xs.size : Int) - 1) + (m : Int) * (-1)).toNat = xs.size - 1 - m := by omega
    show xs[(((xs.size : Int) - 1) + (m : Int) * (-1)).toNat]? = xs[xs.size - 1 - m]?
    rw [e]
  rw [e, PySem.W.krv_range, List.filterMap_reverse, PySem.W.krv_all]
theorem getItem_tuple_rev {t sl : Addr} {items : Array Value} {vl vu vs : Value} {Q : Value → Shared → Prop} (ht : IsTup s.heap t items) (hs : s.heap.IsSliceOf sl vl vu vs) (pl : IsPart vl none) (pu : IsPart vu none) (ps : IsPart vs (some (-1)))
    (h : Q (.ref s.heap.objs.size) { s with heap := s.heap.push { cls := .type "tuple", data := .seq items.toList.reverse.toArray } })
    (hsz : items.size ≤ sizeLine) : wpAny (model prog w) A (getItem (.ref t) (.ref sl)) Q E s := by
  have htake : sizeOk (.seq items.toList.reverse.toArray) := by
    show items.toList.reverse.toArray.size ≤ sizeLine
    rw [List.size_toArray, List.length_reverse, Array.length_toList]
    exact hsz
  obtain ⟨os, hos, hcs, hds⟩ := id hs
  have hTs : s.TypeIs (.ref sl) "slice" := ⟨os, hos, hcs⟩
  unfold getItem
  try with_reducible refine wpAny_holding ?_
  first | refine wpAny_bind (wpAny_pure ?_) | skip
  refine wpAny_bind (wpAny_sequenceKey ht.typeIs (by decide) ?_)
  refine wpAny_bind (wpAny_callSpecial?_slot (name := Str.ofString "__getitem__") ht.typeIs PyProof.Rows.slot_tuple_getitem
    (wpAny_call_entry PyProof.Rows.slot_tuple_getitem ht.typeIs entry_tuple_getitem ?_ (args_tuple_getitem _ _)))
  show wpAny _ _ (Builtin.Tuple.tupleItemsOf (.ref t) >>= _) _ _ s
  refine wpAny_bind (tupleItemsOf_ ht ?_)
  refine wpAny_bind (wpAny_typeOf hTs ?_)
  rw [if_pos (by decide)]
  refine wpAny_bind (sliceApplied_rev hs pl pu ps ?_)
  have hno : ¬ ((((items.size : Int) - 1) == 0 && (-1 : Int) == 1 && items.size == items.size) = true) := by
    intro q
    rw [Bool.and_eq_true, Bool.and_eq_true] at q
    exact absurd (eq_of_beq q.1.2) (by decide)
  show wpAny _ _ (if (((items.size : Int) - 1) == 0 && (-1 : Int) == 1 && items.size == items.size) = true then _ else _) _ _ s
  rw [if_neg hno, pick_rev]
  first
    | exact wpAny_bind (m := Builtin.Tuple.tupleExact _) (wpAny_newObj_type (wpAny_pure ⟨_, rfl, wpAny_pure h⟩) htake)
    | exact wpAny_bind (m := Builtin.Tuple.tupleExact _) (wpAny_newObj_type (wpAny_bind (wpAny_pure (wpAny_pure ⟨_, rfl, wpAny_pure h⟩))) htake)
    | exact wpAny_bind (wpAny_bind (m := Builtin.Tuple.tupleExact _) (wpAny_newObj_type (wpAny_pure (wpAny_pure ⟨_, rfl, wpAny_pure h⟩)) htake))
    | exact wpAny_bind (wpAny_bind (m := Builtin.Tuple.tupleExact _) (wpAny_newObj_type (wpAny_pure ⟨_, rfl, wpAny_pure h⟩) htake))
end
end HT
namespace Mi
open PySem L2
section
variable {X : Cx}
def tRevA (K : PySem.W.Frag) (te : TE) : TE := fun σ H Q => te σ H fun x H1 => ∃ a xs, x = .ref a ∧ ((SqL K H1 a xs ∧ ∀ p, H1 p = none → Q (.ref p) (upd H1 p (.lst xs.reverse))) ∨ (SqT K H1 a xs ∧ ∀ p, H1 p = none → Q (.ref p) (upd H1 p (.tup xs.reverse))))
open PySem.Spec PyProof.Rows in
theorem pe_revA {e : Expr} {te : TE} {k : Nat} {p1 p2 p3 pos : Pos} (he : PE X e te) : PE X (.Subscript e (.Slice none none (some (.UnaryOp .USub (.Constant (.int 1) k p1) p2)) p3) pos) (tRevA X.K te) := by
  refine ⟨fun pins s σ H Q I h => ?_⟩
  refine Subscript_ (thn (he.run pins s σ H _ I h) fun v s1 ⟨x, H1, I1, r1, q1⟩ => ?_)
  obtain ⟨a, xs, ex, hx⟩ := q1
  subst ex
  cases r1
  have hst : PO X (some (.UnaryOp .USub (.Constant (.int 1) k p1) p2)) (tPart (tUn (rU fun i => .int (-i)) (tC (.int 1)))) := po_some (pe_un un_neg pe_int)
  refine wpAny_Slice (thn (po_none.run pins s1 σ H1 (fun o H2 => o = none ∧ H2 = H1) I1 ⟨rfl, rfl⟩) fun vl s2 ⟨l, H2, I2, pl, el, e2⟩ => ?_)
  subst el e2
  refine thn (po_none.run pins s2 σ H2 (fun o H3 => o = none ∧ H3 = H2) I2 ⟨rfl, rfl⟩) fun vu s3 ⟨u, H3, I3, pu, eu, e3⟩ => ?_
  subst eu e3
  refine thn (hst.run pins s3 σ H3 (fun o H4 => o = some (-1) ∧ H4 = H3) I3 ⟨1, rfl, -1, rfl, rfl, rfl⟩) fun vs s4 ⟨o, H4, I4, ps, eo, e4⟩ => ?_
  subst eo e4
  have I5 : Inv X pins σ H4 { s4 with heap := s4.heap.push { cls := .type "slice", data := .fields #[vl, vu, vs] } } := I4.kept (t' := s4.toks) fun b ob q => Heap.get?_push_of_some _ q
  show wpAny (model X.prog X.w) X.A (subscriptTail e (.Slice none none (some (.UnaryOp .USub (.Constant (.int 1) k p1) p2)) p3) (.ref a) (.ref s4.heap.objs.size)) (EP X pins σ Q) X.xe { s4 with heap := s4.heap.push { cls := .type "slice", data := .fields #[vl, vu, vs] } }
  rcases hx with ⟨hx, q⟩ | ⟨hx, q⟩
  · obtain ⟨its, r, ht, hz⟩ := I5.list hx
    have hlen := r.length
    refine tail_any (ops := [.ref a, .ref s4.heap.objs.size]) ht.isList.typeIs (PySem.slot_list_getitem.lookup) ?_ (by with_unfolding_all rfl)
    refine wpAny_getItem_list_slice ht.isList (Heap.IsSliceOf.new _ vl vu vs) pl pu ps (by decide) ?_ (by rw [List.size_toArray]; omega)
    rw [PySem.W.krv_pick]
    refine ⟨.ref _, _, I5.laid (t' := s4.toks) (o := .lst xs.reverse) (fun b ob q => Heap.get?_push_of_some _ q) (Nat.le_refl _) ?_, rfl, q _ (I5.hok.fresh (Nat.le_refl _))⟩
    exact ⟨by rw [List.length_reverse]; exact hz, _, 0, r.reverse, Heap.get?_push_size _ rfl⟩
  · obtain ⟨its, r, ht, hz⟩ := I5.tuple hx
    have hlen := r.length
    refine tail_any (ops := [.ref a, .ref s4.heap.objs.size]) ht.typeIs (PyProof.Rows.slot_tuple_getitem.lookup) ?_ (by with_unfolding_all rfl)
    refine HT.getItem_tuple_rev ht (Heap.IsSliceOf.new _ vl vu vs) pl pu ps ?_ (by rw [List.size_toArray]; omega)
    refine ⟨.ref _, _, I5.laid (t' := s4.toks) (o := .tup xs.reverse) (fun b ob q => Heap.get?_push_of_some _ q) (Nat.le_refl _) ?_, rfl, q _ (I5.hok.fresh (Nat.le_refl _))⟩
    exact ⟨by rw [List.length_reverse]; exact hz, its.reverse, r.reverse, ⟨_, Heap.get?_push_size _ rfl, rfl, 0, rfl⟩⟩
theorem rd_rev {c : Cc} {cf : Cfg} {W : WX} {σ : L2.St} {H : Hp} {w : Bool} {a : ME} {Q : VK} (h : rd c (pV c w) W (evE cf (.rev a)) σ H Q) : tRevA c.K (rd c (pW c) W (evE cf a)) σ H Q := by
  obtain ⟨N0, s, b, R, B, h⟩ := rd_VF h
  refine ⟨N0, s, b, R, B, Out.mono (Out.bd (Rp := fun H' => pW c H H' N0 (Nof N0 σ s)) h) fun vx H1 ⟨x, b1, k1, B1, r1, h1⟩ => ?_⟩
  obtain ⟨z, e, h2⟩ := h1.ofO
  have g := OpG.of (R.keep k1) k1 B1 h2
  cases x <;> simp only [evRev] at e <;> first | (cases e; done) | skip
  · cases e
    obtain ⟨p, vs, e0, n, h4, q⟩ := r1
    exact ⟨p, vs, e0, .inr ⟨.inl (.of h4), fun p hp => g.tup hp q.reverse⟩⟩
  · cases e
    obtain ⟨p, vs, e0, n, h4, q⟩ := r1
    exact ⟨p, vs, e0, .inl ⟨.inl (.of h4), fun p hp => g.lst hp q.reverse⟩⟩
end
section
variable {X : Cx} {c : Cc} {cf : Cfg} {k : Ck} {W : WX} {σ : L2.St} {H : Hp} {N N0 : Addr → Prop}
/-- the class of a value, by what isinstance says of it -/
theorem ty_of (G : GX X c cf k W) {d : D} {v : V} {t0 : Ty} {b0 : Bool} (r : RepW c H N0 N d v) (h0 : D.isTy d t0 = some b0) :
    ∃ tv, KitV c.K H v tv ∧ ∀ t cv u b, TyIs X.mg k.cls t cv u → D.isTy d t = some b → PySem.W.kitOne c.K tv u = some b := by
  cases ed : tyTag d with
  | some x =>
    refine ⟨_, TyX.kit (tyX_of r ed), fun t cv u b hy hb => ?_⟩
    rcases hy with ⟨y, hy, _, rfl⟩ | ⟨j, C, rfl, _⟩
    · exact kit_ty (kit_of_ty hb ed hy)
    · cases d <;> simp only [tyTag] at ed <;> first | (cases ed; done) | (simp only [D.isTy] at hb; cases hb)
  | none =>
    cases d <;> simp only [tyTag] at ed <;> first | (cases ed; done) | skip
    · exact (show False from r).elim
    · cases t0 <;> cases h0
    · cases t0 <;> cases h0
    · rename_i j as
      obtain ⟨a, o, dd, xs, rfl, n, h1, h2, h5, _⟩ := r
      obtain ⟨tv, h3, h4⟩ := G.evs _ _ _ _ _ h2 h1 (fun e z => by
        unfold DictAt at h5
        split at h5
        · rw [h5] at z; cases z
        · obtain ⟨e', x, q1, _, q2, _⟩ := h5
          rw [q1] at z
          cases z
          exact ⟨_, q2⟩)
      refine ⟨tv, h3, fun t cv u b hy hb => h4 t cv u b hy ?_⟩
      rw [← hb]
      cases t <;> rfl
theorem isi_one {x : D} {t : Ty} {z : Bool} (e : anyTy x [t] = some z) : D.isTy x t = some z := by
  simp only [anyTy] at e
  split at e
  · cases e; assumption
  · cases e; assumption
  · cases e
theorem rd_isi (G : GX X c cf k W) {w o : Bool} {t : Ty} {cv : V} {u : Value} {a : ME} {Q : VK} (hy : TyIs X.mg k.cls t cv u) (h : rd c (pV c w) W (evE cf (.isi a o [t])) σ H Q) : tCB (rIsiV c.K) (tCons (rd c (pW c) W (evE cf a)) (tCons (tC cv) tNil)) σ H Q := by
  obtain ⟨N0, s, b, R, B, h⟩ := rd_VF h
  refine ⟨N0, s, b, R, B, Out.mono (Out.bd (Rp := fun H' => pW c H H' N0 (Nof N0 σ s)) h) fun vx H1 ⟨x, b1, k1, B1, r1, h1⟩ => ?_⟩
  obtain ⟨z, e, h2⟩ := h1.ofObd
  have e2 := isi_one e
  obtain ⟨tv, h3, h4⟩ := ty_of G r1 e2
  have hc : ClsV cv u := by
    rcases hy with ⟨y, _, rfl, rfl⟩ | ⟨j, C, _, _, _, rfl, rfl⟩
    · exact .ty y
    · exact .own C
  exact ⟨vx, cv, tv, u, _, rfl, hc, h3, h4 t cv u _ hy e2, h2 _ _ .refl B1 rfl⟩
/-- several of them -/
def TysIs (mg : Str → Option Value) (cls : List Str) : List Ty → List V → List Value → Prop
  | [], cs, us => cs = [] ∧ us = []
  | t :: ts, cs, us => ∃ cv u cs' us', cs = cv :: cs' ∧ us = u :: us' ∧ TyIs mg cls t cv u ∧ TysIs mg cls ts cs' us'
def tVs : List V → TA
  | [] => tNil
  | y :: ys => tCons (tC y) (tVs ys)
theorem tVs_run : ∀ (ys : List V) {σ : L2.St} {H : Hp} {Q : List V → Hp → Prop}, Q ys H → tVs ys σ H Q
  | [], _, _, _, h => h
  | y :: ys, σ, H, Q, h => tVs_run ys (Q := fun xs H2 => Q (y :: xs) H2) h
theorem cls_all {mg : Str → Option Value} {cls : List Str} : ∀ {ts : List Ty} {cs : List V} {us : List Value}, TysIs mg cls ts cs us → Paired ClsV cs us
  | [], _, _, ⟨h1, h2⟩ => by rw [h1, h2]; exact .nil
  | t :: ts, _, _, ⟨cv, u, cs', us', h1, h2, hy, h⟩ => by
    rw [h1, h2]
    refine .cons ?_ (cls_all h)
    rcases hy with ⟨y, _, rfl, rfl⟩ | ⟨j, C, _, _, _, rfl, rfl⟩
    · exact .ty y
    · exact .own C
theorem kit_all {mg : Str → Option Value} {cls : List Str} {K : PySem.W.Frag} {tv : Value} {d : D} (h : ∀ t cv u b, TyIs mg cls t cv u → D.isTy d t = some b → PySem.W.kitOne K tv u = some b) : ∀ {ts : List Ty} {cs : List V} {us : List Value} {b : Bool}, TysIs mg cls ts cs us → anyTy d ts = some b →
    PySem.W.kitAny K tv us = some b
  | [], _, us, b, ⟨_, e⟩, e2 => by
    subst e; cases e2; rfl
  | t :: ts, _, _, b, ⟨cv, u, cs', us', h1, h2, hy, hs⟩, e2 => by
    subst h2
    simp only [anyTy] at e2
    split at e2
    · cases e2
      rename_i e5
      unfold PySem.W.kitAny
      rw [h t cv u true hy e5]
    · rename_i e5
      unfold PySem.W.kitAny
      rw [h t cv u false hy e5]
      exact kit_all h hs e2
    · cases e2
theorem any_one {d : D} {ts : List Ty} {b : Bool} (hn : ts ≠ []) (h : anyTy d ts = some b) : ∃ t b, D.isTy d t = some b := by
  cases ts with
  | nil => exact absurd rfl hn
  | cons t ts =>
    simp only [anyTy] at h
    split at h
    · exact ⟨t, _, by assumption⟩
    · exact ⟨t, _, by assumption⟩
    · cases h
theorem rd_isiT (G : GX X c cf k W) {w o : Bool} {ts : List Ty} {cs : List V} {us : List Value} {a : ME} {Q : VK} (hn : ts ≠ []) (hy : TysIs X.mg k.cls ts cs us) (hl : cs.length ≤ sizeLine) (h : rd c (pV c w) W (evE cf (.isi a o ts)) σ H Q) :
    tCB (rIsiTV c.K) (tCons (rd c (pW c) W (evE cf a)) (tCons (tTup (tVs cs)) tNil)) σ H Q := by
  obtain ⟨N0, s, b, R, B, h⟩ := rd_VF h
  refine ⟨N0, s, b, R, B, Out.mono (Out.bd (Rp := fun H' => pW c H H' N0 (Nof N0 σ s)) h) fun vx H1 ⟨x, b1, k1, B1, r1, h1⟩ => ?_⟩
  obtain ⟨z, e, h2⟩ := h1.ofObd
  obtain ⟨t0, b0, h0⟩ := any_one hn e
  refine tVs_run cs ⟨hl, fun p hp => ?_⟩
  have K2 : Keep c H1 (upd H1 p (.tup cs)) := .laid hp
  have r2 := r1.keep K2 R.bet fun _ => .inl
  obtain ⟨tv, h3, h4⟩ := ty_of G r2 h0
  exact ⟨vx, p, cs, tv, us, z, rfl, upd_same, cls_all hy, h3, kit_all h4 hy e, h2 _ _ K2 (B1.same (same_laid hp)) rfl⟩
theorem rd_attr (G : GX X c cf k W) {w : Bool} {f : Str} {a : ME} {Q : VK} (h : rd c (pV c w) W (evE cf (.attr f a)) σ H Q) : tAttr c.K f (rd c (pW c) W (evE cf a)) σ H Q := by
  obtain ⟨N0, s, b, R, B, h⟩ := rd_VE h
  refine ⟨N0, s, b, R, B, Out.mono (Out.bd (Rp := fun H' => pW c H H' N0 (Nof N0 σ s)) h) fun vx H1 ⟨x, b1, k1, B1, r1, h1⟩ => ?_⟩
  obtain ⟨z, e, h2⟩ := h1.ofO
  cases x <;> simp only [evAttr] at e <;> first | (cases e; done) | skip
  rename_i j as
  rcases as with _ | ⟨d, _ | ⟨_, _⟩⟩ <;> simp only at e <;> first | (cases e; done) | skip
  split at e
  · rename_i hf
    cases e
    obtain ⟨p, o, dd, xs, rfl, n, q1, q2, q3, q4⟩ := r1
    obtain ⟨C, rfl, T, hno⟩ := G.att _ _ _ _ q2
    unfold DictAt at q3
    rw [hf] at q3
    obtain ⟨e, x, rfl, _, he, rfl⟩ := q3
    obtain ⟨v, vs, ev, rv, _⟩ := q4
    cases ev
    exact ⟨p, C, e, x, rfl, q1, T, hno f hf, he, h2 _ _ .refl B1 rv⟩
  · cases e
theorem rd_mk (G : GX X c cf k W) {w : Bool} {j : Nat} {f : Str} {C : Addr} {a : ME} {m : Env → M D} {Q : VK} (hf : excFld j = some f) (hev : ∀ a d, c.ev j a (some d) (ExV C (some d) a)) (hm : ∀ s, m s = (evE cf a s).bd fun d => M.ofO (mkExc j [d])) (h : rd c (pV c w) W m σ H Q) : tMkV C f (tCons (rd c (pE c) W (evE cf a)) tNil) σ H Q := by
  obtain ⟨N0, s, b, R, B, h⟩ := rd_VE h
  rw [hm s] at h
  refine ⟨N0, s, b, R, B, Out.mono (Out.bd (Rp := fun H' => pE c H H' N0 (Nof N0 σ s)) h) fun vx H1 ⟨x, b1, k1, B1, r1, h1⟩ => ?_⟩
  have em : mkExc j [x] = some (.exc j [x]) := by unfold mkExc; rw [hf]
  rw [em] at h1
  refine ⟨vx, rfl, fun p dx hp hdx hne => ?_⟩
  have R1 := R.keep k1
  have K1 : Keep c H1 (upd H1 dx (.xd [(f, vx)])) := .laid hdx
  have hp2 : upd H1 dx (.xd [(f, vx)]) p = none := by rw [upd_ne hne]; exact hp
  have K2 := K1.trans (Keep.laid (c := c) (o := ExV C (some dx) p) hp2)
  have sm : ∀ a o, H1 a = some o → (upd (upd H1 dx (.xd [(f, vx)])) p (ExV C (some dx) p)) a = some o := fun a o z => same_laid hp2 a o (same_laid hdx a o z)
  refine h1 _ _ K2 (B1.same sm) ?_
  have nN : ∀ q, H1 q = none → ¬ Nof N0 σ s q := fun q hq z => R1.domN z hq
  refine ⟨p, _, some dx, [vx], rfl, nN p hp, upd_same, hev p dx, ?_, ⟨vx, [], rfl, r1.keep K2 R1.betN, rfl⟩⟩
  unfold DictAt
  rw [hf]
  exact ⟨dx, vx, rfl, nN dx hdx, by rw [upd_ne (Ne.symm hne), upd_same], rfl⟩
theorem Out.chg {α γ : Type} {Rp : Hp → α → γ → Prop} {σ σ' : L2.St} {H : Hp} {W W' : WX} {Q : γ → Hp → Prop} {r : Res α} (h : Out c Rp σ H W Q r) (hw : ∀ cls dd H', W cls dd σ H' → W' cls dd σ' H') : Out c Rp σ' H W' Q r := by
  cases r with
  | ok x b => exact h
  | ex k as b => exact fun cls dd H' k B e => hw _ _ _ (h cls dd H' k B e)
  | no => exact h
theorem RepF.base {H H1 H' : Hp} {d : D} {v : V} (r : RepF c H1 H' N d v) (k : Keep c H H1) : RepF c H H' N d v := by
  cases d with
  | lst ds =>
    obtain ⟨p, xs, e, n, h, q⟩ := r
    exact ⟨p, xs, e, k.fr p n, h, q⟩
  | _ => exact r
theorem sp_at {H : Hp} {f n : Nat} {vs : List V} {ds : List D} {b : Bx} {Q : VK} {E : XK} {cl : Nat → List D → M D} (hn : ∀ ds b, ds.length ≠ n → cl f ds b = .no) (r : RepL c H N ds vs) (hd : ∀ a, N a → H a ≠ none) (hb : ∀ a, c.β = some a → N a) (B : BoxAt c H b)
    (h : Out c (fun H' d v => Rep c H' N d v) [] H (fun cls dd _ H' => E cls dd H') Q (cl f ds b)) : spF c cl f n vs H Q E := by
  refine ⟨?_, c.β, N, ds, b, r, hd, hb, B, h.rp fun _ _ _ _ q => q.1⟩
  apply Classical.byContradiction
  intro z
  rw [hn ds b (by rw [r.length]; exact z)] at h
  exact h
theorem rd_call {w : Bool} {f n : Nat} {es : MEs} {Q : VK} (hn : ∀ ds b, ds.length ≠ n → cf.cl f ds b = .no) (h : rd c (pV c w) W (evE cf (.call f es)) σ H Q) : tCallS (spF c cf.cl f n) (WE W) (rd c (pL c) W (evEs cf es)) σ H Q := by
  obtain ⟨N0, s, b, R, B, h⟩ := rd_VE h
  refine ⟨N0, s, b, R, B, Out.mono (Out.bd (Rp := fun H' => pL c H H' N0 (Nof N0 σ s)) h) fun vx H1 ⟨x, b1, k1, B1, r1, h1⟩ => ?_⟩
  have R1 := R.keep k1
  refine sp_at hn r1 (fun a => R1.domN) R1.betN B1 (Out.chg h1 fun _ _ _ z => z)
/-- as sp_at, the result new -/
theorem sp_atQ {H : Hp} {f n : Nat} {vs : List V} {ds : List D} {b : Bx} {Q : VK} {E : XK} {cl : Nat → List D → M D} (hn : ∀ ds b, ds.length ≠ n → cl f ds b = .no) (r : RepL c H N ds vs) (hd : ∀ a, N a → H a ≠ none) (hb : ∀ a, c.β = some a → N a) (B : BoxAt c H b)
    (h : Out c (fun H' d v => RepQ c f H H' N d v) [] H (fun cls dd _ H' => E cls dd H') Q (cl f ds b)) : spF c cl f n vs H Q E := by
  refine ⟨?_, c.β, N, ds, b, r, hd, hb, B, h⟩
  apply Classical.byContradiction
  intro z
  rw [hn ds b (by rw [r.length]; exact z)] at h
  exact h
theorem rd_callF {f n : Nat} {es : MEs} {Q : VK} (hf : c.frs f = true) (hn : ∀ ds b, ds.length ≠ n → cf.cl f ds b = .no) (h : rd c (pF c) W (evE cf (.call f es)) σ H Q) : tCallS (spF c cf.cl f n) (WE W) (rd c (pL c) W (evEs cf es)) σ H Q := by
  obtain ⟨N0, s, b, R, B, h⟩ := h
  refine ⟨N0, s, b, R, B, Out.mono (Out.bd (Rp := fun H' => pL c H H' N0 (Nof N0 σ s)) h) fun vx H1 ⟨x, b1, k1, B1, r1, h1⟩ => ?_⟩
  have R1 := R.keep k1
  refine sp_atQ hn r1 (fun a => R1.domN) R1.betN B1 ((Out.rp h1 fun H' d v k q => (q.2 hf).base k1).chg fun _ _ _ z => z)
theorem Out.bd0 {α β γ δ : Type} {Rp : Hp → α → γ → Prop} {Rp' : Hp → β → δ → Prop} {Q : δ → Hp → Prop} {m : M α} {f : α → M β} {b : Bx} (h : Out c Rp' σ H W Q ((m.bd f) b)) :
    Out c Rp σ H W (fun v H1 => ∃ x b1, Keep c H H1 ∧ BoxAt c H1 b1 ∧ Rp H1 x v ∧ Out c Rp' σ H W Q (f x b1)) (m b) := by
  unfold M.bd at h
  cases e : m b with
  | ok x b1 =>
    rw [e] at h
    exact fun v H1 k B r => ⟨x, b1, k, B, r, h⟩
  | ex k as b1 =>
    rw [e] at h
    exact h
  | no =>
    rw [e] at h
    exact h
/-- the box made in the call -/
theorem rd_boxed {f n : Nat} {e : ME} {Q : VK} (hn : ∀ ds b, ds.length ≠ n → cf.cl f ds b = .no) (h : rd c (pE c) W (evE cf (.boxed f e)) σ H Q) : tCallS (spF c cf.cl f n) (WE W) (tCons (rd c (pF c) W (evE cf e)) tNil) σ H Q := by
  obtain ⟨N0, s, b, R, B, h⟩ := h
  refine ⟨N0, s, b, R, B, Out.mono (Out.bd0 (Rp := fun H' => pF c H H' N0 (Nof N0 σ s)) h) fun vx H1 ⟨x, b1, k1, B1, r1, h1⟩ => ?_⟩
  cases x with
  | lst ds =>
    have hds : ∃ i j k, ds = [.int i, .int j, .int k] := by
      rcases ds with _ | ⟨d1, _ | ⟨d2, _ | ⟨d3, _ | ⟨d4, ds⟩⟩⟩⟩
      · exact h1.elim
      · cases d1 <;> exact h1.elim
      · cases d1 <;> first | exact h1.elim | (cases d2 <;> exact h1.elim)
      · cases d1 <;> first | exact h1.elim | (cases d2 <;> first | exact h1.elim | (cases d3 <;> first | exact h1.elim | exact ⟨_, _, _, rfl⟩))
      · cases d1 <;> first | exact h1.elim | (cases d2 <;> first | exact h1.elim | (cases d3 <;> exact h1.elim))
    obtain ⟨i, j, k, rfl⟩ := hds
    cases b1 with
    | some _ => exact h1.elim
    | none =>
      obtain ⟨a, xs, rfl, ha, h3, q⟩ := r1
      have R1 := R.keep k1
      have exs : xs = [.int i, .int j, .int k] := by
        obtain ⟨v1, w1, rfl, e1, q⟩ := q
        obtain ⟨v2, w2, rfl, e2, q⟩ := q
        obtain ⟨v3, w3, rfl, e3, q⟩ := q
        cases q
        rw [show v1 = _ from e1, show v2 = _ from e2, show v3 = _ from e3]
      subst exs
      have h1 : Out c (fun H' => pE c H H' N0 (Nof N0 σ s)) σ H W Q (match cf.cl f [.box] (some (i, j, k)) with | .ok (.bl t) _ => .ok (.bl t) none | _ => .no) := h1
      cases e0 : cf.cl f [.box] (some (i, j, k)) with
      | no => rw [e0] at h1; exact h1.elim
      | ex _ _ _ => rw [e0] at h1; exact h1.elim
      | ok d b2 =>
        rw [e0] at h1
        cases d <;> first | exact h1.elim | skip
        rename_i t
        have hn1 : n = 1 := by
          apply Classical.byContradiction
          intro z
          have := hn [.box] (some (i, j, k)) (by simpa using fun y => z y.symm)
          rw [e0] at this
          cases this
        refine ⟨by rw [hn1]; rfl, some a, fun x => x = a, [.box], some (i, j, k), ⟨_, _, rfl, ⟨a, rfl, rfl⟩, rfl⟩, fun x hx => ?_, fun x hx => ?_, ⟨a, rfl, h3⟩, ?_⟩
        · rw [hx, h3]; exact fun z => nomatch z
        · cases hx; rfl
        · rw [e0]
          intro v H' kp B' r
          refine h1 v H' ⟨fun x o hb hx => ?_, fun x hx => k1.fr x (kp.fr x hx)⟩ trivial r.1
          refine kp.kp x o (fun z => ?_) (k1.kp x o hb hx)
          have z : some a = some x := z
          cases z
          rw [ha] at hx
          cases hx
  | _ => exact h1.elim
mutual
theorem Rep.pure0 {N' : Addr → Prop} (hN : ∀ a, N' a → N a ∨ ∃ xs, H a = some (.lst xs)) : ∀ (d : D) (v : V), d.pure = true → Rep c H N d v → Rep c H N' d v
  | .non, _, _, r => r
  | .bl _, _, _, r => r
  | .int _, _, _, r => r
  | .str _, _, _, r => r
  | .tup ds, _, p, r => let ⟨a, xs, e, n, h, q⟩ := r; ⟨a, xs, e, fun z => (hN a z).elim n (fun ⟨ys, y⟩ => by rw [y] at h; cases h), h, RepL.pure0 hN ds xs (by simpa [D.pure] using p) q⟩
  | .lst _, _, p, _ => by simp [D.pure] at p
  | .dic _, _, _, r => r
  | .box, _, p, _ => by simp [D.pure] at p
  | .scr, _, p, _ => by simp [D.pure] at p
  | .exc _ _, _, p, _ => by simp [D.pure] at p
theorem RepL.pure0 {N' : Addr → Prop} (hN : ∀ a, N' a → N a ∨ ∃ xs, H a = some (.lst xs)) : ∀ (ds : List D) (vs : List V), D.pureL ds = true → RepL c H N ds vs → RepL c H N' ds vs
  | [], _, _, r => r
  | d :: ds, _, p, r => by
    obtain ⟨v, vs, e, h, q⟩ := r
    simp only [D.pureL, Bool.and_eq_true] at p
    exact ⟨v, vs, e, Rep.pure0 hN d v p.1 h, RepL.pure0 hN ds vs p.2 q⟩
end
theorem rd_lend {w : Bool} {f n : Nat} {es : MEs} {Q : VK} (hn : ∀ ds b, ds.length ≠ n → cf.cl f ds b = .no) (h : rd c (pV c w) W (evE cf (.lend f es)) σ H Q) : tCallS (spF c cf.cl f n) (WE W) (rd c (pL0 c) W (evEs cf es)) σ H Q := by
  obtain ⟨N0, s, b, R, B, h⟩ := rd_VE h
  refine ⟨N0, s, b, R, B, Out.mono (Out.bd (Rp := fun H' => pL0 c H H' N0 (Nof N0 σ s)) h) fun vx H1 ⟨x, b1, k1, B1, r1, h1⟩ => ?_⟩
  have R1 := R.keep k1
  refine sp_at hn r1 R1.dom R1.bet B1 ((Out.mono (Out.bd (Rp := fun H' d v => Rep c H' N0 d v) h1) fun v H2 ⟨d, b2, k2, B2, r2, h2⟩ => ?_).chg fun _ _ _ z => z)
  by_cases hp : d.pure = true
  · rw [if_pos hp] at h2
    have R2 := R1.keep k2
    refine h2 _ _ .refl B2 (Rep.pure0 (fun a z => ?_) d v hp r2)
    rcases z with z | ⟨i, d', z1, z2⟩
    · exact .inl z
    · obtain ⟨a', z3, z4, _⟩ := R2.ow i d' z1
      rw [z2] at z3
      cases z3
      cases d' with
      | lst ds => obtain ⟨xs, z5, _⟩ := z4; exact .inr ⟨xs, z5⟩
      | _ => exact z4.elim
  · rw [if_neg hp] at h2
    exact h2.elim
end
end Mi
namespace Mi
open PySem L2
theorem and2 {a b : Bool} (h : (a && b) = true) : a = true ∧ b = true := by rwa [Bool.and_eq_true] at h
theorem not1 {a : Bool} (h : (!a) = true) : a = false := by cases a <;> first | rfl | cases h
section
variable {X : Cx} {c : Cc} {cf : Cfg} {k : Ck} {W : WX} {w : Bool} {x : Expr}
structure Okx (X : Cx) (c : Cc) (cf : Cfg) (W : WX) (w : Bool) (e : ME) (x : Expr) : Prop where
  v : PE X x (rd c (pV c w) W (evE cf e))
  t : PT X x (rd c (pX (α := Bool)) W (evT cf e))
/-- .. and what results is new -/
structure Okf (X : Cx) (c : Cc) (cf : Cfg) (W : WX) (w : Bool) (e : ME) (x : Expr) : Prop where
  o : Okx X c cf W w e x
  f : PE X x (rd c (pF c) W (evE cf e))
/-- a node whose test is its value's truth -/
theorem okT {e : ME} (G : GX X c cf k W) (ht : ∀ s, evT cf e s = (evE cf e s).bd fun x => M.ofO (truth x)) (hv : PE X x (rd c (pV c w) W (evE cf e))) (he : ∀ whole, isTrue x X.env whole = (do let v ← whole; standAt x.pos; holding [v] (truthy v))) : Okx X c cf W w e x :=
  ⟨hv, PT.imp (pt_truth hv he) fun σ H Q h => by
    have e1 : evT cf e = fun s => (evE cf e s).bd fun x => M.ofO (truth x) := funext ht
    rw [e1] at h
    have h := rd_tru (w := w) h
    rw [G.K] at h
    exact h⟩
theorem nd_var {i : Nat} (G : GX X c cf k W) (h : ckE k w (.var i) x = true) : Okx X c cf W w (.var i) x := by
  cases x <;> first | (cases h; done) | skip
  rename_i y p
  obtain ⟨h1, h2⟩ := and2 (show (decide (k.N[i]? = some y) && k.vis y) = true from h)
  obtain ⟨h3, h4⟩ := vis_of G h2
  exact okT G (fun _ => rfl) (PE.imp (pe_var (i := i) (by rw [G.N]; exact of_decide_eq_true h1) h3 (plain_db h4) (plain_cd h4)) fun σ H Q h => rd_var (rd_VE h)) (fun _ => rfl)
theorem nd_bor {i : Nat} (G : GX X c cf k W) (h : ckE k w (.bor i) x = true) : Okx X c cf W w (.bor i) x := by
  cases x <;> first | (cases h; done) | skip
  rename_i y p
  obtain ⟨h0, h2⟩ := and2 (show (w && decide (k.N[i]? = some y) && k.vis y) = true from h)
  obtain ⟨h0, h1⟩ := and2 h0
  subst h0
  obtain ⟨h3, h4⟩ := vis_of G h2
  exact okT G (fun _ => rfl) (PE.imp (pe_var (i := i) (by rw [G.N]; exact of_decide_eq_true h1) h3 (plain_db h4) (plain_cd h4)) fun σ H Q h => rd_bor h) (fun _ => rfl)
theorem nd_cst {d : D} (G : GX X c cf k W) (h : ckE k w (.cst d) x = true) : Okx X c cf W w (.cst d) x := by
  cases x <;> first | (cases h; done) | skip
  rename_i a j p
  replace h : ckCst d a = true := h
  cases d <;> cases a <;> first | (cases h; done) | skip
  · exact okT G (fun _ => rfl) (PE.imp pe_non fun σ H Q h => rd_cst (d := .non) (fun _ _ => rfl) (rd_VE h)) (fun _ => rfl)
  · rename_i b1 b2
    have e : b1 = b2 := eq_of_beq h
    subst e
    exact okT G (fun _ => rfl) (PE.imp pe_bl fun σ H Q h => rd_cst (d := .bl b1) (fun _ _ => rfl) (rd_VE h)) (fun _ => rfl)
  · rename_i b1 b2
    have e : b1 = b2 := of_decide_eq_true h
    subst e
    exact okT G (fun _ => rfl) (PE.imp pe_int fun σ H Q h => rd_cst (d := .int b1) (fun _ _ => rfl) (rd_VE h)) (fun _ => rfl)
  · rename_i b1 b2
    obtain ⟨e, h2⟩ := and2 (show (decide (b1 = b2) && strFits b1) = true from h)
    have e : b1 = b2 := of_decide_eq_true e
    subst e
    exact okT G (fun _ => rfl) (PE.imp pe_str fun σ H Q h => rd_cst (d := .str b1) (fun _ _ => ⟨rfl, h2⟩) (rd_VE h)) (fun _ => rfl)
theorem nd_glo {g : Nat} (G : GX X c cf k W) (h : ckE k w (.glo g) x = true) : Okx X c cf W w (.glo g) x := by
  cases x <;> first | (cases h; done) | skip
  rename_i y p
  obtain ⟨h1, h2⟩ := and2 (show (k.gl y && decide ((k.P.gs[g]?).map (·.1) = some y)) = true from h)
  obtain ⟨h3, h4⟩ := gl_of G h1
  obtain ⟨d, v, u, e1, e2, e3, e4⟩ := G.gs g y (of_decide_eq_true h2)
  exact okT G (fun _ => rfl) (PE.imp (pe_glob h3 e2 e3 (plain_db h4)) fun σ H Q h => rd_glo e1 e4 (rd_VE h)) (fun _ => rfl)
theorem nd_tup {es : MEs} (G : GX X c cf k W) (hs : ∀ xs, ckEs k es xs = true → PA X xs (rd c (pL c) W (evEs cf es))) (h : ckE k w (.tup es) x = true) : Okx X c cf W w (.tup es) x := by
  cases x <;> first | (cases h; done) | skip
  exact okT G (fun _ => rfl) (PE.imp (pe_tup (hs _ h)) fun σ H Q h => rd_tup (rd_VE h)) (fun _ => rfl)
theorem nd_lst {es : MEs} (G : GX X c cf k W) (hs : ∀ xs, ckEs k es xs = true → PA X xs (rd c (pL c) W (evEs cf es))) (h : ckE k w (.lst es) x = true) : Okf X c cf W w (.lst es) x := by
  cases x <;> first | (cases h; done) | skip
  exact ⟨okT G (fun _ => rfl) (PE.imp (pe_lst (hs _ h)) fun σ H Q h => rd_lst (rd_VF h)) (fun _ => rfl), PE.imp (pe_lst (hs _ h)) fun σ H Q h => rd_lst h⟩
abbrev Hyp (X : Cx) (c : Cc) (cf : Cfg) (k : Ck) (W : WX) (a : ME) : Prop := ∀ w x, ckE k w a x = true → Okx X c cf W w a x
theorem nd_op {o : Op} {a b : ME} (G : GX X c cf k W) (ha : Hyp X c cf k W a) (hb : Hyp X c cf k W b) (h : ckE k w (.op o a b) x = true) : Okf X c cf W w (.op o a b) x := by
  cases x <;> first | (cases h; done) | skip
  · rename_i l p r pos
    obtain ⟨h1, h2⟩ := and2 (show (decide (binOf o = some p) && ckE k true a l && ckE k true b r) = true from h)
    obtain ⟨h0, h1⟩ := and2 h1
    have h0 := of_decide_eq_true h0
    have ho := ru_op (c := c) G.K.symm G.un o
    have e : opTree o = binaryOp p := by cases o <;> cases h0 <;> rfl
    rw [e] at ho
    exact ⟨okT G (fun _ => rfl) (PE.imp (pe_op ho (PE.v1 (ha _ _ h1).v) (PE.v1 (hb _ _ h2).v)) fun σ H Q h => rd_op (rd_VF h)) (fun _ => rfl), PE.imp (pe_op ho (PE.v1 (ha _ _ h1).v) (PE.v1 (hb _ _ h2).v)) fun σ H Q h => rd_op h⟩
  · rename_i l ps rs pos
    cases ps with
    | nil => cases h
    | cons p ps =>
      cases ps with
      | cons _ _ => cases h
      | nil =>
        cases rs with
        | nil => cases h
        | cons r rs =>
          cases rs with
          | cons _ _ => cases h
          | nil =>
            obtain ⟨h1, h2⟩ := and2 (show (decide (cmpOf o = some p) && !behindInMarks p r && ckE k true a l && ckE k true b r) = true from h)
            obtain ⟨h0, h1⟩ := and2 h1
            obtain ⟨h0, hm⟩ := and2 h0
            have hm := not1 hm
            have h0 := of_decide_eq_true h0
            have ho := ru_op (c := c) G.K.symm G.un o
            have e : opTree o = compareOp p := by cases o <;> cases h0 <;> rfl
            rw [e] at ho
            exact ⟨⟨PE.imp (pe_cmpR ho (PE.v1 (ha _ _ h1).v) (PE.v1 (hb _ _ h2).v) hm) fun σ H Q h => rd_op (rd_VF h),
              PT.imp (pt_cmpR ho (PE.v1 (ha _ _ h1).v) (PE.v1 (hb _ _ h2).v) hm) fun σ H Q h => rd_op (rd_EF (rd_truB (evB_op h0) h))⟩,
              PE.imp (pe_cmpR ho (PE.v1 (ha _ _ h1).v) (PE.v1 (hb _ _ h2).v) hm) fun σ H Q h => rd_op h⟩
theorem evB_chain {o1 o2 : Op} {p : CmpOp} {a b e : ME} (hp : cmpOf o2 = some p) : ∀ s bx d b', evE cf (.chain o1 o2 a b e) s bx = .ok d b' → ∃ t, d = .bl t := by
  intro s bx d b' h
  obtain ⟨x, b1, _, h⟩ := bd_ok (show ((evE cf a s).bd fun x => (evE cf b s).bd fun y => (M.ofO (evOp o1 x y)).asB.bd fun k => if k = true then (evE cf e s).bd fun z => M.ofO (evOp o2 y z) else M.ret (.bl false)) bx = .ok d b' from h)
  obtain ⟨y, b2, _, h⟩ := bd_ok h
  obtain ⟨kk, b3, _, h⟩ := bd_ok h
  cases kk with
  | true =>
    rw [if_pos rfl] at h
    obtain ⟨z, b4, _, h⟩ := bd_ok h
    cases e3 : evOp o2 y z with
    | none => rw [e3] at h; cases h
    | some z => rw [e3] at h; cases h; exact op_bl hp e3
  | false =>
    rw [if_neg (by decide)] at h
    cases h
    exact ⟨_, rfl⟩
theorem nd_chain {o1 o2 : Op} {a b e : ME} (G : GX X c cf k W) (ha : Hyp X c cf k W a) (hb : Hyp X c cf k W b) (he : Hyp X c cf k W e) (h : ckE k w (.chain o1 o2 a b e) x = true) : Okx X c cf W w (.chain o1 o2 a b e) x := by
  cases x <;> first | (cases h; done) | skip
  rename_i l ps rs pos
  rcases ps with _ | ⟨p1, _ | ⟨p2, _ | ⟨_, _⟩⟩⟩ <;> first | (cases h; done) | skip
  rcases rs with _ | ⟨r1, _ | ⟨r2, _ | ⟨_, _⟩⟩⟩ <;> first | (cases h; done) | skip
  obtain ⟨h, h5⟩ := and2 (show (decide (cmpOf o1 = some p1) && decide (cmpOf o2 = some p2) && !lastMarks [p1, p2] [r1, r2] && ckE k true a l && ckE k true b r1 && ckE k true e r2) = true from h)
  obtain ⟨h, h4⟩ := and2 h
  obtain ⟨h, h3⟩ := and2 h
  obtain ⟨h, hm⟩ := and2 h
  obtain ⟨h1, h2⟩ := and2 h
  have hm := not1 hm
  have h1 := of_decide_eq_true h1
  have h2 := of_decide_eq_true h2
  have ho1 := ru_op (c := c) G.K.symm G.un o1
  have e1 : opTree o1 = compareOp p1 := by cases o1 <;> cases h1 <;> rfl
  rw [e1] at ho1
  have ho2 := ru_op (c := c) G.K.symm G.un o2
  have e2 : opTree o2 = compareOp p2 := by cases o2 <;> cases h2 <;> rfl
  rw [e2] at ho2
  exact ⟨PE.imp (pe_chain ho1 ho2 (PE.v1 (ha _ _ h3).v) (PE.v1 (hb _ _ h4).v) (PE.v1 (he _ _ h5).v) hm) fun σ H Q h => rd_chain (rd_VE h),
    PT.imp (pt_chain ho1 ho2 (PE.v1 (ha _ _ h3).v) (PE.v1 (hb _ _ h4).v) (PE.v1 (he _ _ h5).v) hm) fun σ H Q h => rd_chain (rd_truB (evB_chain h2) h)⟩
theorem nd_neg {a : ME} (G : GX X c cf k W) (ha : Hyp X c cf k W a) (h : ckE k w (.neg a) x = true) : Okx X c cf W w (.neg a) x := by
  cases x <;> first | (cases h; done) | skip
  rename_i o y p
  cases o <;> first | (cases h; done) | skip
  exact okT G (fun _ => rfl) (PE.imp (pe_un un_neg (PE.v1 (ha true y h).v)) fun σ H Q h => rd_neg (rd_VE h)) (fun _ => rfl)
theorem nd_not {a : ME} (G : GX X c cf k W) (ha : Hyp X c cf k W a) (h : ckE k w (.notE a) x = true) : Okx X c cf W w (.notE a) x := by
  cases x <;> first | (cases h; done) | skip
  rename_i o y p
  cases o <;> first | (cases h; done) | skip
  exact ⟨PE.imp (pe_notT (PE.v1 (ha true y h).v)) fun σ H Q h => by
      have h := rd_not h
      rw [G.K] at h
      exact h,
    PT.imp (pt_not (ha true y h).t) fun σ H Q h => rdT_not h⟩
theorem nd_ite {t a b : ME} (G : GX X c cf k W) (ht : Hyp X c cf k W t) (ha : Hyp X c cf k W a) (hb : Hyp X c cf k W b) (h : ckE k w (.ite t a b) x = true) : Okx X c cf W w (.ite t a b) x := by
  cases x <;> first | (cases h; done) | skip
  rename_i y1 y2 y3 p
  obtain ⟨h1, h3⟩ := and2 (show (ckE k true t y1 && ckE k w a y2 && ckE k w b y3) = true from h)
  obtain ⟨h1, h2⟩ := and2 h1
  exact ⟨PE.imp (pe_ifExp (ht _ _ h1).t (ha _ _ h2).v (hb _ _ h3).v) fun σ H Q h => rd_iteV h, ⟨fun pins s σ H Q I ⟨_, _, _, _, _, z⟩ => False.elim z⟩⟩
theorem isN_ok {n : Bool} : OpR X (compareOp (if n = true then CmpOp.IsNot else CmpOp.Is)) (fun x y H Q => y = .non ∧ Q (.bl (xor n (decide (x = .non)))) H) := by
  cases n
  · simpa using (op_isN (X := X))
  · simpa using (op_notN (X := X))
theorem evB_isN {n : Bool} {a : ME} : ∀ s bx d b', evE cf (.isN n a) s bx = .ok d b' → ∃ t, d = .bl t := by
  intro s bx d b' h
  obtain ⟨x, b1, _, h⟩ := bd_ok (show ((evE cf a s).bd fun x => M.ret (.bl (xor n (isNon x)))) bx = .ok d b' from h)
  cases h
  exact ⟨_, rfl⟩
theorem nd_isN {n : Bool} {a : ME} (G : GX X c cf k W) (ha : Hyp X c cf k W a) (h : ckE k w (.isN n a) x = true) : Okx X c cf W w (.isN n a) x := by
  cases x <;> first | (cases h; done) | skip
  rename_i l ps rs pos
  rcases ps with _ | ⟨p, _ | ⟨_, _⟩⟩ <;> first | (cases h; done) | skip
  rcases rs with _ | ⟨r, _ | ⟨_, _⟩⟩ <;> first | (cases h; done) | skip
  · cases r <;> first | (cases h; done) | skip
    rename_i a' j p' 
    cases a' <;> first | (cases h; done) | skip
    obtain ⟨h1, h2⟩ := and2 (show (decide (p = (if n then CmpOp.IsNot else CmpOp.Is)) && ckE k true a l) = true from h)
    have h1 := of_decide_eq_true h1
    subst h1
    exact ⟨PE.imp (pe_cmpR isN_ok (PE.v1 (ha _ _ h2).v) pe_non rfl) fun σ H Q h => rd_isN (rd_VE h),
      PT.imp (pt_cmpR isN_ok (PE.v1 (ha _ _ h2).v) pe_non rfl) fun σ H Q h => rd_isN (rd_truB evB_isN h)⟩
  · cases r <;> first | (cases h; done) | skip
    rename_i a' j p'
    cases a' <;> cases h
theorem plainIx {y : Expr} (h : isSlice y = false) : PlainIx y := by
  intro o i
  cases y <;> first | rfl | cases h
theorem nd_ix {a i : ME} (G : GX X c cf k W) (ha : Hyp X c cf k W a) (hi : Hyp X c cf k W i) (h : ckE k w (.ix a i) x = true) : Okx X c cf W w (.ix a i) x := by
  cases x <;> first | (cases h; done) | skip
  rename_i y z p
  obtain ⟨h1, h2⟩ := and2 (show (!isSlice z && ckE k true a y && ckE k true i z) = true from h)
  obtain ⟨h0, h1⟩ := and2 h1
  exact okT G (fun _ => rfl) (PE.imp (pe_ix ix_seq (PE.v1 (ha _ _ h1).v) (PE.v1 (hi _ _ h2).v) (plainIx (not1 h0))) fun σ H Q h => by
    have h := rd_ix (rd_VE h)
    rw [G.K] at h
    exact h) (fun _ => rfl)
abbrev HypO (X : Cx) (c : Cc) (cf : Cfg) (k : Ck) (W : WX) (a : MO) : Prop := ∀ o, ckO k a o = true → PO X o (rd c (pX (α := Option Int)) W (evO cf a))
theorem nd_sl {a : ME} {lo hi : MO} (G : GX X c cf k W) (ha : Hyp X c cf k W a) (hl : HypO X c cf k W lo) (hh : HypO X c cf k W hi) (h : ckE k w (.sl a lo hi) x = true) : Okf X c cf W w (.sl a lo hi) x := by
  cases x <;> first | (cases h; done) | skip
  rename_i y z p
  cases z <;> first | (cases h; done) | skip
  rename_i l u st p2
  cases st <;> first | (cases h; done) | skip
  obtain ⟨h1, h3⟩ := and2 (show (ckE k true a y && ckO k lo l && ckO k hi u) = true from h)
  obtain ⟨h1, h2⟩ := and2 h1
  exact ⟨okT G (fun _ => rfl) (PE.imp (pe_slice sl_all (PE.v1 (ha _ _ h1).v) (hl _ h2) (hh _ h3)) fun σ H Q h => by
    have h := rd_sl G.ns (rd_VF h)
    rw [G.K] at h
    exact h) (fun _ => rfl), PE.imp (pe_slice sl_all (PE.v1 (ha _ _ h1).v) (hl _ h2) (hh _ h3)) fun σ H Q h => by
    have h := rd_sl G.ns h
    rw [G.K] at h
    exact h⟩
theorem inv_rev {a : ME} (h : ckE k w (.rev a) x = true) : ∃ y n p1 p2 p3 pos, x = .Subscript y (.Slice none none (some (.UnaryOp .USub (.Constant (.int 1) n p1) p2)) p3) pos ∧ ckE k true a y = true := by
  cases x <;> first | (cases h; done) | skip
  rename_i y z p
  cases z <;> first | (cases h; done) | skip
  rename_i l u st p2
  cases l <;> cases u <;> cases st <;> first | (cases h; done) | skip
  rename_i e
  cases e <;> first | (cases h; done) | skip
  rename_i o e p3
  cases o <;> cases e <;> first | (cases h; done) | skip
  rename_i a' n p4
  cases a' <;> first | (cases h; done) | skip
  rename_i i
  by_cases hi : i = 1
  · subst hi
    exact ⟨y, n, p4, p3, p2, p, rfl, h⟩
  · exfalso
    revert h
    unfold ckE
    split <;> simp_all
theorem nd_rev {a : ME} (G : GX X c cf k W) (ha : Hyp X c cf k W a) (h : ckE k w (.rev a) x = true) : Okx X c cf W w (.rev a) x := by
  obtain ⟨y, n, p1, p2, p3, pos, rfl, h1⟩ := inv_rev h
  exact okT G (fun _ => rfl) (PE.imp (pe_revA (PE.v1 (ha _ _ h1).v)) fun σ H Q h => by
    have h := rd_rev h
    rw [G.K] at h
    exact h) (fun _ => rfl)
theorem biN {b : Bi} (hb : b = .len ∨ b = .abs ∨ b = .all ∨ b = .any ∨ b = .sum ∨ b = .sort) (G : GX X c cf k W) {a : ME} {y z : Expr} {p pos : Pos} {r : Expr} (ha : Hyp X c cf k W a)
    (hc : CallR X (biVal b) (rBi c b)) (hg : Gl X (biName b)) (hm : X.mg (biName b) = none) (hz : ckE k true a z = true) (hst : isStar z = false) : PE X (.Call (.Name (biName b) p) [z] [] pos) (tCB (rBi c b) (tCons (rd c (pW c) W (evE cf a)) tNil)) := by
  have hA : PA X [z] (tCons (rd c (pW c) W (evE cf a)) tNil) := pa_cons (PE.v1 (ha _ _ hz).v) pa_nil (star_ns hst)
  rcases hb with rfl | rfl | rfl | rfl | rfl | rfl
  · exact pe_callB hc hg hm boot_len hA (by decide +kernel) (by decide +kernel) (star_ns hst) rfl
  · exact pe_callB hc hg hm PyProof.Rows.boot_abs hA (by decide +kernel) (by decide +kernel) (star_ns hst) rfl
  · exact pe_callB hc hg hm PyProof.Rows.boot_all hA (by decide +kernel) (by decide +kernel) (star_ns hst) rfl
  · exact pe_callB hc hg hm PyProof.Rows.boot_any hA (by decide +kernel) (by decide +kernel) (star_ns hst) rfl
  · exact pe_callB hc hg hm PyProof.Rows.boot_sum hA (by decide +kernel) (by decide +kernel) (star_ns hst) rfl
  · exact pe_callB hc hg hm PyProof.Rows.boot_sorted hA (by decide +kernel) (by decide +kernel) (star_ns hst) rfl
theorem biT {b : Bi} (hb : b = .int ∨ b = .list ∨ b = .tuple) (G : GX X c cf k W) {a : ME} {y z : Expr} {p pos : Pos} {r : Expr} (ha : Hyp X c cf k W a)
    (hc : CallR X (biVal b) (rBi c b)) (hg : Gl X (biName b)) (hm : X.mg (biName b) = none) (hz : ckE k true a z = true) (hst : isStar z = false) : PE X (.Call (.Name (biName b) p) [z] [] pos) (tCB (rBi c b) (tCons (rd c (pW c) W (evE cf a)) tNil)) := by
  have hA : PA X [z] (tCons (rd c (pW c) W (evE cf a)) tNil) := pa_cons (PE.v1 (ha _ _ hz).v) pa_nil (star_ns hst)
  rcases hb with rfl | rfl | rfl
  · exact pe_callTy hc hg hm PyProof.Rows.boot_int hA (by decide +kernel) (by decide +kernel) (star_ns hst) rfl
  · exact pe_callTy hc hg hm PyProof.Rows.boot_list hA (by decide +kernel) (by decide +kernel) (star_ns hst) rfl
  · exact pe_callTy hc hg hm PyProof.Rows.boot_tuple hA (by decide +kernel) (by decide +kernel) (star_ns hst) rfl
end
end Mi
namespace Mi
open PySem PySem.Spec PyProof.Rows
open L2 (Ris store_at layNew_ris layNew_led relayAll_ris relayAll_led code_set_led1 collect_set)
section
variable {κ : Type} [DecidableEq κ] {P : Program} {w : World}
/-- a kind of keys with the key of a value -/
structure KF (knd : KeyKind P w κ) (kf : Value → κ) : Prop where
  of : ∀ k v, knd.is k v = true → kf v = k
abbrev kOf (kf : Value → κ) (e : Int × Value) : κ := kf e.2
/-- a row of the table -/
def RowOk (knd : KeyKind P w κ) (kf : Value → κ) (e : Int × Value) : Prop := knd.is (kf e.2) e.2 = true ∧ e.1 = knd.hash (kf e.2) ∧ e.2.scannable = true
/-- the set at a: its members, their number; its table rises and can be walked -/
def SetG (knd : KeyKind P w κ) (kf : Value → κ) (h : Heap) (a : Addr) (S : κ → Bool) (n : Nat) : Prop :=
  ∃ o es ep t, h.get? a = some o ∧ o.ExactSet ∧ o.data = .set es ep t ∧ (∀ e ∈ es.toList, RowOk knd kf e) ∧ (es.toList.map (kOf kf)).Nodup ∧ (∀ k, S k = true ↔ k ∈ es.toList.map (kOf kf)) ∧
    es.size < scanBound ∧ t.fits es.size = true ∧ es.size = n ∧ Ris t.place.toList ∧ (w.params.followText "set-order" = true ∨ t.led = true)
variable {knd : KeyKind P w κ} {kf : Value → κ} {h h' : Heap} {a : Addr} {S : κ → Bool} {n : Nat} {A : Around} {E : Value → Shared → Prop} {s : Shared}
theorem SetG.at (R : SetG knd kf h a S n) (k : ∀ o, h.get? a = some o → h'.get? a = some o) : SetG knd kf h' a S n := by
  obtain ⟨o, es, ep, t, ho, r⟩ := R
  exact ⟨o, es, ep, t, k o ho, r⟩
theorem SetG.congr {S' : κ → Bool} (R : SetG knd kf h a S n) (e : ∀ k, S' k = S k) : SetG knd kf h a S' n := by
  obtain ⟨o, es, ep, t, h1, h2, h3, h4, h5, h6, r⟩ := R
  exact ⟨o, es, ep, t, h1, h2, h3, h4, h5, fun k => by rw [e k]; exact h6 k, r⟩
theorem rows_elems {l : List (Int × Value)} (g : ∀ e ∈ l, RowOk knd kf e) : ElemsOf knd l := fun e he => ⟨⟨_, (g e he).1, (g e he).2.1⟩, (g e he).2.2⟩
theorem rows_mem (kF : KF knd kf) {l : List (Int × Value)} (g : ∀ e ∈ l, RowOk knd kf e) (k : κ) : k ∈ l.map (kOf kf) ↔ ∃ e ∈ l, knd.is k e.2 = true := by
  constructor
  · intro hk
    obtain ⟨e, he, rfl⟩ := List.mem_map.mp hk
    exact ⟨e, he, (g e he).1⟩
  · rintro ⟨e, he, q⟩
    exact List.mem_map.mpr ⟨e, he, kF.of k _ q⟩
theorem add_tailG {g : Bool → Sem Unit} (hg : ∀ (b : Bool) (s₁ : Shared) (Q' : Unit → Shared → Prop), Q' () s₁ → wpAny (model P w) A (g b) Q' E s₁)
    {o : Obj} {es : Array (Int × Value)} {ep : Nat} {t : SetTable} (ho : s.heap.get? a = some o) (hex : o.ExactSet) (hd : o.data = .set es ep t)
    {e1 : Array (Int × Value)} {t2 : SetTable} {S' : κ → Bool} (g1 : ∀ e ∈ e1.toList, RowOk knd kf e) (nd1 : (e1.toList.map (kOf kf)).Nodup) (m1 : ∀ k, S' k = true ↔ k ∈ e1.toList.map (kOf kf))
    (hb1 : e1.size < scanBound) (hf2 : t2.fits e1.size = true) (hr : Ris t2.place.toList) (hl : w.params.followText "set-order" = true ∨ t2.led = true) {wd : Bool} {R : Option Bool → Shared → Prop}
    (hR : ∀ h', Heap.SameBut a s.heap h' → SetG knd kf h' a S' e1.size → R (some true) { s with heap := h' }) :
    wpAny (model P w) A (do
        storeSet a e1 t2
        if (!wd && t2.tooFull) = true then do
            g (relayAll t2 e1 (SetTable.grown e1.size)).2.2
            storeSet a (relayAll t2 e1 (SetTable.grown e1.size)).1 (relayAll t2 e1 (SetTable.grown e1.size)).2.1
            pure (some true)
          else pure (some true)) R E s := by
  refine wpAny_bind (wpAny_storeSet_of ho hd ?_ (fits_of_scanBound hb1))
  have ho1 := store_at (es' := e1) (t' := t2) ho hd
  have sb1 := Heap.SameBut.update s.heap a (Obj.putSet e1 t2)
  split
  · have pm := relayAll_perm t2 e1 (SetTable.grown e1.size)
    have hf3 := relayAll_fits t2 e1 (SetTable.grown e1.size)
    have hr3 := relayAll_ris t2 e1 (SetTable.grown e1.size)
    have hl3 := relayAll_led t2 e1 (SetTable.grown e1.size)
    generalize relayAll t2 e1 (SetTable.grown e1.size) = Z at pm hf3 hr3 hl3 ⊢
    obtain ⟨e2, t3, gave⟩ := Z
    dsimp only at pm hf3 hr3 hl3 ⊢
    have hsz : e2.size = e1.size := by rw [← Array.length_toList, pm.length_eq, Array.length_toList]
    have hb2 : e2.size < scanBound := by rw [hsz]; exact hb1
    refine wpAny_bind (hg _ _ _ ?_)
    refine wpAny_bind (wpAny_storeSet_of ho1 rfl ?_ (fits_of_scanBound hb2))
    have ho2 := store_at (es' := e2) (t' := t3) ho1 rfl
    refine wpAny_pure (hR _ (sb1.trans (Heap.SameBut.update _ a _)) ?_)
    exact ⟨_, e2, _, t3, ho2, hex, rfl, fun e he => g1 e (pm.mem_iff.mp he), (pm.map (kOf kf)).nodup_iff.mpr nd1, fun k => (m1 k).trans (pm.map (kOf kf)).mem_iff.symm, hb2, hf3, hsz, hr3,
      hl.imp id fun z => by rw [hl3]; exact z⟩
  · exact wpAny_pure (hR _ sb1 ⟨_, e1, _, t2, ho1, hex, rfl, g1, nd1, m1, hb1, hf2, rfl, hr, hl⟩)
/-- one more key -/
theorem add_G (kF : KF knd kf) {k : κ} {v : Value} {Q : Bool → Shared → Prop} (hkey : knd.is k v = true) (hsc : v.scannable = true) (R : SetG knd kf s.heap a S n) (room : n + 1 < scanBound)
    (hQ : ∀ h', Heap.SameBut a s.heap h' → SetG knd kf h' a (fun j => S j || decide (j = k)) (if S k = true then n else n + 1) → Q (!S k) { s with heap := h' }) :
    wpAny (model P w) A (setAddHashed a v (knd.hash k)) Q E s := by
  obtain ⟨o, es, ep, t, ho, hex, hd, g, nd, hm, hb, hf, hn, hr, hl⟩ := R
  have hel : ElemsOf knd es.toList := rows_elems g
  unfold setAddHashed setAddHashedIn
  refine wpAny_holding (wpAny_bind (wpAny_setState_of ho hd hf ?_))
  dsimp only
  rw [byScan_of hsc hb hel]
  simp only [↓reduceIte]
  unfold setAddByScan
  refine wpAny_bind ?_
  refine wpAny_bind (wpAny_rule ?_)
  refine wpAny_bind (wpAny_setScan_of hkey ho hd hf hel ?_)
  cases hfi : List.findIdx? (fun e => knd.is k e.2) es.toList with
  | some j =>
    dsimp only
    obtain ⟨hj, pj, _⟩ := List.findIdx?_eq_some_iff_getElem.mp hfi
    have hSk : S k = true := (hm k).2 ((rows_mem kF g k).2 ⟨es.toList[j], List.getElem_mem hj, pj⟩)
    refine wpAny_pure (wpAny_pure ?_)
    have q := hQ s.heap (Heap.SameBut.refl a s.heap) ⟨o, es, ep, t, ho, hex, hd, g, nd, fun i => by
      rw [Bool.or_eq_true, decide_eq_true_eq, ← hm i]
      exact ⟨fun z => z.elim id (fun e => e ▸ hSk), .inl⟩, hb, hf, by rw [if_pos hSk]; exact hn, hr, hl⟩
    rw [hSk] at q
    exact q
  | none =>
    dsimp only
    have hnk : k ∉ es.toList.map (kOf kf) := fun z => by
      obtain ⟨e, he, q⟩ := (rows_mem kF g k).1 z
      have c := List.findIdx?_eq_none_iff.mp hfi e he
      rw [q] at c
      cases c
    have hSk : S k = false := by
      cases q : S k with
      | false => rfl
      | true => exact absurd ((hm k).1 q) hnk
    have hgw : ∀ (b : Bool) {s₁ : Shared} {Q' : Unit → Shared → Prop}, Q' () s₁ → wpAny (model P w) A (match b with | true => rule "set.scan.the-table-gave-way" | false => pure ()) Q' E s₁ :=
      fun b s₁ Q' q => by cases b <;> first | exact wpAny_pure q | exact wpAny_rule q
    have pm := layNew_perm t es (knd.hash k) v
    have hf1 := layNew_fits t es (knd.hash k) v
    have hr1 := layNew_ris t es (knd.hash k) v hr
    have hl1 := layNew_led t es (knd.hash k) v
    generalize layNew t es (knd.hash k) v = Z at pm hf1 hr1 hl1 ⊢
    obtain ⟨e1, t1, wd, gave⟩ := Z
    dsimp only at pm hf1 hr1 hl1 ⊢
    rw [Array.toList_push] at pm
    have pc : e1.toList.Perm ((knd.hash k, v) :: es.toList) := pm.trans (List.perm_append_singleton _ _)
    have ek : kOf kf (knd.hash k, v) = k := kF.of k v hkey
    have pk : (e1.toList.map (kOf kf)).Perm (k :: es.toList.map (kOf kf)) := by
      have z := pc.map (kOf kf)
      rw [List.map_cons, ek] at z
      exact z
    have g1 : ∀ e ∈ e1.toList, RowOk knd kf e := fun e he => by
      rcases List.mem_cons.mp (pc.mem_iff.mp he) with z | z
      · rw [z]
        have ek' : kf v = k := ek
        exact ⟨by rw [show kf (knd.hash k, v).2 = k from ek']; exact hkey, by rw [show kf (knd.hash k, v).2 = k from ek'], hsc⟩
      · exact g e z
    have nd1 : (e1.toList.map (kOf kf)).Nodup := pk.nodup_iff.mpr (List.nodup_cons.mpr ⟨hnk, nd⟩)
    have m1 : ∀ i, (S i || decide (i = k)) = true ↔ i ∈ e1.toList.map (kOf kf) := fun i => by
      rw [Bool.or_eq_true, decide_eq_true_eq, hm i, pk.mem_iff, List.mem_cons]
      exact Or.comm
    have hsz : e1.size = n + 1 := by rw [← Array.length_toList, pc.length_eq, List.length_cons, Array.length_toList, hn]
    have hb1 : e1.size < scanBound := by rw [hsz]; exact room
    have hled : w.params.followText "set-order" = true ∨ t1.led = true := hl.imp id fun z => by rw [hl1]; exact z
    have fin : ∀ h', Heap.SameBut a s.heap h' → SetG knd kf h' a (fun j => S j || decide (j = k)) e1.size → Q true { s with heap := h' } := fun h' sb r => by
      have q := hQ h' sb
      rw [hSk] at q
      rw [hsz] at r
      exact q r
    refine wpAny_bind (hgw _ ?_)
    split
    · refine wpAny_bind ?_
      rw [hashByValue_scannable 8 hsc]
      refine wpAny_pure ?_
      refine add_tailG ?_ ho hex hd g1 nd1 m1 hb1 ?_ ?_ ?_ ?_
      · intro b s₁ Q' q; cases b <;> first | exact wpAny_pure q | exact wpAny_rule q
      · first | (split <;> first | exact hf1 | exact SetTable.fits_plain_off hf1) | exact hf1
      · first | (split <;> exact hr1) | exact hr1
      · first | (split <;> exact hled) | exact hled
      · intro h' sb r; dsimp only; exact wpAny_pure (fin h' sb r)
    · refine wpAny_bind (wpAny_pure ?_)
      simp only [↓reduceIte]
      refine add_tailG ?_ ho hex hd g1 nd1 m1 hb1 hf1 hr1 hled ?_
      · intro b s₁ Q' q; cases b <;> first | exact wpAny_pure q | exact wpAny_rule q
      · intro h' sb r; dsimp only; exact wpAny_pure (fin h' sb r)
/-- all items of what is walked -/
theorem loop_G (kF : KF knd kf) {I : Addr} {fp wr : List Addr} {G : Array GenState → Array GenState → Prop} {n : Nat} {Pv : Nat → Value → Prop} {St : Nat → Shared → Prop} {R : Result → Shared → Prop}
    (W : WalksS P w A.in1 I fp wr G n Pv St) (D : Addr) (hDf : D ∉ fp) (ks : List κ) (hn : n = ks.length) (hb : ks.length + 1 < scanBound) (hval : ∀ i v, Pv i v → ∃ k, ks[i]? = some k ∧ knd.is k v = true ∧ v.scannable = true) :
    ∀ (m i : Nat) (s : Shared), n - i = m → i ≤ n → St i s → (∃ c, c ≤ i ∧ SetG knd kf s.heap D (fun j => decide (j ∈ ks.take i)) c) →
      (∀ s' c, Moved (D :: wr) G s s' → SetG knd kf s'.heap D (fun j => decide (j ∈ ks)) c → R (.ok (.ret .none)) s') →
      codeAny (model P w) A (.builtin "set.update.loop" ⟨[.ref D, .ref I], []⟩) R s := by
  have hDw : D ∉ wr := fun z => hDf (W.sub _ z)
  have hsub : ∀ b ∈ wr, b ∈ D :: wr := fun b hb => List.mem_cons_of_mem _ hb
  intro m
  induction m with
  | zero =>
    intro i s hk' hi hst ⟨c, hc, hS⟩ hR
    obtain rfl : i = n := by omega
    refine codeAny_builtin F.entry_set_update_loop ?_
    rw [Around.under_plainId F.plain_set_update_loop _]
    show wpAny _ A.in1 (pyNext (.ref I) >>= _) _ _ s
    refine wpAny_bind (W.done s _ _ hst fun s' hm => ?_)
    show wpAny _ A.in1 (ret Value.none) _ _ s'
    have e : ks.take i = ks := List.take_of_length_le (by omega)
    rw [e] at hS
    exact wpAny_pure (hR s' c (hm.mono hsub) (hS.at fun o e => hm.heap D o hDw e))
  | succ m ih =>
    intro i s hk' hi hst ⟨c, hc, hS⟩ hR
    have hlt : i < n := by omega
    refine codeAny_builtin F.entry_set_update_loop ?_
    rw [Around.under_plainId F.plain_set_update_loop _]
    show wpAny _ A.in1 (pyNext (.ref I) >>= _) _ _ s
    refine wpAny_bind (W.item i s _ _ hlt hst fun v s' hP hst' hm => ?_)
    obtain ⟨z, hz, hkey, hsc⟩ := hval i v hP
    have hS' : SetG knd kf s'.heap D (fun j => decide (j ∈ ks.take i)) c := hS.at fun o e => hm.heap D o hDw e
    show wpAny _ A.in1 (holding [v] (setAdd D v) >>= _) _ _ s'
    refine wpAny_bind (wpAny_holding ?_)
    unfold setAdd
    refine wpAny_holding ?_
    refine wpAny_bind (knd.pyHash (k := z) hkey ?_)
    refine add_G kF (s := { s' with toks := s'.toks + 1 }) hkey hsc hS' (by omega) fun h' hsb hS2 => ?_
    have hS3 : SetG knd kf h' D (fun j => decide (j ∈ ks.take (i + 1))) (if decide (z ∈ ks.take i) = true then c else c + 1) := hS2.congr fun j => by
      rw [List.take_add_one, hz]
      simp [List.mem_append]
    have hc3 : (if decide (z ∈ ks.take i) = true then c else c + 1) ≤ i + 1 := by
      split <;> omega
    refine wpAny_pure ⟨plainId_quiet F.plain_set_update_loop _, ih (i + 1) _ (by omega) hlt (W.frame _ s' _ _ hst' (Nat.le_succ _) fun b hb o e => ?_) ⟨_, hc3, hS3⟩ fun s'' c2 hm'' hS'' => ?_⟩
    · rw [hsb.2 b (fun z : b = D => hDf (by rw [← z]; exact hb))]; exact e
    · refine hR s'' c2 (Moved.trans W.gtrans ((hm.mono hsub).then_heap (Nat.le_succ _) fun b o hb e => ?_) hm'') hS''
      rw [hsb.2 b (fun z : b = D => hb (by rw [z]; exact List.mem_cons_self))]; exact e
end
end Mi
namespace Mi
open PySem PySem.Spec PyProof.Rows
open L2 (Ris store_at layNew_ris layNew_led relayAll_ris relayAll_led code_set_led1 collect_set)
section
variable {κ : Type} [DecidableEq κ] {P : Program} {w : World}
variable {knd : KeyKind P w κ} {kf : Value → κ} {h h' : Heap} {a : Addr} {S : κ → Bool} {n : Nat} {A : Around} {E : Value → Shared → Prop} {s : Shared}
/-- an empty set, new -/
abbrev setNil (w : World) : Obj := { cls := .type "set", dict := none, data := .set #[] 0 (.fresh 0 0 (!w.params.followText "set-order")) }
theorem new_G {ks : List κ} (ho : h.get? a = some (setNil w)) : SetG knd kf h a (fun j => decide (j ∈ ks.take 0)) 0 :=
  ⟨_, #[], 0, _, ho, ⟨rfl, rfl, rfl⟩, rfl, (fun e he => by simp at he), (by simp), (fun k => by simp), (by decide), (by rfl), rfl, List.Pairwise.nil, by
    show _ ∨ (!w.params.followText "set-order") = true
    cases w.params.followText "set-order"
    · exact .inr rfl
    · exact .inl rfl⟩
theorem setG_list (kF : KF knd kf) {l : Addr} {items : Array Value} (ks : List κ) {Q : Value → Shared → Prop} (hh : A.handled = none) (hl : s.heap.IsList l items) (hsz : items.size = ks.length) (hval : ∀ (i : Nat) (v : Value), items[i]? = some v → ∃ k, ks[i]? = some k ∧ knd.is k v = true ∧ v.scannable = true) (hb : ks.length + 1 < scanBound)
    (h : ∀ (h' : Heap) (tk c : Nat), SetG knd kf h' s.heap.objs.size (fun j => decide (j ∈ ks)) c → (∀ b o, s.heap.get? b = some o → h'.get? b = some o) → Q (.ref s.heap.objs.size) { s with heap := h', toks := tk }) :
    wpAny (model P w) A (call (.type "set") [.ref l]) Q E s := by
  obtain ⟨c, tl, hmro⟩ := F.called_set.mro
  have hmade := F.called_set.made
  have hsub := F.called_set.sub
  refine wpAny_call (codeAny_of_tree ?_)
  show wpAny _ _ (callAny (.type "set") _) _ _ _
  refine wpAny_pure ⟨Code.quiet_builtin _ (by decide +kernel), codeAny_builtin F.entry_type_call ?_⟩
  rw [Around.under_plain (weight_type_call_type "set" [.ref l] []) rfl]
  have h1 := F.called_set.notType
  have h2 := F.called_set.canCreate
  have hct := F.typeCall_set_1 (.ref l)
  repeat (any_goals (first | assumption | wp_step))
  refine codeAny_mono (code_set_led1 (.ref l) (E := E) (Q₁ := fun obj s₁ => obj = .ref s.heap.objs.size ∧ s₁ = { s with heap := s.heap.push (setNil w) }) ⟨rfl, rfl⟩) fun r s₁ hr => ?_
  cases r with
  | error e => exact hr
  | ok fl =>
    cases fl with
    | ret obj =>
      obtain ⟨rfl, rfl⟩ := hr
      have hS : (s.heap.push (setNil w)).get? s.heap.objs.size = some (setNil w) := Heap.get?_push_size _ rfl
      have hT : Shared.TypeIs { s with heap := s.heap.push (setNil w) } (.ref s.heap.objs.size) "set" := ⟨_, hS, rfl⟩
      have hli := F.called_set.init.lookup
      have hbi := F.called_set.init.bind (.ref s.heap.objs.size)
      repeat (any_goals (first | assumption | wp_step))
      refine codeAny_mono (codeAny_call_builtin (R := wants (fun r s₂ => r = .none ∧ ∃ h' tk c, s₂ = { s with heap := h', toks := tk } ∧ SetG knd kf h' s.heap.objs.size (fun j => decide (j ∈ ks)) c ∧
          (∀ b o, s.heap.get? b = some o → h'.get? b = some o)) E) F.called_set.init.plain F.entry_set_init (check_set_init_1 hT ?_)) fun r₂ s₂ hr₂ => ?_
      · obtain ⟨ol, hol, hcl, nl, hdl⟩ := hl
        obtain ⟨ocls, odict, odata, oslots⟩ := ol
        simp only at hcl hdl
        subst hcl; subst hdl
        have hol' : (s.heap.push (setNil w)).get? l = some { cls := .type "list", dict := odict, data := .seq items nl, slots := oslots } := Heap.get?_push_of_some _ hol
        have hsls := F.sub_list_set
        have hslf := F.sub_list_frozenset
        have hne : (Value.type "list" == Value.type "dict") = false := by decide
        have hl1 : (s.heap.push (setNil w)).IsList l items := ⟨_, hol', rfl, nl, rfl⟩
        unfold Builtin.«set.__init__» noKeywords Builtin.Frozenset.updateFrom
        generalize hPI : pyIter = PI
        wp_walk
        subst hPI
        refine wpAny_pyIter_list hl1 ?_
        refine wpAny_bind (wpAny_runValue ?_)
        have hlS : l < s.heap.objs.size := Heap.lt_size hol
        have hh3 : A.in1.in1.in1.handled = none := by simp [hh]
        have hneI : l ≠ (s.heap.push (setNil w)).objs.size := by
          rw [Heap.size_push]; exact Nat.ne_of_lt (Nat.lt_succ_of_lt hlS)
        have hSf : s.heap.objs.size ∉ [(s.heap.push (setNil w)).objs.size, l] := by
          rw [Heap.size_push]; simp only [List.mem_cons, List.mem_singleton, List.not_mem_nil, or_false, not_or]
          exact ⟨Nat.ne_of_lt (Nat.lt_succ_self _), Nat.ne_of_gt hlS⟩
        refine loop_G kF ((Walks.list hh3 _ l hneI items).toS) s.heap.objs.size
          hSf ks hsz hb hval (items.size - 0) 0 _ (by omega) (Nat.zero_le _)
          ⟨⟨_, Heap.get?_push_size _ rfl, rfl, rfl⟩, (hl1.push _)⟩ ?hS0 ?hR
        case hS0 =>
          have hget : ((s.heap.push (setNil w)).push { cls := .type "list_iterator", data := .fields #[.ref l, .int 0 0] }).get? s.heap.objs.size = some (setNil w) := Heap.get?_push_of_some _ hS
          exact ⟨0, Nat.le_refl 0, new_G hget⟩
        case hR =>
          intro s' c' hm hS'
          obtain ⟨h', g2, d', tk', os'⟩ := s'
          have eg : g2 = s.gens := hm.gens
          have ed : d' = s.drawn := hm.drawn
          have eo : os' = s.os := hm.os
          subst eg; subst ed; subst eo
          show wpAny _ _ _ _ _ _
          refine wpAny_pure ?_
          show wpAny _ _ (ret Value.none) _ _ _
          refine wpAny_pure ⟨rfl, h', tk', c', rfl, hS', fun b o e => ?_⟩
          have hb0 : b < s.heap.objs.size := Heap.lt_size e
          have hb2 : b ≠ (s.heap.push (setNil w)).objs.size := by
            rw [Heap.size_push]; exact Nat.ne_of_lt (Nat.lt_succ_of_lt hb0)
          exact hm.heap b o (by simp only [List.mem_cons, List.mem_singleton, List.not_mem_nil, or_false, not_or]; exact ⟨Nat.ne_of_lt hb0, hb2⟩) (Heap.get?_push_of_some _ (Heap.get?_push_of_some _ e))
      · cases r₂ with
        | error e => exact hr₂
        | ok fl₂ =>
          cases fl₂ with
          | ret r =>
            obtain ⟨rfl, h', tk, c', rfl, hS', hk'⟩ := hr₂
            repeat (any_goals (first | assumption | wp_step))
            exact h _ _ _ hS' hk'
          | _ => exact hr₂.elim
    | _ => exact hr.elim
theorem setG_tuple (kF : KF knd kf) {l : Addr} {items : Array Value} (ks : List κ) {Q : Value → Shared → Prop} (hh : A.handled = none) (hl : s.heap.IsTuple l items) (hsz : items.size = ks.length) (hval : ∀ (i : Nat) (v : Value), items[i]? = some v → ∃ k, ks[i]? = some k ∧ knd.is k v = true ∧ v.scannable = true) (hb : ks.length + 1 < scanBound)
    (h : ∀ (h' : Heap) (tk c : Nat), SetG knd kf h' s.heap.objs.size (fun j => decide (j ∈ ks)) c → (∀ b o, s.heap.get? b = some o → h'.get? b = some o) → Q (.ref s.heap.objs.size) { s with heap := h', toks := tk }) :
    wpAny (model P w) A (call (.type "set") [.ref l]) Q E s := by
  obtain ⟨c, tl, hmro⟩ := F.called_set.mro
  have hmade := F.called_set.made
  have hsub := F.called_set.sub
  refine wpAny_call (codeAny_of_tree ?_)
  show wpAny _ _ (callAny (.type "set") _) _ _ _
  refine wpAny_pure ⟨Code.quiet_builtin _ (by decide +kernel), codeAny_builtin F.entry_type_call ?_⟩
  rw [Around.under_plain (weight_type_call_type "set" [.ref l] []) rfl]
  have h1 := F.called_set.notType
  have h2 := F.called_set.canCreate
  have hct := F.typeCall_set_1 (.ref l)
  repeat (any_goals (first | assumption | wp_step))
  refine codeAny_mono (code_set_led1 (.ref l) (E := E) (Q₁ := fun obj s₁ => obj = .ref s.heap.objs.size ∧ s₁ = { s with heap := s.heap.push (setNil w) }) ⟨rfl, rfl⟩) fun r s₁ hr => ?_
  cases r with
  | error e => exact hr
  | ok fl =>
    cases fl with
    | ret obj =>
      obtain ⟨rfl, rfl⟩ := hr
      have hS : (s.heap.push (setNil w)).get? s.heap.objs.size = some (setNil w) := Heap.get?_push_size _ rfl
      have hT : Shared.TypeIs { s with heap := s.heap.push (setNil w) } (.ref s.heap.objs.size) "set" := ⟨_, hS, rfl⟩
      have hli := F.called_set.init.lookup
      have hbi := F.called_set.init.bind (.ref s.heap.objs.size)
      repeat (any_goals (first | assumption | wp_step))
      refine codeAny_mono (codeAny_call_builtin (R := wants (fun r s₂ => r = .none ∧ ∃ h' tk c, s₂ = { s with heap := h', toks := tk } ∧ SetG knd kf h' s.heap.objs.size (fun j => decide (j ∈ ks)) c ∧
          (∀ b o, s.heap.get? b = some o → h'.get? b = some o)) E) F.called_set.init.plain F.entry_set_init (check_set_init_1 hT ?_)) fun r₂ s₂ hr₂ => ?_
      · obtain ⟨ol, hol, hcl, nl, hdl⟩ := hl
        obtain ⟨ocls, odict, odata, oslots⟩ := ol
        simp only at hcl hdl
        subst hcl; subst hdl
        have hol' : (s.heap.push (setNil w)).get? l = some { cls := .type "tuple", dict := odict, data := .seq items nl, slots := oslots } := Heap.get?_push_of_some _ hol
        have hsls := F.sub_tuple_set
        have hslf := F.sub_tuple_frozenset
        have hne : (Value.type "tuple" == Value.type "dict") = false := by decide
        have hl1 : (s.heap.push (setNil w)).IsTuple l items := ⟨_, hol', rfl, nl, rfl⟩
        unfold Builtin.«set.__init__» noKeywords Builtin.Frozenset.updateFrom
        generalize hPI : pyIter = PI
        wp_walk
        subst hPI
        refine wpAny_pyIter_tuple hl1 ?_
        refine wpAny_bind (wpAny_runValue ?_)
        have hlS : l < s.heap.objs.size := Heap.lt_size hol
        have hh3 : A.in1.in1.in1.handled = none := by simp [hh]
        have hneI : l ≠ (s.heap.push (setNil w)).objs.size := by
          rw [Heap.size_push]; exact Nat.ne_of_lt (Nat.lt_succ_of_lt hlS)
        have hSf : s.heap.objs.size ∉ [(s.heap.push (setNil w)).objs.size, l] := by
          rw [Heap.size_push]; simp only [List.mem_cons, List.mem_singleton, List.not_mem_nil, or_false, not_or]
          exact ⟨Nat.ne_of_lt (Nat.lt_succ_self _), Nat.ne_of_gt hlS⟩
        refine loop_G kF ((Walks.tuple hh3 _ l hneI items).toS) s.heap.objs.size
          hSf ks hsz hb hval (items.size - 0) 0 _ (by omega) (Nat.zero_le _)
          ⟨⟨_, Heap.get?_push_size _ rfl, rfl, rfl⟩, (hl1.push _)⟩ ?hS0 ?hR
        case hS0 =>
          have hget : ((s.heap.push (setNil w)).push { cls := .type "tuple_iterator", data := .fields #[.ref l, .int 0 0] }).get? s.heap.objs.size = some (setNil w) := Heap.get?_push_of_some _ hS
          exact ⟨0, Nat.le_refl 0, new_G hget⟩
        case hR =>
          intro s' c' hm hS'
          obtain ⟨h', g2, d', tk', os'⟩ := s'
          have eg : g2 = s.gens := hm.gens
          have ed : d' = s.drawn := hm.drawn
          have eo : os' = s.os := hm.os
          subst eg; subst ed; subst eo
          show wpAny _ _ _ _ _ _
          refine wpAny_pure ?_
          show wpAny _ _ (ret Value.none) _ _ _
          refine wpAny_pure ⟨rfl, h', tk', c', rfl, hS', fun b o e => ?_⟩
          have hb0 : b < s.heap.objs.size := Heap.lt_size e
          have hb2 : b ≠ (s.heap.push (setNil w)).objs.size := by
            rw [Heap.size_push]; exact Nat.ne_of_lt (Nat.lt_succ_of_lt hb0)
          exact hm.heap b o (by simp only [List.mem_cons, List.mem_singleton, List.not_mem_nil, or_false, not_or]; exact ⟨Nat.ne_of_lt hb0, hb2⟩) (Heap.get?_push_of_some _ (Heap.get?_push_of_some _ e))
      · cases r₂ with
        | error e => exact hr₂
        | ok fl₂ =>
          cases fl₂ with
          | ret r =>
            obtain ⟨rfl, h', tk, c', rfl, hS', hk'⟩ := hr₂
            repeat (any_goals (first | assumption | wp_step))
            exact h _ _ _ hS' hk'
          | _ => exact hr₂.elim
    | _ => exact hr.elim
end
end Mi
namespace Mi
open PySem PySem.Spec PyProof.Rows
open PySem.W (EachIs AllAlike Sortable dataLe alike)
open L2 (Ris collect_set)
section
variable {α : Type} [DecidableEq α]
theorem mem_dedup {x : α} : ∀ {xs : List α}, x ∈ dedup xs ↔ x ∈ xs
  | [] => Iff.rfl
  | y :: r => by
    simp only [dedup, List.mem_cons, List.mem_filter, mem_dedup (xs := r)]
    constructor
    · rintro (h | ⟨h, _⟩)
      · exact .inl h
      · exact .inr h
    · intro h
      by_cases e : x = y
      · exact .inl e
      · rcases h with h | h
        · exact .inl h
        · exact .inr ⟨h, by simp [e]⟩
theorem nodup_dedup : ∀ (xs : List α), (dedup xs).Nodup
  | [] => List.Pairwise.nil
  | y :: r => by
    refine List.nodup_cons.mpr ⟨fun h => ?_, (nodup_dedup r).filter _⟩
    have := (List.mem_filter.mp h).2
    simp at this
end
section
variable {κ : Type} [DecidableEq κ] {P : Program} {w : World}
/-- keys of one kind as values, as data -/
structure KN (knd : KeyKind P w κ) (kf : Value → κ) (mk : κ → L2.V) (enc : κ → PyData) : Prop where
  kF : KF knd kf
  val : ∀ k u, L2.RelV (mk k) u → knd.is k u = true ∧ u.scannable = true
  rel : ∀ k u, knd.is k u = true → L2.RelV (mk k) u
  rd : ∀ (h : Heap) k u, knd.is k u = true → Reads h u (enc k) []
  al : ∀ a b, alike (enc a) (enc b) = true
  no : ∀ a, enc a ≠ .none ∧ ∀ xs, enc a ≠ .tuple xs
  dep : ∀ a, (enc a).depth = 0
  asy : ∀ a b, dataLe false enc a b = true → dataLe false enc b a = true → a = b
  tr : ∀ a b c, dataLe false enc a b = true → dataLe false enc b c = true → dataLe false enc a c = true
  tot : ∀ a b, (dataLe false enc a b || dataLe false enc b a) = true
variable {knd : KeyKind P w κ} {kf : Value → κ} {mk : κ → L2.V} {enc : κ → PyData} {h h' : Heap} {a : Addr} {S : κ → Bool} {n : Nat} {A : Around} {E : Value → Shared → Prop} {s : Shared}
theorem KN.sort (K : KN knd kf mk enc) {xs ys : List κ} (h : xs.Perm ys) : xs.mergeSort (dataLe false enc) = ys.mergeSort (dataLe false enc) :=
  List.Perm.eq_of_pairwise (fun a b _ _ => K.asy a b) (List.pairwise_mergeSort K.tr K.tot xs) (List.pairwise_mergeSort K.tr K.tot ys)
    ((List.mergeSort_perm _ _).trans (h.trans (List.mergeSort_perm _ _).symm))
theorem each_keys {R : Value → κ → Prop} : ∀ {vs : List Value}, (∀ v ∈ vs, R v (kf v)) → EachIs R vs (vs.map kf)
  | [], _ => .nil
  | v :: vs, h => .cons (h v (List.mem_cons_self ..)) (each_keys fun u hu => h u (List.mem_cons_of_mem _ hu))
/-- what is in the set, once each -/
theorem SetG.perm {ks : List κ} {c : Nat} (R : SetG knd kf h a (fun j => decide (j ∈ ks)) c) : c = (dedup ks).length := by
  obtain ⟨o, es, ep, t, ho, hex, hd, g, nd, hm, hb, hf, hn, hr, hl⟩ := R
  have p : (es.toList.map (kOf kf)).Perm (dedup ks) := (List.perm_ext_iff_of_nodup nd (nodup_dedup ks)).mpr fun x => by
    rw [← hm x, decide_eq_true_eq, mem_dedup]
  rw [← p.length_eq, List.length_map, Array.length_toList, hn]
theorem sorted_G (K : KN knd kf mk enc) {ks : List κ} {c : Nat} (R : SetG knd kf s.heap a (fun j => decide (j ∈ ks)) c) (hh : A.handled = none) (hu : A.units + 64 < cLine) {Q : Value → Shared → Prop}
    (hQ : ∀ s' p (out : List Value) (m : Nat), (∀ b o, s.heap.get? b = some o → s'.heap.get? b = some o) → s'.gens = s.gens → s'.os = s.os → s.heap.objs.size ≤ p →
      s'.heap.get? p = some (seqObj "list" out.toArray m) → EachIs (fun v k => knd.is k v = true) out ((dedup ks).mergeSort (dataLe false enc)) → Q (.ref p) s') :
    wpAny (model P w) A (call (.builtin "sorted") [.ref a]) Q E s := by
  obtain ⟨o, es, ep, t, ho, hex, hd, g, nd, hm, hb, hf, hn, hr, hl⟩ := R
  refine Calls.call_function_entry kind_sorted plain_sorted entry_sorted (args_sorted1 _) ?_
  unfold Builtin.«sorted»
  refine wpAny_bind (m := checkCount "sorted" 1 1 _) (wpAny_pure ?_)
  refine wpAny_bind (collect_set (A := A.in1) hh ⟨o, ho, hex.1, hd⟩ hf hb hr hl fun s1 vs k1 hz g1 o1 pm => ?_)
  have hvl : vs.length = es.size := by rw [pm.length_eq, List.length_map, Array.length_toList]
  have hI : ∀ v ∈ vs, knd.is (kf v) v = true := fun v hv => by
    obtain ⟨e, he, q⟩ := List.mem_map.mp (pm.mem_iff.mp hv)
    have := (g e he).1
    rw [← q]; exact this
  have pk : (vs.map kf).Perm (dedup ks) := by
    have q := pm.map kf
    rw [List.map_map] at q
    refine q.trans ((List.perm_ext_iff_of_nodup nd (nodup_dedup ks)).mpr fun x => ?_)
    rw [← hm x, decide_eq_true_eq, mem_dedup]
  have hL : vs.length ≤ sizeLine := by rw [hvl, sizeLine_eq]; unfold scanBound at hb; omega
  refine wpAny_bind (wpAny_newList ?_ hL)
  have hoL : (s1.heap.push (seqObj "list" vs.toArray 0)).get? s1.heap.objs.size = some (seqObj "list" vs.toArray 0) := Heap.get?_push_size _ rfl
  refine wpAny_bind (wpAny_holding (PySem.W.list_sort_data (R := fun v k => knd.is k v = true) (enc := enc) (vs := vs) (bs := vs.map kf) hoL (each_keys hI) (each_keys fun v hv => ⟨[], K.rd _ _ _ (hI v hv), fun z => nomatch z⟩)
    (AllAlike.of K.al) (Sortable.others K.no) (by rw [List.length_map]; exact hL) (fun b _ => by rw [K.dep]; show A.units + 1 + 1 + 0 < cLine; omega) fun out _ hE => ?_))
  obtain ⟨m, hc⟩ := sortedHeap_at (vs := vs) (out := out.toArray) hoL
  rw [K.sort pk] at hE
  refine wpAny_pure ⟨_, rfl, hQ _ s1.heap.objs.size out m (fun b u e => ?_) g1 o1 hz hc hE⟩
  have q := k1 b u e
  have hlt := Heap.lt_size q
  show (sortedHeap (s1.heap.push (seqObj "list" vs.toArray 0)) s1.heap.objs.size vs out.toArray).get? b = some u
  rw [sortedHeap_old (Nat.ne_of_lt hlt) (by rw [size_push']; exact Nat.lt_succ_of_lt hlt)]
  exact Heap.get?_push_of_some _ q
end
def kfS : Value → Str
  | .str x _ => x
  | _ => Str.empty
def kfI : Value → Int
  | .int i _ => i
  | _ => 0
section
variable {P : Program} {w : World}
theorem isInt_shape {k : Int} {v : Value} (h : (intKind P w).is k v = true) : ∃ t, v = .int k t := by
  obtain ⟨t, e⟩ := Value.isInt_shape h
  exact ⟨t, e⟩
theorem leStr_eq : dataLe false PyData.str = leStr := PySem.W.dataLe_str (fun x : Str => x)
theorem leInt_eq : dataLe false PyData.int = leInt := PySem.W.dataLe_int (fun x : Int => x)
theorem str_ext {a b : Str} (h : a.cps.toList = b.cps.toList) : a = b := by
  cases a; cases b
  simp only [Str.mk.injEq]
  exact Array.toList_inj.mp h
theorem kn_str : KN (strKind P w) kfS L2.V.str PyData.str where
  kF := ⟨fun k v h => by obtain ⟨t, rfl⟩ := Value.isStrOf_shape h; rfl⟩
  val := fun k u h => by
    obtain ⟨t, rfl⟩ := h
    exact ⟨by show Value.isStrOf k (.str k t) = true; simp [Value.isStrOf], rfl⟩
  rel := fun k u h => Value.isStrOf_shape h
  rd := fun h k u q => by obtain ⟨t, rfl⟩ := Value.isStrOf_shape q; exact .str _ _
  al := fun a b => by simp [alike]
  no := fun a => ⟨(fun z => nomatch z), (fun _ z => nomatch z)⟩
  dep := fun a => by simp [PyData.depth]
  asy := fun a b h1 h2 => by
    rw [leStr_eq] at h1 h2
    exact str_ext (List.le_antisymm (of_decide_eq_true h1) (of_decide_eq_true h2))
  tr := fun a b c h1 h2 => by
    rw [leStr_eq] at h1 h2 ⊢
    exact decide_eq_true (List.le_trans (of_decide_eq_true h1) (of_decide_eq_true h2))
  tot := fun a b => by
    rw [leStr_eq]
    rcases List.le_total a.cps.toList b.cps.toList with h | h
    · rw [show leStr a b = true from decide_eq_true h]; rfl
    · rw [show leStr b a = true from decide_eq_true h, Bool.or_true]
theorem kn_int : KN (intKind P w) kfI L2.V.int PyData.int where
  kF := ⟨fun k v h => by obtain ⟨t, rfl⟩ := isInt_shape h; rfl⟩
  val := fun k u h => by
    obtain ⟨t, rfl⟩ := h
    exact ⟨intKind_is _ _ _ _, rfl⟩
  rel := fun k u h => isInt_shape h
  rd := fun h k u q => by obtain ⟨t, rfl⟩ := isInt_shape q; exact .int _ _
  al := fun a b => by simp [alike]
  no := fun a => ⟨(fun z => nomatch z), (fun _ z => nomatch z)⟩
  dep := fun a => by simp [PyData.depth]
  asy := fun a b h1 h2 => by
    rw [leInt_eq] at h1 h2
    exact Int.le_antisymm (of_decide_eq_true h1) (of_decide_eq_true h2)
  tr := fun a b c h1 h2 => by
    rw [leInt_eq] at h1 h2 ⊢
    exact decide_eq_true (Int.le_trans (of_decide_eq_true h1) (of_decide_eq_true h2))
  tot := fun a b => by
    rw [leInt_eq]
    rcases Int.le_total a b with h | h
    · rw [show leInt a b = true from decide_eq_true h]; rfl
    · rw [show leInt b a = true from decide_eq_true h, Bool.or_true]
end
end Mi
namespace Mi
open PySem L2
open PySem.W (EachIs dataLe)
section
variable {X : Cx} {c : Cc}
theorem vals_keys {κ : Type} [DecidableEq κ] {P : Program} {w : World} {knd : KeyKind P w κ} {kf : Value → κ} {mk : κ → V} {enc : κ → PyData} (K : KN knd kf mk enc) : ∀ {ks : List κ} {its : List Value}, Vals (ks.map mk) its → ∀ (i : Nat) (v : Value), its.toArray[i]? = some v → ∃ k, ks[i]? = some k ∧ knd.is k v = true ∧ v.scannable = true := by
  intro ks its r i v h
  rw [List.getElem?_toArray] at h
  cases e : ks[i]? with
  | none =>
    have l := r.length
    rw [List.length_map] at l
    have h1 := List.getElem?_eq_none_iff.mp e
    have h2 := (List.getElem?_eq_some_iff.mp h).1
    omega
  | some k =>
    obtain ⟨u, h1, h2⟩ := Vals.get (i := i) (x := mk k) r (by rw [List.getElem?_map, e]; rfl)
    rw [h] at h1
    cases h1
    exact ⟨k, rfl, K.val k v h2⟩
theorem keys_vals {κ : Type} [DecidableEq κ] {P : Program} {w : World} {knd : KeyKind P w κ} {kf : Value → κ} {mk : κ → V} {enc : κ → PyData} (K : KN knd kf mk enc) : ∀ {out : List Value} {ks : List κ}, EachIs (fun v k => knd.is k v = true) out ks → Vals (ks.map mk) out
  | _, _, .nil => .nil
  | _, _, .cons h t => .cons (K.rel _ _ h) (keys_vals K t)
/-- the set made of what a list or tuple holds -/
theorem set_run {κ : Type} [DecidableEq κ] {knd : KeyKind X.prog X.w κ} {kf : Value → κ} {mk : κ → V} {enc : κ → PyData} (K : KN knd kf mk enc) {pins : List (Addr × Obj)} {s : Shared} {σ : St} {H : Hp} {a : Addr} {ks : List κ} {Q : Value → Shared → Prop} {E : Value → Shared → Prop} (I : Inv X pins σ H s) (hc : X.calm = true)
    (hq : SqL X.K H a (ks.map mk) ∨ SqT X.K H a (ks.map mk)) (hb : ks.length < 4000)
    (h : ∀ (h' : Heap) (tk m : Nat), SetG knd kf h' s.heap.objs.size (fun j => decide (j ∈ ks)) m → Inv X pins σ H { s with heap := h', toks := tk } → Q (.ref s.heap.objs.size) { s with heap := h', toks := tk }) :
    wpAny (model X.prog X.w) X.A (call (.type "set") [.ref a]) Q E s := by
  have hb : ks.length + 1 < scanBound := by unfold scanBound; omega
  rcases hq with hq | hq
  · obtain ⟨its, r, pl, hz⟩ := I.list hq
    have hl : its.toArray.size = ks.length := by rw [List.size_toArray, ← r.length, List.length_map]
    exact setG_list K.kF ks (I.ok.hd hc) pl.isList hl (vals_keys K r) hb fun h' tk m R k => h h' tk m R (I.kept k)
  · obtain ⟨its, r, pl, hz⟩ := I.tuple hq
    have hl : its.toArray.size = ks.length := by rw [List.size_toArray, ← r.length, List.length_map]
    exact setG_tuple K.kF ks (I.ok.hd hc) pl hl (vals_keys K r) hb fun h' tk m R k => h h' tk m R (I.kept k)
theorem len_run {κ : Type} [DecidableEq κ] {knd : KeyKind X.prog X.w κ} {kf : Value → κ} {pins : List (Addr × Obj)} {s : Shared} {σ : St} {H : Hp} {a : Addr} {ks : List κ} {m : Nat} {Q : VK} {E : Value → Shared → Prop} (I : Inv X pins σ H s) (R : SetG knd kf s.heap a (fun j => decide (j ∈ ks)) m)
    (h : Q (.int ((dedup ks).length : Int)) H) : wpAny (model X.prog X.w) X.A (call (.builtin "len") [.ref a]) (EP X pins σ Q) E s := by
  have e := R.perm
  obtain ⟨o, es, ep, t, ho, hex, hd, g, nd, hm, hb, hf, hn, hr, hl⟩ := R
  refine call_len_set ho hex hd hf (by unfold scanBound at hb; omega) ⟨.int ((dedup ks).length : Int), H, I.tok _, ⟨_, by rw [hn, e]⟩, h⟩
theorem sort_run {κ : Type} [DecidableEq κ] {knd : KeyKind X.prog X.w κ} {kf : Value → κ} {mk : κ → V} {enc : κ → PyData} (K : KN knd kf mk enc) {pins : List (Addr × Obj)} {s : Shared} {σ : St} {H : Hp} {a : Addr} {ks : List κ} {m : Nat} {Q : VK} {E : Value → Shared → Prop} (I : Inv X pins σ H s) (hc : X.calm = true) (hu : X.A.units + 64 < cLine) (R : SetG knd kf s.heap a (fun j => decide (j ∈ ks)) m)
    (h : ∀ p, H p = none → Q (.ref p) (upd H p (.lst (((dedup ks).mergeSort (dataLe false enc)).map mk)))) : wpAny (model X.prog X.w) X.A (call (.builtin "sorted") [.ref a]) (EP X pins σ Q) E s := by
  have hm := R.perm
  have hlen : ((dedup ks).mergeSort (dataLe false enc)).length ≤ sizeLine := by
    rw [List.length_mergeSort, ← hm, sizeLine_eq]
    obtain ⟨o, es, ep, t, ho, hex, hd, g, nd, hm, hb, hf, hn, hr, hl⟩ := R
    unfold scanBound at hb
    omega
  refine sorted_G K R (I.ok.hd hc) hu fun s' p out m k g o hp hg hE => ?_
  have hn : H p = none := I.hok.fresh hp
  have J : Inv X pins σ (upd H p (.lst (((dedup ks).mergeSort (dataLe false enc)).map mk))) { s with heap := s'.heap, gens := s'.gens, drawn := s'.drawn, toks := s'.toks } :=
    I.call (ch := []) (Un.laid k hp hn) (I.hok.laid k hp ⟨by rw [List.length_map]; exact hlen, out, m, keys_vals K hE, hg⟩) (by rw [g]; exact I.bare) (fun _ z => nomatch z)
  have e : s' = { s with heap := s'.heap, gens := s'.gens, drawn := s'.drawn, toks := s'.toks } := by
    cases s'
    cases s
    cases o
    rfl
  rw [e]
  exact ⟨.ref p, _, J, rfl, h p hn⟩
theorem strs_len : ∀ {ds : List D} {xs : List Str}, strsD ds = some xs → xs.length = ds.length
  | [], _, e => by cases e; rfl
  | d :: ds, _, e => by
    cases d <;> simp only [strsD] at e <;> first | (cases e; done) | skip
    obtain ⟨bs, e1, rfl⟩ := Option.map_eq_some_iff.mp e
    simp [strs_len e1]
theorem ints_len : ∀ {ds : List D} {xs : List Int}, intsD ds = some xs → xs.length = ds.length
  | [], _, e => by cases e; rfl
  | d :: ds, _, e => by
    cases d <;> simp only [intsD] at e <;> first | (cases e; done) | skip
    obtain ⟨bs, e1, rfl⟩ := Option.map_eq_some_iff.mp e
    simp [ints_len e1]
/-- what is in the list or tuple -/
theorem seq_of {H : Hp} {N0 N : Addr → Prop} {d : D} {v : V} {ds : List D} (K : PySem.W.Frag) (w : RepW c H N0 N d v) (hd : d = .lst ds ∨ d = .tup ds) : ∃ a vs, v = .ref a ∧ RepL c H N ds vs ∧ (SqL K H a vs ∨ SqT K H a vs) := by
  rcases hd with rfl | rfl
  · obtain ⟨a, vs, rfl, n, h1, q⟩ := w
    exact ⟨a, vs, rfl, q, .inl (.of h1)⟩
  · obtain ⟨a, vs, rfl, n, h1, q⟩ := w
    exact ⟨a, vs, rfl, q, .inr (.of h1)⟩
theorem repL_strs {H : Hp} {N : Addr → Prop} : ∀ {xs : List Str}, (∀ x ∈ xs, strFits x = true) → RepL c H N (xs.map D.str) (xs.map V.str)
  | [], _ => rfl
  | x :: xs, h => ⟨_, _, rfl, ⟨rfl, h x (List.mem_cons_self ..)⟩, repL_strs fun y hy => h y (List.mem_cons_of_mem _ hy)⟩
theorem repL_ints {H : Hp} {N : Addr → Prop} : ∀ {xs : List Int}, RepL c H N (xs.map D.int) (xs.map V.int)
  | [] => rfl
  | x :: xs => ⟨_, _, rfl, rfl, repL_ints⟩
theorem evBi_lenSet {d z : D} (e : evBi .lenSet d = some z) : ∃ ds, (d = .lst ds ∨ d = .tup ds) ∧ ds.length < 4000 ∧ ((∃ xs, strsD ds = some xs ∧ z = .int (dedup xs).length) ∨ ∃ is, intsD ds = some is ∧ z = .int (dedup is).length) := by
  have fin : ∀ ds, (lenSet ds).map (fun n => D.int n) = some z → ds.length < 4000 ∧ ((∃ xs, strsD ds = some xs ∧ z = .int (dedup xs).length) ∨ ∃ is, intsD ds = some is ∧ z = .int (dedup is).length) := by
    intro ds h
    unfold lenSet at h
    split at h
    · rename_i hl
      refine ⟨hl, ?_⟩
      cases e1 : strsD ds with
      | some xs => rw [e1] at h; cases h; exact .inl ⟨xs, rfl, rfl⟩
      | none =>
        rw [e1] at h
        cases e2 : intsD ds with
        | some is => rw [e2] at h; cases h; exact .inr ⟨is, rfl, rfl⟩
        | none => rw [e2] at h; cases h
    · cases h
  cases d <;> simp only [evBi] at e <;> first | (cases e; done) | skip
  · exact ⟨_, .inr rfl, fin _ e⟩
  · exact ⟨_, .inl rfl, fin _ e⟩
theorem evBi_sortSet {d z : D} (e : evBi .sortSet d = some z) : ∃ ds, (d = .lst ds ∨ d = .tup ds) ∧ ds.length < 4000 ∧ ((∃ xs, strsD ds = some xs ∧ z = .lst (((dedup xs).mergeSort leStr).map .str)) ∨ ∃ is, intsD ds = some is ∧ z = .lst (((dedup is).mergeSort leInt).map .int)) := by
  have fin : ∀ ds, (sortSet ds).map D.lst = some z → ds.length < 4000 ∧ ((∃ xs, strsD ds = some xs ∧ z = .lst (((dedup xs).mergeSort leStr).map .str)) ∨ ∃ is, intsD ds = some is ∧ z = .lst (((dedup is).mergeSort leInt).map .int)) := by
    intro ds h
    unfold sortSet at h
    split at h
    · rename_i hl
      refine ⟨hl, ?_⟩
      cases e1 : strsD ds with
      | some xs => rw [e1] at h; cases h; exact .inl ⟨xs, rfl, by rw [srt_eq]⟩
      | none =>
        rw [e1] at h
        cases e2 : intsD ds with
        | some is => rw [e2] at h; cases h; exact .inr ⟨is, rfl, by rw [srt_eq]⟩
        | none => rw [e2] at h; cases h
    · cases h
  cases d <;> simp only [evBi] at e <;> first | (cases e; done) | skip
  · exact ⟨_, .inr rfl, fin _ e⟩
  · exact ⟨_, .inl rfl, fin _ e⟩
/-- set, then len or sorted of it -/
theorem bi_set2 {b : Bi} (hb : b = .lenSet ∨ b = .sortSet) (hc : X.calm = true) (hu : X.A.units + 64 < cLine) {pins : List (Addr × Obj)} {s : Shared} {σ : St} {H : Hp} {x : V} {u : Value} {Q : VK} {E : Value → Shared → Prop} (I : Inv X pins σ H s) (r : RelV x u) (h : rBi c b [x] H Q) {F : Value → Shared → Prop}
    (hF : ∀ p s', wpAny (model X.prog X.w) X.A (call (biVal b) [.ref p]) (EP X pins σ Q) E s' → F (.ref p) s') : wpAny (model X.prog X.w) X.A (call (.type "set") [u]) F E s := by
  obtain ⟨N0, N, d, z, v, hv, w, e, g⟩ := h
  cases hv
  rcases hb with rfl | rfl
  · obtain ⟨ds, hd, hl, ⟨xs, h1, rfl⟩ | ⟨is, h1, rfl⟩⟩ := evBi_lenSet e
    · obtain ⟨a, vs, rfl, q, hq⟩ := seq_of X.K w hd
      cases r
      obtain ⟨rfl, _⟩ := strs_rep q h1
      exact set_run kn_str I hc hq (by rw [strs_len h1]; exact hl) fun h' tk m R I2 => hF _ _ (len_run I2 R (g.same rfl))
    · obtain ⟨a, vs, rfl, q, hq⟩ := seq_of X.K w hd
      cases r
      have := ints_rep q h1
      subst this
      exact set_run kn_int I hc hq (by rw [ints_len h1]; exact hl) fun h' tk m R I2 => hF _ _ (len_run I2 R (g.same rfl))
  · obtain ⟨ds, hd, hl, ⟨xs, h1, rfl⟩ | ⟨is, h1, rfl⟩⟩ := evBi_sortSet e
    · obtain ⟨a, vs, rfl, q, hq⟩ := seq_of X.K w hd
      cases r
      obtain ⟨rfl, hfit⟩ := strs_rep q h1
      refine set_run kn_str I hc hq (by rw [strs_len h1]; exact hl) fun h' tk m R I2 => hF _ _ (sort_run kn_str I2 hc hu R fun p hp => ?_)
      rw [leStr_eq]
      exact g.lst hp (repL_strs fun x hx => hfit x (mem_dedup.mp (List.mem_mergeSort.mp hx)))
    · obtain ⟨a, vs, rfl, q, hq⟩ := seq_of X.K w hd
      cases r
      have := ints_rep q h1
      subst this
      refine set_run kn_int I hc hq (by rw [ints_len h1]; exact hl) fun h' tk m R I2 => hF _ _ (sort_run kn_int I2 hc hu R fun p hp => ?_)
      rw [leInt_eq]
      exact g.lst hp repL_ints
theorem pe_lenSet2 {a : Expr} {ta : TE} {p p2 q pos : Pos} (hc : X.calm = true) (hu : X.A.units + 64 < cLine) (hg : Gl X "len") (hm : X.mg "len" = none) (hg2 : Gl X "set") (hm2 : X.mg "set" = none) (ha : PE X a ta)
    (na : starEach [a] X.env = (false, eval a X.env) :: starEach [] X.env) : PE X (.Call (.Name "len" p) [.Call (.Name "set" p2) [a] [] q] [] pos) (tCB (rBi c .lenSet) (tCons ta tNil)) := by
  refine ⟨fun pins s σ H Q I h => ?_⟩
  refine PyProof.Rows.Call_ (ld_blt I hg hm boot_len ?_)
  refine PyProof.Rows.callWith_builtin1 (PyProof.Rows.args_cons ?_ rfl) rfl rfl
  refine PyProof.Rows.Call_ (ld_blt I hg2 hm2 PyProof.Rows.boot_set ?_)
  refine PyProof.Rows.callWith_type1 (PyProof.Rows.args_cons (thn (ha.run pins s σ H _ I h) fun v s1 ⟨x, H1, I1, r1, q1⟩ => PyProof.Rows.args_nil ?_) na) na rfl
  exact bi_set2 (.inl rfl) hc hu I1 r1 q1 fun p s' h => PyProof.Rows.args_nil h
theorem pe_sortSet2 {a : Expr} {ta : TE} {p p2 q pos : Pos} (hc : X.calm = true) (hu : X.A.units + 64 < cLine) (hg : Gl X "sorted") (hm : X.mg "sorted" = none) (hg2 : Gl X "set") (hm2 : X.mg "set" = none) (ha : PE X a ta)
    (na : starEach [a] X.env = (false, eval a X.env) :: starEach [] X.env) : PE X (.Call (.Name "sorted" p) [.Call (.Name "set" p2) [a] [] q] [] pos) (tCB (rBi c .sortSet) (tCons ta tNil)) := by
  refine ⟨fun pins s σ H Q I h => ?_⟩
  refine PyProof.Rows.Call_ (ld_blt I hg hm PyProof.Rows.boot_sorted ?_)
  refine PyProof.Rows.callWith_builtin1 (PyProof.Rows.args_cons ?_ rfl) rfl rfl
  refine PyProof.Rows.Call_ (ld_blt I hg2 hm2 PyProof.Rows.boot_set ?_)
  refine PyProof.Rows.callWith_type1 (PyProof.Rows.args_cons (thn (ha.run pins s σ H _ I h) fun v s1 ⟨x, H1, I1, r1, q1⟩ => PyProof.Rows.args_nil ?_) na) na rfl
  exact bi_set2 (.inr rfl) hc hu I1 r1 q1 fun p s' h => PyProof.Rows.args_nil h
end
end Mi
namespace Mi
open PySem L2
section
variable {X : Cx} {c : Cc} {cf : Cfg} {k : Ck} {W : WX} {w : Bool} {x : Expr}
theorem nd_bi {q : Bi} {a : ME} (G : GX X c cf k W) (ha : Hyp X c cf k W a) (h : ckE k w (.bi q a) x = true) : Okf X c cf W w (.bi q a) x := by
  cases x <;> first | (cases h; done) | skip
  rename_i f es ks pos
  cases f <;> first | (cases h; done) | skip
  rename_i y p
  rcases es with _ | ⟨z, _ | ⟨_, _⟩⟩ <;> first | (cases h; done) | skip
  cases ks <;> first | (cases h; done) | skip
  by_cases hs : biSet q = true
  · have h : setCk (fun y' u => decide (y = biName q) && k.blt y && decide (y' = ("set" : Str)) && k.blt y' && ckE k true a u && !isStar u) z = true := by
      have h0 : (if biSet q then setCk (fun y' u => decide (y = biName q) && k.blt y && decide (y' = ("set" : Str)) && k.blt y' && ckE k true a u && !isStar u) z else biOk q && decide (y = biName q) && k.blt y && ckE k true a z && !isStar z) = true := h
      rw [if_pos hs] at h0
      exact h0
    rename_i hOld
    clear hOld
    cases z <;> first | (cases h; done) | skip
    rename_i f2 es2 ks2 pos2
    cases f2 <;> first | (cases h; done) | skip
    rename_i y2 p2
    rcases es2 with _ | ⟨u, _ | ⟨_, _⟩⟩ <;> first | (cases h; done) | skip
    cases ks2 <;> first | (cases h; done) | skip
    obtain ⟨h, h6⟩ := and2 (show (decide (y = biName q) && k.blt y && decide (y2 = ("set" : Str)) && k.blt y2 && ckE k true a u && !isStar u) = true from h)
    obtain ⟨h, h5⟩ := and2 h
    obtain ⟨h, h4⟩ := and2 h
    obtain ⟨h, h3⟩ := and2 h
    obtain ⟨h1, h2⟩ := and2 h
    have h1 := of_decide_eq_true h1
    have h3 := of_decide_eq_true h3
    subst h1
    subst h3
    obtain ⟨g1, _, m1⟩ := blt_of G h2
    obtain ⟨g2, _, m2⟩ := blt_of G h4
    have fin : PE X (.Call (.Name (biName q) p) [.Call (.Name "set" p2) [u] [] pos2] [] pos) (tCB (rBi c q) (tCons (rd c (pW c) W (evE cf a)) tNil)) := by
      cases q <;> first | (cases hs; done) | skip
      · exact pe_sortSet2 G.calm G.un g1 m1 g2 m2 (PE.v1 (ha _ _ h5).v) (star_ns (not1 h6))
      · exact pe_lenSet2 G.calm G.un g1 m1 g2 m2 (PE.v1 (ha _ _ h5).v) (star_ns (not1 h6))
    exact ⟨okT G (fun _ => rfl) (PE.imp fin fun σ H Q h => rd_bi (rd_VF h)) (fun _ => rfl), PE.imp fin fun σ H Q h => rd_bi h⟩
  have h : (biOk q && decide (y = biName q) && k.blt y && ckE k true a z && !isStar z) = true := by
    have h0 : (if biSet q then setCk (fun y' u => decide (y = biName q) && k.blt y && decide (y' = ("set" : Str)) && k.blt y' && ckE k true a u && !isStar u) z else biOk q && decide (y = biName q) && k.blt y && ckE k true a z && !isStar z) = true := h
    rw [if_neg hs] at h0
    exact h0
  obtain ⟨h, hst⟩ := and2 h
  obtain ⟨h, hz⟩ := and2 h
  obtain ⟨h, hb⟩ := and2 h
  obtain ⟨h, hn⟩ := and2 h
  have hst := not1 hst
  have hn := of_decide_eq_true hn
  subst hn
  obtain ⟨hg, _, hm⟩ := blt_of G hb
  have fin : PE X (.Call (.Name (biName q) p) [z] [] pos) (tCB (rBi c q) (tCons (rd c (pW c) W (evE cf a)) tNil)) := by
    cases q <;> first | (cases h; done) | skip
    · exact biN (.inl rfl) G ha bi_len hg hm hz hst (y := z) (r := z)
    · exact biT (.inl rfl) G ha bi_int hg hm hz hst (y := z) (r := z)
    · exact biN (.inr (.inl rfl)) G ha bi_abs hg hm hz hst (y := z) (r := z)
    · exact biN (.inr (.inr (.inl rfl))) G ha (bi_all G.calm) hg hm hz hst (y := z) (r := z)
    · exact biN (.inr (.inr (.inr (.inl rfl)))) G ha (bi_any G.calm) hg hm hz hst (y := z) (r := z)
    · exact biT (.inr (.inl rfl)) G ha bi_list hg hm hz hst (y := z) (r := z)
    · exact biT (.inr (.inr rfl)) G ha bi_tuple hg hm hz hst (y := z) (r := z)
    · exact biN (.inr (.inr (.inr (.inr (.inr rfl))))) G ha (bi_sort G.K G.un) hg hm hz hst (y := z) (r := z)
    · exact biN (.inr (.inr (.inr (.inr (.inl rfl))))) G ha (bi_sum G.calm) hg hm hz hst (y := z) (r := z)
  exact ⟨okT G (fun _ => rfl) (PE.imp fin fun σ H Q h => rd_bi (rd_VF h)) (fun _ => rfl), PE.imp fin fun σ H Q h => rd_bi h⟩
theorem boot_ty {t : Ty} {y : Str} (h : tyName t = some y) : ∃ z, tyStr t = some z ∧ bootBuiltins y = some (.type z) := by
  cases t <;> simp only [tyName] at h <;> first | (cases h; done) | skip
  · cases h; exact ⟨_, rfl, PyProof.Rows.boot_int⟩
  · cases h; exact ⟨_, rfl, by decide +kernel⟩
  · cases h; exact ⟨_, rfl, PyProof.Rows.boot_str⟩
  · cases h; exact ⟨_, rfl, PyProof.Rows.boot_list⟩
  · cases h; exact ⟨_, rfl, PyProof.Rows.boot_tuple⟩
  · cases h; exact ⟨_, rfl, by decide +kernel⟩
  · cases h; exact ⟨_, rfl, by decide +kernel⟩
  · cases h; exact ⟨_, rfl, by decide +kernel⟩
  · cases h; exact ⟨_, rfl, by decide +kernel⟩
  · cases h; exact ⟨_, rfl, by decide +kernel⟩
theorem own_of (G : GX X c cf k W) {j : Nat} {x : Str} (h : k.own j x = true) : x = excName j ∧ Gl X x ∧ plainName x = true ∧ excName j ∈ k.cls := by
  obtain ⟨h, h3⟩ := and2 (show (decide (x = excName j) && k.gl x && decide (x ∈ k.cls)) = true from h)
  obtain ⟨h1, h2⟩ := and2 h
  have h1 := of_decide_eq_true h1
  obtain ⟨g1, g2⟩ := gl_of G h2
  exact ⟨h1, g1, g2, by rw [← h1]; exact of_decide_eq_true h3⟩
theorem pe_ty (G : GX X c cf k W) {t : Ty} {e : Expr} (h : ckTy k t e = true) : ∃ cv u, TyIs X.mg k.cls t cv u ∧ PE X e (tC cv) ∧ isStar e = false := by
  cases e <;> first | (cases t <;> cases h; done) | skip
  rename_i y p
  by_cases ht : ∃ j, t = .exc j
  · obtain ⟨j, rfl⟩ := ht
    obtain ⟨h1, h2, h3, h4⟩ := own_of G (show k.own j y = true from h)
    obtain ⟨C, hC⟩ := G.own j h4
    exact ⟨.ref C, .ref C, .inr ⟨j, C, rfl, h4, hC, rfl, rfl⟩, pe_glob h2 (by rw [h1]; exact hC) rfl (plain_db h3), rfl⟩
  · have h : (match tyName t with | some z => decide (y = z) && k.blt y | none => false) = true := by
      cases t <;> first | exact h | exact absurd ⟨_, rfl⟩ ht
    cases e1 : tyName t with
    | none => rw [e1] at h; cases h
    | some z =>
      rw [e1] at h
      obtain ⟨h1, h2⟩ := and2 h
      have h1 := of_decide_eq_true h1
      subst h1
      obtain ⟨y', h3, h4⟩ := boot_ty e1
      obtain ⟨hg, hp, hm⟩ := blt_of G h2
      exact ⟨.ty y', .type y', .inl ⟨y', h3, rfl, rfl⟩, pe_bltn hg hm h4 rfl (plain_nm hp) (plain_db hp), rfl⟩
theorem pa_tys (G : GX X c cf k W) : ∀ {ts : List Ty} {es : List Expr}, ckTys k ts es = true → ∃ cs us, TysIs X.mg k.cls ts cs us ∧ PA X es (tVs cs) ∧ cs.length = es.length
  | [], [], _ => ⟨[], [], ⟨rfl, rfl⟩, pa_nil, rfl⟩
  | [], _ :: _, h => by cases h
  | _ :: _, [], h => by cases h
  | t :: ts, e :: es, h => by
    obtain ⟨h1, h2⟩ := and2 (show (ckTy k t e && ckTys k ts es) = true from h)
    obtain ⟨cv, u, h3, h4, h5⟩ := pe_ty G h1
    obtain ⟨cs, us, h6, h7, h8⟩ := pa_tys G h2
    exact ⟨cv :: cs, u :: us, ⟨cv, u, cs, us, rfl, rfl, h3, h6⟩, pa_cons h4 h7 (star_ns h5), by simp [h8]⟩
theorem pe_isi {r : List V → Hp → VK → Prop} (hc : CallR X (.builtin "isinstance") r) (hg : Gl X "isinstance") (hm : X.mg "isinstance" = none) {z u : Expr} {p pos : Pos} {t : TA} (ha : PA X [z, u] t) (h1 : isStar z = false) (h2 : isStar u = false) :
    PE X (.Call (.Name "isinstance" p) [z, u] [] pos) (tCB r t) :=
  pe_callB hc hg hm PyProof.Rows.boot_isinstance ha (by decide +kernel) (by decide +kernel) (star_ns h1) (by rw [star_ns h2]; rfl)
theorem nd_isi {a : ME} {o : Bool} {ts : List Ty} (G : GX X c cf k W) (ha : Hyp X c cf k W a) (h : ckE k w (.isi a o ts) x = true) : Okx X c cf W w (.isi a o ts) x := by
  cases x <;> first | (cases o <;> (rcases ts with _ | ⟨_, _ | ⟨_, _⟩⟩ <;> cases h); done) | skip
  rename_i f es ks pos
  cases f <;> first | (cases o <;> (rcases ts with _ | ⟨_, _ | ⟨_, _⟩⟩ <;> cases h); done) | skip
  rename_i y p
  rcases es with _ | ⟨z, _ | ⟨u, _ | ⟨u3, us⟩⟩⟩
  · cases o <;> (rcases ts with _ | ⟨_, _ | ⟨_, _⟩⟩ <;> cases h)
  · cases o <;> (rcases ts with _ | ⟨_, _ | ⟨_, _⟩⟩ <;> cases h)
  rotate_left
  · cases o <;> (rcases ts with _ | ⟨_, _ | ⟨_, _⟩⟩ <;> first | (cases h; done) | (cases u <;> cases h))
  rcases ks with _ | ⟨k1, ks⟩
  rotate_left
  · cases o <;> (rcases ts with _ | ⟨_, _ | ⟨_, _⟩⟩ <;> first | (cases h; done) | (cases u <;> cases h))
  cases o with
  | true =>
    rcases ts with _ | ⟨t, _ | ⟨_, _⟩⟩ <;> first | (cases h; done) | skip
    obtain ⟨h, ht⟩ := and2 (show (decide (y = ("isinstance" : Str)) && k.blt y && ckE k true a z && !isStar z && ckTy k t u) = true from h)
    obtain ⟨h, hst⟩ := and2 h
    obtain ⟨h, hz⟩ := and2 h
    obtain ⟨hn, hb⟩ := and2 h
    have hst := not1 hst
    have hn := of_decide_eq_true hn
    subst hn
    obtain ⟨hg, _, hm⟩ := blt_of G hb
    obtain ⟨cv, uv, h3, h4, h5⟩ := pe_ty G ht
    have hA : PA X [z, u] (tCons (rd c (pW c) W (evE cf a)) (tCons (tC cv) tNil)) := pa_cons (PE.v1 (ha _ _ hz).v) (pa_cons h4 pa_nil (star_ns h5)) (star_ns hst)
    exact okT G (fun _ => rfl) (PE.imp (pe_isi call_isiV hg hm hA hst h5) fun σ H Q h => by
      have h := rd_isi G h3 h
      rw [G.K] at h
      exact h) (fun _ => rfl)
  | false =>
    cases u <;> first | (rcases ts with _ | ⟨_, _ | ⟨_, _⟩⟩ <;> cases h; done) | skip
    rename_i us j tp
    have h : (decide (y = ("isinstance" : Str)) && k.blt y && ckE k true a z && !isStar z && ckTys k ts us && !ts.isEmpty && decide (us.length ≤ 100)) = true := by
      rcases ts with _ | ⟨_, _ | ⟨_, _⟩⟩ <;> exact h
    obtain ⟨h, hl⟩ := and2 h
    have hl := of_decide_eq_true hl
    obtain ⟨h, hne⟩ := and2 h
    obtain ⟨h, ht⟩ := and2 h
    obtain ⟨h, hst⟩ := and2 h
    obtain ⟨h, hz⟩ := and2 h
    obtain ⟨hn, hb⟩ := and2 h
    have hst := not1 hst
    have hn := of_decide_eq_true hn
    subst hn
    obtain ⟨hg, _, hm⟩ := blt_of G hb
    obtain ⟨ys, us', h3, h4, h5⟩ := pa_tys G ht
    have hts : ts ≠ [] := by
      rintro rfl
      cases hne
    have hl : ys.length ≤ sizeLine := by rw [h5, sizeLine_eq]; omega
    have hA : PA X [z, .Tuple us j tp] (tCons (rd c (pW c) W (evE cf a)) (tCons (tTup (tVs ys)) tNil)) := pa_cons (PE.v1 (ha _ _ hz).v) (pa_cons (pe_tup h4) pa_nil rfl) (star_ns hst)
    exact okT G (fun _ => rfl) (PE.imp (pe_isi call_isiTV hg hm hA hst rfl) fun σ H Q h => by
      have h := rd_isiT G hts h3 hl h
      rw [G.K] at h
      exact h) (fun _ => rfl)
theorem nd_attr {f : Str} {a : ME} (G : GX X c cf k W) (ha : Hyp X c cf k W a) (h : ckE k w (.attr f a) x = true) : Okx X c cf W w (.attr f a) x := by
  cases x <;> first | (cases h; done) | skip
  rename_i e g p
  obtain ⟨h, h3⟩ := and2 (show (decide (f = g) && ckE k true a e && attrBase e) = true from h)
  obtain ⟨h1, h2⟩ := and2 h
  have h1 := of_decide_eq_true h1
  subst h1
  have hb : attributeBase e f X.env (PySem.eval e X.env) = PySem.eval e X.env := by
    clear h2 h
    cases e <;> first | rfl | cases h3
  exact okT G (fun _ => rfl) (PE.imp (pe_attr (PE.v1 (ha _ _ h2).v) hb) fun σ H Q h => by
    have h := rd_attr G h
    rw [G.K] at h
    exact h) (fun _ => rfl)
theorem evMk {j : Nat} {e : ME} {s : Env} : evE cf (.mk j (.cons false e .nil)) s = (evE cf e s).bd fun d => M.ofO (mkExc j [d]) := by
  show (((evP cf e s).1.bd fun x => (M.ret []).bd fun xs => M.ret (x :: xs)).bd fun ds => M.ofO (mkExc j ds)) = ((evP cf e s).1.bd fun d => M.ofO (mkExc j [d]))
  funext b
  unfold M.bd
  cases (evP cf e s).1 b <;> rfl
theorem inv_mk {j : Nat} {es : MEs} (h : ckE k w (.mk j es) x = true) : ∃ e y z p pos, es = .cons false e .nil ∧ x = .Call (.Name y p) [z] [] pos ∧ (k.own j y && (excFld j).isSome && ckE k false e z && !isStar z) = true := by
  cases es with
  | nil => cases x <;> cases h
  | cons st e r =>
    cases st with
    | true => cases x <;> cases h
    | false =>
      cases r with
      | cons _ _ _ => cases x <;> cases h
      | nil =>
        cases x <;> first | (cases h; done) | skip
        rename_i g xs kws pos
        cases g <;> first | (cases h; done) | skip
        rename_i y p
        rcases xs with _ | ⟨z, _ | ⟨_, _⟩⟩ <;> first | (cases h; done) | skip
        cases kws <;> first | (cases h; done) | skip
        exact ⟨e, y, z, p, pos, rfl, rfl, h⟩
theorem nd_mk {j : Nat} {es : MEs} (G : GX X c cf k W) (hs : ∀ e, es = .cons false e .nil → Hyp X c cf k W e) (h : ckE k w (.mk j es) x = true) : Okx X c cf W w (.mk j es) x := by
  obtain ⟨e, y, z, p, pos, rfl, rfl, h⟩ := inv_mk h
  obtain ⟨h, h4⟩ := and2 h
  obtain ⟨h, h3⟩ := and2 h
  obtain ⟨h1, h2⟩ := and2 h
  obtain ⟨n1, n2, n3, n4⟩ := own_of G h1
  obtain ⟨f, hf⟩ := Option.isSome_iff_exists.mp h2
  obtain ⟨C, fI, B, newId, initId, bmB, y2, x2, fd, T, hC, hev⟩ := G.mks j f n4 hf
  exact okT G (fun _ => rfl) (PE.imp (pe_mk T G.dp n2 (by rw [n1]; exact hC) (pa_cons (PE.v0 (hs e rfl false z h3).v) pa_nil (star_ns (not1 h4))) (plain_db n3) (star_ns (not1 h4))) fun σ H Q h => rd_mk G hf hev (fun s => evMk) h) (fun _ => rfl)
end
end Mi
namespace Mi
open PySem L2
theorem stars_none {pos : Pos} {env : PySem.Env} : ∀ {es : List Expr}, (es.all fun e => !isStar e) = true → (backTo pos (starEach es env)).any (·.1) = false
  | [], _ => rfl
  | e :: es, h => by
    rw [List.all_cons] at h
    obtain ⟨h1, h2⟩ := and2 h
    rw [star_ns (not1 h1)]
    show (false || (backTo pos (starEach es env)).any (·.1)) = false
    rw [stars_none h2]
    rfl
section
variable {X : Cx} {c : Cc} {cf : Cfg} {k : Ck} {W : WX} {w : Bool} {x : Expr}
open PySem.Spec PyProof.Rows in
theorem pe_callS0 {CX : CXT} {lv : Nat} {f : Addr} {fd : FuncData} {ps : List Str} {sp : Sp} {E : L2.St → XK} {x : Str} {p pos : Pos} (F : FnOk X.prog X.w X.K X.mg X.base CX lv f fd ps sp) (hr : Room lv X.A) (hg : Gl X x) (hm : X.mg x = some (.ref f)) (hk : PySem.W.keepIn X.K (.ref f) = true) (hb : Binds X.K fd ps []) (hx : ∀ σ, PassesAt CX X σ (E σ))
    (hdb : (x == ("__debug__" : Str)) = false) : PE X (.Call (.Name x p) [] [] pos) (tCallS sp E tNil) := by
  refine ⟨fun pins s σ H Q I h => ?_⟩
  refine wpAny_Call_Name_kw (ld_glob I hg hm ?_ hdb)
  exact PySem.W.callWith_K0 I.kIn hk (run_fnS (us := []) F hr hb (hx σ) I .nil h)
/-- a call of a def, whatever is handed over -/
theorem pe_fn (G : GX X c cf k W) {f : Nat} {es : List Expr} {y : Str} {p pos : Pos} {t : TA} (hg : k.gl y = true) (hn : (k.P.fs[f]?).map (·.name) = some y) (ha : PA X es t) (h0 : es = [] → ∀ σ H Q, t σ H Q → tNil σ H Q) (hs : (es.all fun e => !isStar e) = true) :
    ∃ n, (∀ ds b, ds.length ≠ n → cf.cl f ds b = .no) ∧ PE X (.Call (.Name y p) es [] pos) (tCallS (spF c cf.cl f n) (WE W) t) := by
  obtain ⟨lv, a, fd, ps, e1, e2, e3, _, e4, e5, e6⟩ := G.fns f y hn
  obtain ⟨h1, h2⟩ := gl_of G hg
  refine ⟨ps.length, e6, ?_⟩
  cases es with
  | nil => exact PE.imp (pe_callS0 e5 e4 h1 e1 e2 e3 (passAt G.tk) (plain_db h2)) fun σ H Q h => h0 rfl _ _ _ h
  | cons e es =>
    rw [List.all_cons] at hs
    obtain ⟨s1, s2⟩ := and2 hs
    exact pe_callS e5 e4 h1 e1 e2 e3 (passAt G.tk) ha (plain_db h2) (star_ns (not1 s1)) (stars_none s2)
theorem nd_call {f : Nat} {es : MEs} (G : GX X c cf k W) (hs : ∀ xs, ckEs k es xs = true → PA X xs (rd c (pL c) W (evEs cf es))) (h : ckE k w (.call f es) x = true) : Okx X c cf W w (.call f es) x := by
  cases x <;> first | (cases h; done) | skip
  rename_i g xs ks pos
  cases g <;> first | (cases h; done) | skip
  rename_i y p
  cases ks <;> first | (cases h; done) | skip
  obtain ⟨h, h4⟩ := and2 (show (k.gl y && decide ((k.P.fs[f]?).map (·.name) = some y) && ckEs k es xs && xs.all (fun e => !isStar e)) = true from h)
  obtain ⟨h, h3⟩ := and2 h
  obtain ⟨h1, h2⟩ := and2 h
  obtain ⟨n, h5, h6⟩ := pe_fn G (t := rd c (pL c) W (evEs cf es)) (pos := pos) (p := p) h1 (of_decide_eq_true h2) (hs _ h3) (fun e => by
    subst e
    cases es with
    | nil => exact fun σ H Q h => rd_nil h
    | cons st _ _ => cases st <;> cases h3) h4
  exact okT G (fun _ => rfl) (PE.imp h6 fun σ H Q h => rd_call h5 h) (fun _ => rfl)
theorem nd_lend {f : Nat} {es : MEs} (G : GX X c cf k W) (hs : ∀ xs, ckWs k es xs = true → PA X xs (rd c (pL0 c) W (evEs cf es))) (h : ckE k w (.lend f es) x = true) : Okx X c cf W w (.lend f es) x := by
  cases x <;> first | (cases h; done) | skip
  rename_i g xs ks pos
  cases g <;> first | (cases h; done) | skip
  rename_i y p
  cases ks <;> first | (cases h; done) | skip
  obtain ⟨h, h4⟩ := and2 (show (k.gl y && decide ((k.P.fs[f]?).map (·.name) = some y) && ckWs k es xs && xs.all (fun e => !isStar e)) = true from h)
  obtain ⟨h, h3⟩ := and2 h
  obtain ⟨h1, h2⟩ := and2 h
  obtain ⟨n, h5, h6⟩ := pe_fn G (t := rd c (pL0 c) W (evEs cf es)) (pos := pos) (p := p) h1 (of_decide_eq_true h2) (hs _ h3) (fun e => by
    subst e
    cases es with
    | nil => exact fun σ H Q h => rd_nil0 h
    | cons st _ _ => cases st <;> cases h3) h4
  exact okT G (fun _ => rfl) (PE.imp h6 fun σ H Q h => rd_lend h5 h) (fun _ => rfl)
theorem nd_boxed {f : Nat} {e : ME} (G : GX X c cf k W) (hs : ∀ g es, e = .call g es → ∀ xs, ckEs k es xs = true → PA X xs (rd c (pL c) W (evEs cf es))) (h : ckE k w (.boxed f e) x = true) : Okx X c cf W w (.boxed f e) x := by
  have inv : ∃ g es y p1 z p2 xs p3 p4, e = .call g es ∧ x = .Call (.Name y p1) [.Call (.Name z p2) xs [] p3] [] p4 := by
    revert h
    unfold ckE
    split <;> first | (intro _; exact ⟨_, _, _, _, _, _, _, _, _, rfl, rfl⟩) | (intro h; simp_all)
  obtain ⟨g, es, y, p1, z, p2, xs, p3, p4, rfl, rfl⟩ := inv
  obtain ⟨h, h8⟩ := and2 (show (k.gl y && decide ((k.P.fs[f]?).map (·.name) = some y) && k.gl z && decide ((k.P.fs[g]?).map (·.name) = some z) && decide ((k.P.fs[g]?).map (·.fresh) = some true) && ckEs k es xs && xs.all (fun e => !isStar e) && !xs.isEmpty) = true from h)
  obtain ⟨h, h7⟩ := and2 h
  obtain ⟨h, h6⟩ := and2 h
  obtain ⟨h, h5⟩ := and2 h
  obtain ⟨h, h4⟩ := and2 h
  obtain ⟨h, h3⟩ := and2 h
  obtain ⟨h1, h2⟩ := and2 h
  have hfr : c.frs g = true := by
    have h5 := of_decide_eq_true h5
    cases e : k.P.fs[g]? with
    | none => rw [e] at h5; cases h5
    | some fd =>
      rw [e] at h5
      rw [G.frs g fd e]
      exact Option.some.inj h5
  obtain ⟨n, hn, hp⟩ := pe_fn G (t := rd c (pL c) W (evEs cf es)) (pos := p3) (p := p2) h3 (of_decide_eq_true h4) (hs g es rfl _ h6) (fun e => by
    subst e
    cases h8) h7
  have hp1 : PE X (.Call (.Name z p2) xs [] p3) (rd c (pF c) W (evE cf (.call g es))) := PE.imp hp fun σ H Q h => rd_callF hfr hn h
  obtain ⟨n2, hn2, hp2⟩ := pe_fn G (t := tCons (rd c (pF c) W (evE cf (.call g es))) tNil) (pos := p4) (p := p1) h1 (of_decide_eq_true h2) (pa_cons hp1 pa_nil rfl) (fun e => by cases e) rfl
  exact okT G (fun _ => rfl) (PE.imp hp2 fun σ H Q h => rd_boxed hn2 (rd_VE h)) (fun _ => rfl)
theorem PK.imp {X : Cx} {kws : List Keyword} {t t' : TA} (h : PK X kws t) (i : ∀ σ H Q, t' σ H Q → t σ H Q) : PK X kws t' := ⟨fun pos pins s σ H Q I q => h.run pos pins s σ H Q I (i σ H Q q)⟩
open PySem.Spec PyProof.Rows in
theorem run_kw {CX : CXT} {lv : Nat} {f : Addr} {fd : FuncData} {ps ks : List Str} {sp : Sp} {E : L2.St → XK} {pins : List (Addr × Obj)} {σ : L2.St} {H : Hp} {s : Shared} {Q : VK} {us ws zs : List Value} {vs : List V} (F : FnOk X.prog X.w X.K X.mg X.base CX lv f fd ps sp) (hr : Room lv X.A)
    (hb : bindArgs fd ⟨us, ks.zip ws⟩ = pure (ps.zip zs)) (hx : PassesAt CX X σ (E σ)) (I : Inv X pins σ H s) (r : Vals vs zs) (h : sp vs H Q (E σ)) :
    wpAny (model X.prog X.w) X.A (call (.ref f) us (ks.zip ws)) (EP X pins σ Q) X.xe s := by
  refine wpAny_call (codeAny_mono (F.run X.A X.stack s H ⟨us, ks.zip ws⟩ zs vs Q (E σ) hr I.env0 (.of_eq hb) r h) fun q s' hq => ?_)
  cases q with
  | error e => exact hx pins H s e s' I hq
  | ok fl => cases fl <;> first | exact I.after hq | exact False.elim hq
def tCallN (sp : Sp) (E : L2.St → XK) (np nk : Nat) (order : List Nat) (t tk : TA) : TE := fun σ H Q => t σ H fun vs H1 => vs.length = np ∧ tk σ H1 fun zs H2 => zs.length = nk ∧ sp (permD order (vs ++ zs)) H2 Q (E σ)
theorem backKw_all {pos : Pos} {env : PySem.Env} {k : Ck} : ∀ {es : MEs} {kws : List Keyword}, ckKs k es kws = true → (backToKw pos (keywordEach kws env)).all (·.1.isSome) = true ∧ (backToKw pos (keywordEach kws env)).filterMap (·.1) = kwN kws ∧ (backToKw pos (keywordEach kws env)).any (·.1.isNone) = false ∧ (kwN kws).length = kws.length
  | es, [], h => ⟨rfl, rfl, rfl, rfl⟩
  | es, ⟨a, x, p⟩ :: kws, h => by
    cases es with
    | nil => cases h
    | cons st e r =>
      cases st with
      | true => cases h
      | false =>
        cases a with
        | none => cases h
        | some a =>
          obtain ⟨_, h2⟩ := and2 (show (ckE k false e x && ckKs k r kws) = true from h)
          obtain ⟨i1, i2, i3, i4⟩ := backKw_all (pos := pos) (env := env) h2
          refine ⟨?_, ?_, ?_, ?_⟩
          · show (true && (backToKw pos (keywordEach kws env)).all (·.1.isSome)) = true
            rw [i1]; rfl
          · show a :: (backToKw pos (keywordEach kws env)).filterMap (·.1) = a :: kwN kws
            rw [i2]
          · show (false || (backToKw pos (keywordEach kws env)).any (·.1.isNone)) = false
            rw [i3]; rfl
          · show (a :: kwN kws).length = _
            rw [List.length_cons, List.length_cons, i4]
theorem vals_perm {vs : List V} {us : List Value} (r : Vals vs us) : ∀ order : List Nat, Vals (permD order vs) (permD order us)
  | [] => .nil
  | i :: order => by
    unfold permD
    rw [List.filterMap_cons, List.filterMap_cons]
    have hl := r.length
    cases e : vs[i]? with
    | none =>
      have e2 : us[i]? = none := by rw [List.getElem?_eq_none_iff] at *; omega
      rw [e2]
      exact vals_perm r order
    | some v =>
      obtain ⟨u, e2, q⟩ := r.get e
      rw [e2]
      exact .cons q (vals_perm r order)
open PySem.Spec PyProof.Rows in
theorem pe_kw {CX : CXT} {lv : Nat} {f : Addr} {fd : FuncData} {ps : List Str} {sp : Sp} {E : L2.St → XK} {y : Str} {p pos : Pos} {xs : List Expr} {kws : List Keyword} {es2 : MEs} {t tk : TA} (F : FnOk X.prog X.w X.K X.mg X.base CX lv f fd ps sp) (hr : Room lv X.A) (hg : Gl X y) (hm : X.mg y = some (.ref f)) (hk : PySem.W.keepIn X.K (.ref f) = true)
    (hb : KwOk fd ps) (hx : ∀ σ, PassesAt CX X σ (E σ)) (hdb : (y == ("__debug__" : Str)) = false) (ha : PA X xs t) (h0 : xs = [] → ∀ σ H Q, t σ H Q → tNil σ H Q) (hs : (xs.all fun e => !isStar e) = true) (hkw : PK X kws tk) (hc : ckKs k es2 kws = true) (hn : kwNames ps xs.length (kwN kws) = true) :
    PE X (.Call (.Name y p) xs kws pos) (tCallN sp E xs.length kws.length (orderOf ps xs.length (kwN kws)) t tk) := by
  obtain ⟨b1, b2, b3, b4⟩ := backKw_all (pos := pos) (env := X.env) hc
  refine ⟨fun pins s σ H Q I h => ?_⟩
  refine wpAny_Call_Name_kw (ld_glob I hg hm ?_ hdb)
  cases xs with
  | nil =>
    obtain ⟨_, h⟩ := h0 rfl _ _ _ h
    refine PySem.W.callWith_KW0 (h₀ := X.base) I.ok.mod.kin hk b1 (thn (hkw.run pos pins s σ H _ I h) fun ws s2 ⟨zs, H2, I2, rz, hl, q2⟩ => ⟨I2.kIn, ?_⟩) (by rw [b3]; rfl)
    rw [b2]
    exact run_kw F hr (hb 0 (kwN kws) [] ws hn rfl (by rw [b4, ← hl, rz.length])) (hx σ) I2 (vals_perm rz _) q2
  | cons e es =>
    rw [List.all_cons] at hs
    obtain ⟨s1, s2⟩ := and2 hs
    refine PySem.W.callWith_KW (h₀ := X.base) I.ok.mod.kin hk b1 (thn (ha.run pos pins s σ H _ I h) fun us s1 ⟨vs, H1, I1, r, hv, q⟩ => ?_) (by
      rw [star_ns (not1 s1), b3]
      show ((false || (backTo pos (starEach es X.env)).any (·.1)) || false) = false
      rw [stars_none s2]
      rfl) (star_ns (not1 s1))
    refine thn (hkw.run pos pins s1 σ H1 _ I1 q) fun ws s2 ⟨zs, H2, I2, rz, hl, q2⟩ => ⟨I2.kIn, ?_⟩
    rw [b2]
    exact run_kw F hr (hb _ (kwN kws) us ws hn (by rw [← r.length]; exact hv) (by rw [b4, ← hl, rz.length])) (hx σ) I2 (vals_perm (r.append rz) _) q2
theorem evEs_len {k : Ck} : ∀ {es : MEs} {xs : List Expr}, ckEs k es xs = true → (xs.all fun e => !isStar e) = true → ∀ s b ds b', evEs cf es s b = .ok ds b' → ds.length = xs.length
  | .nil, xs, h, _, s, b, ds, b', e => by
    cases xs with
    | nil => cases e; rfl
    | cons _ _ => cases h
  | .cons st e r, xs, h, hs, s, b, ds, b', e0 => by
    cases xs with
    | nil => cases st <;> cases h
    | cons x xs =>
      rw [List.all_cons] at hs
      obtain ⟨s1, s2⟩ := and2 hs
      cases st with
      | true => cases x <;> first | (cases h; done) | cases s1
      | false =>
        obtain ⟨_, h3⟩ := and2 (show (!isStar x && ckE k false e x && ckEs k r xs) = true from h)
        obtain ⟨d, b1, _, e0⟩ := bd_ok (show ((evE cf e s).bd fun x => (evEs cf r s).bd fun xs => M.ret (x :: xs)) b = .ok ds b' from e0)
        obtain ⟨d2, b2, e2, e0⟩ := bd_ok e0
        cases e0
        rw [List.length_cons, List.length_cons, evEs_len h3 s2 s _ _ _ e2]
theorem evKs_len {k : Ck} : ∀ {es : MEs} {kws : List Keyword}, ckKs k es kws = true → ∀ s b ds b', evEs cf es s b = .ok ds b' → ds.length = kws.length
  | .nil, kws, h, s, b, ds, b', e => by
    cases kws with
    | nil => cases e; rfl
    | cons _ _ => cases h
  | .cons st e r, kws, h, s, b, ds, b', e0 => by
    cases kws with
    | nil => cases st <;> cases h
    | cons x kws =>
      obtain ⟨a, x, p⟩ := x
      cases st <;> cases a <;> first | (cases h; done) | skip
      obtain ⟨_, h3⟩ := and2 (show (ckE k false e x && ckKs k r kws) = true from h)
      obtain ⟨d, b1, _, e0⟩ := bd_ok (show ((evE cf e s).bd fun x => (evEs cf r s).bd fun xs => M.ret (x :: xs)) b = .ok ds b' from e0)
      obtain ⟨d2, b2, e2, e0⟩ := bd_ok e0
      cases e0
      rw [List.length_cons, List.length_cons, evKs_len h3 s _ _ _ e2]
theorem Out.andE {α γ : Type} {Rp : Hp → α → γ → Prop} {σ : L2.St} {H : Hp} {Q : γ → Hp → Prop} {r : Res α} {P : α → Prop} (h : Out c Rp σ H W Q r) (hp : ∀ x b, r = .ok x b → P x) : Out c (fun H x v => Rp H x v ∧ P x) σ H W Q r := h.rp fun _ _ _ _ q => q.1
theorem RepL.perm {H : Hp} {N : Addr → Prop} {ds : List D} {vs : List V} (r : RepL c H N ds vs) : ∀ order : List Nat, RepL c H N (permD order ds) (permD order vs)
  | [] => rfl
  | i :: order => by
    unfold permD
    rw [List.filterMap_cons, List.filterMap_cons]
    have hl := r.length
    cases e : ds[i]? with
    | none =>
      have e2 : vs[i]? = none := by rw [List.getElem?_eq_none_iff] at *; omega
      rw [e2]
      exact RepL.perm r order
    | some v =>
      obtain ⟨u, e2, q⟩ := r.get e
      rw [e2]
      exact ⟨_, _, rfl, q, RepL.perm r order⟩
theorem rd_callK {w : Bool} {f n np nk : Nat} {es es2 : MEs} {ks : List Nat} {σ : L2.St} {H : Hp} {Q : VK} (hn : ∀ ds b, ds.length ≠ n → cf.cl f ds b = .no) (l1 : ∀ s b ds b', evEs cf es s b = .ok ds b' → ds.length = np) (l2 : ∀ s b ds b', evEs cf es2 s b = .ok ds b' → ds.length = nk)
    (h : rd c (pV c w) W (evE cf (.callK f es es2 ks)) σ H Q) : tCallN (spF c cf.cl f n) (WE W) np nk ks (rd c (pL c) W (evEs cf es)) (rd c (pL c) W (evEs cf es2)) σ H Q := by
  obtain ⟨N0, s, b, R, B, h⟩ := rd_VE h
  refine ⟨N0, s, b, R, B, ?_⟩
  have h : Out c (fun H' => pE c H H' N0 (Nof N0 σ s)) σ H W Q (((evEs cf es s).bd fun ds => (evEs cf es2 s).bd fun d2 => cf.cl f (permD ks (ds ++ d2))) b) := h
  unfold M.bd at h
  cases e1 : evEs cf es s b with
  | no => rw [e1] at h; exact h
  | ex k as b1 => rw [e1] at h; exact h
  | ok ds b1 =>
    rw [e1] at h
    intro vs H1 k1 B1 r1
    refine ⟨by rw [← r1.length]; exact l1 _ _ _ _ e1, N0, s, b1, R.keep k1, B1, ?_⟩
    simp only at h
    cases e2 : evEs cf es2 s b1 with
    | no => rw [e2] at h; exact h
    | ex k as b2 =>
      rw [e2] at h
      exact Out.later (r := .ex k as b2) h k1
    | ok d2 b2 =>
      rw [e2] at h
      intro zs H2 k2 B2 r2
      have R2 := (R.keep k1).keep k2
      refine ⟨by rw [← r2.length]; exact l2 _ _ _ _ e2, ?_⟩
      refine sp_at hn (RepL.perm ((r1.keep k2 R.betN).append (r2.sub fun a z => z)) ks) (fun a => R2.domN) R2.betN B2 (Out.chg (Out.later h (k1.trans k2)) fun _ _ _ z => z)
theorem nd_callK {f : Nat} {es es2 : MEs} {ks : List Nat} (G : GX X c cf k W) (hs : ∀ xs, ckEs k es xs = true → PA X xs (rd c (pL c) W (evEs cf es))) (hks : ∀ kws, ckKs k es2 kws = true → PK X kws (rd c (pL c) W (evEs cf es2))) (h : ckE k w (.callK f es es2 ks) x = true) : Okx X c cf W w (.callK f es es2 ks) x := by
  cases x <;> first | (cases h; done) | skip
  rename_i g xs kws pos
  cases g <;> first | (cases h; done) | skip
  rename_i y p
  obtain ⟨h, h7⟩ := and2 (show (k.gl y && decide ((k.P.fs[f]?).map (·.name) = some y) && ckEs k es xs && xs.all (fun e => !isStar e) && ckKs k es2 kws && !kws.isEmpty && (match k.P.fs[f]? with | some fd => kwNames fd.ps xs.length (kwN kws) && decide (ks = orderOf fd.ps xs.length (kwN kws)) | none => false)) = true from h)
  obtain ⟨h, h6⟩ := and2 h
  obtain ⟨h, h5⟩ := and2 h
  obtain ⟨h, h4⟩ := and2 h
  obtain ⟨h, h3⟩ := and2 h
  obtain ⟨h1, h2⟩ := and2 h
  obtain ⟨lv, a, fd, ps, e1, e2, e3, ⟨ek, ep⟩, e4, e5, e6⟩ := G.fns f y (of_decide_eq_true h2)
  obtain ⟨g1, g2⟩ := gl_of G h1
  cases ef : k.P.fs[f]? with
  | none => rw [ef] at h7; cases h7
  | some fd0 =>
    rw [ef] at h7 ep
    have ep : fd0.ps = ps := Option.some.inj ep
    obtain ⟨n1, n2⟩ := and2 h7
    have n2 := of_decide_eq_true n2
    rw [ep] at n1 n2
    subst n2
    have p0 := pe_kw (k := k) (pos := pos) (p := p) e5 e4 g1 e1 e2 ek (passAt G.tk) (plain_db g2) (hs _ h3) (fun e => by
      subst e
      cases es with
      | nil => exact fun σ H Q h => rd_nil h
      | cons st _ _ => cases st <;> cases h3) h4 (hks _ h5) h5 n1
    exact okT G (fun _ => rfl) (PE.imp p0 fun σ H Q h => rd_callK e6 (evEs_len h3 h4) (evKs_len h5) h) (fun _ => rfl)
theorem assign_ns {e : Expr} {es : List Expr} {env : PySem.Env} (h : isStar e = false) : assignEach (e :: es) env = (false, assign e env) :: assignEach es env := by
  cases e <;> first | rfl | cases h
mutual
theorem sT (G : GX X c cf k W) : ∀ (t : MT) (e : Expr), ckT k t e = true → PG X e (rdG c t)
  | .slot i, e, h => by
    cases e <;> first | (cases h; done) | skip
    rename_i y p
    obtain ⟨h1, h2⟩ := and2 (show (decide (k.N[i]? = some y) && k.loc y) = true from h)
    have h1 := of_decide_eq_true h1
    have hl : L2.Loc X.env.scope y ∧ (X.fn y = true ∨ X.env.scope.names.lookup y = some .local) := by
      unfold Ck.loc at h2
      unfold L2.Loc
      rw [G.sc]
      split at h2
      · rename_i e; exact ⟨.inl e, .inr e⟩
      · rename_i e; exact ⟨.inr e, .inl (G.fn y h2)⟩
      · cases h2
    have g := pg_name (X := X) (pos := p) G.nd (by rw [G.N]; exact h1) hl.1 hl.2
    exact ⟨fun pins s σ H v u Q I r h => g.run pins s σ H v u Q I r (rdG_slot h)⟩
  | .tup ts, e, h => by
    cases e <;> first | (cases h; done) | skip
    rename_i es j p
    obtain ⟨g, hn, hst⟩ := sTs G ts es h
    have g2 := pg_tup (k := j) (pos := p) G.calm g hn hst
    refine ⟨fun pins s σ H v u Q I r h => g2.run pins s σ H v u Q I r ?_⟩
    exact rdG_tup h
theorem sTs (G : GX X c cf k W) : ∀ (ts : MTs) (es : List Expr), ckTs k ts es = true → PGs X es (rdGs c ts) ∧ (assignEach es X.env).length = mtLen ts ∧ (assignEach es X.env).findIdx? (·.1) = none
  | .nil, [], _ => ⟨⟨fun pins s σ H vs us Q I r h => pgs_nil.run pins s σ H vs us Q I r (rdGs_nil h)⟩, rfl, rfl⟩
  | .nil, _ :: _, h => by cases h
  | .cons _ _, [], h => by cases h
  | .cons t ts, e :: es, h => by
    obtain ⟨h, h3⟩ := and2 (show (!isStar e && ckT k t e && ckTs k ts es) = true from h)
    obtain ⟨h1, h2⟩ := and2 h
    have g1 := sT G t e h2
    obtain ⟨g2, hn, hst⟩ := sTs G ts es h3
    have ea := assign_ns (env := X.env) (es := es) (not1 h1)
    refine ⟨?_, ?_, ?_⟩
    · have g := pgs_cons g1 g2 (by rw [ea]; rfl)
      exact ⟨fun pins s σ H vs us Q I r h => g.run pins s σ H vs us Q I r (rdGs_cons h)⟩
    · rw [ea, List.length_cons, hn]; rfl
    · rw [ea, List.findIdx?_cons]
      simp [hst]
end
theorem gx_blk (G : GX X c cf k W) (s : Shared) (H : Hp) (scope : Scope) (cl : List (Str × Addr)) (C : Addr) (fp : List Addr) : GX (X.blk s H scope (compEnvC scope cl C X.env) fp) c cf (k.inner scope) W0 where
  N := G.N
  K := G.K
  nd := G.nd
  sc := by
    show relS scope X.env.scope = relS scope k.sc
    rw [G.sc]
  fn := fun x h => by
    have h : decide (scope.names.lookup x = some .cell) = true := h
    show (scope.names.lookup x == some .cell) = true
    rw [of_decide_eq_true h]
    rfl
  calm := G.calm
  un := G.un
  tk := takes0
  ns := G.ns
  free := G.free
  gs := G.gs
  evs := G.evs
  att := G.att
  own := G.own
  dp := G.dp
  mks := fun j f h1 h2 => by
    obtain ⟨C, fI, B, newId, initId, bmB, y, x, fd, T, h⟩ := G.mks j f h1 h2
    exact ⟨C, fI, B, newId, initId, bmB, y, x, fd, ⟨T.ex, T.ini, T.iC, T.tI, T.na, T.kC, T.sup⟩, h⟩
  frs := G.frs
  fns := G.fns
theorem folded {e : Expr} {env : PySem.Env} (h : isSetE e = false) : ∀ x, foldedSetIterable e env x = pure x := by
  intro x
  cases e <;> first | rfl | cases h
abbrev HypS (X : Cx) (c : Cc) (cf : Cfg) (k : Ck) (W : WX) (w : Bool) (r : MSrc) : Prop := ∀ it tg, ckSrc k w r it tg = true → PI X tg it (rd c (pS c w) W (evSrc cf r))
theorem nd_comp {e : ME} {t : MT} {r : MSrc} {ifs : MEs} {own : List Nat} (G : GX X c cf k W) (hr : HypS X c cf k W true r)
    (he : ∀ X k W, GX X c cf k W → Hyp X c cf k W e) (hi : ∀ X k W, GX X c cf k W → ∀ xs, ckBs k true ifs xs = true → xs.length ≤ 1 → PTs X xs (rd c (pX (α := Bool)) W (evTs cf ifs)))
    (h : ckE k w (.comp e t r ifs own) x = true) : Okf X c cf W w (.comp e t r ifs own) x ∧ ∃ elt tg iter cs scope pos, x = .ListComp elt [⟨tg, iter, cs, 0⟩] scope pos ∧
      ∀ (i : Nat) (y : Str) (py spos : Pos), X.N[i]? = some y → X.env.scope.names.lookup y = some .local → swapsWith x (some (.Name y py)) spos.line X.env = pure true → PS X (.Assign [.Name y py] x spos) (tAsg (rd c (pF c) W (evE cf (.comp e t r ifs own))) (gName i)) := by
  cases x <;> first | (cases h; done) | skip
  rename_i elt gens scope pos
  rcases gens with _ | ⟨⟨tg, iter, cs, as⟩, _ | ⟨_, _⟩⟩
  · cases h
  rotate_left
  · exfalso
    revert h
    unfold ckE
    split <;> simp_all
  by_cases ha : as = 0
  rotate_left
  · exfalso
    revert h
    unfold ckE
    split <;> simp_all
  · subst ha
    obtain ⟨h, h8⟩ := and2 (show ((own.all fun i => decide (i < k.N.length)) && ((tSlots t).all fun i => decide (i ∈ own)) && blkC k.N k.sc scope (own.map fun i => ((k.N[i]?).getD Str.empty, i)) && ckSrc k true r iter tg && !isSetE iter && ckT (k.inner scope) t tg && ckE (k.inner scope) false e elt &&
        ckBs (k.inner scope) true ifs cs && decide (cs.length ≤ 1)) = true from h)
    obtain ⟨h, h7⟩ := and2 h
    obtain ⟨h, h6⟩ := and2 h
    obtain ⟨h, h5⟩ := and2 h
    obtain ⟨h, h4'⟩ := and2 h
    obtain ⟨h, h4⟩ := and2 h
    obtain ⟨h, h3⟩ := and2 h
    obtain ⟨h1, h2⟩ := and2 h
    have hb := blkOk_by h3
    rw [← G.N, ← G.sc] at hb
    have ho : (own.map fun i => ((X.N[i]?).getD Str.empty, i)).map (·.2) = own := by
      rw [List.map_map]
      exact List.map_id'' (fun _ => rfl) own
    have p := pe_lc (pos := pos) G.calm G.nd (hr _ _ h4) hb (fun s H C cl fp => sT (gx_blk G s H scope cl C fp) t tg h5) (fun s H C cl fp => hi _ _ _ (gx_blk G s H scope cl C fp) cs h7 (of_decide_eq_true h8))
      (fun s H C cl fp => PE.v0 (he _ _ _ (gx_blk G s H scope cl C fp) false elt h6).v) (folded (not1 h4'))
    rw [ho] at p
    have h2' : ∀ i ∈ tSlots t, i ∈ own := fun i hi => of_decide_eq_true (List.all_eq_true.mp h2 i hi)
    refine ⟨⟨okT G (fun _ => rfl) (PE.imp p fun σ H Q h => rd_comp rfl h2' (rd_VF h)) (fun _ => rfl), PE.imp p fun σ H Q h => rd_comp rfl h2' h⟩, elt, tg, iter, cs, scope, pos, rfl, fun i y py spos hy hyl hsw => ?_⟩
    have p2 := ps_setLc (i := i) (y := y) (py := py) (pos := pos) (spos := spos) G.calm G.nd hy hyl hsw (hr _ _ h4) hb (fun s H C cl fp => sT (gx_blk G s H scope cl C fp) t tg h5) (fun s H C cl fp => hi _ _ _ (gx_blk G s H scope cl C fp) cs h7 (of_decide_eq_true h8))
      (fun s H C cl fp => PE.v0 (he _ _ _ (gx_blk G s H scope cl C fp) false elt h6).v) (folded (not1 h4'))
    rw [ho] at p2
    exact PS.imp p2 fun D σ H h => rd_comp rfl h2' h
end
end Mi
namespace Mi
open PySem L2
section
variable {c : Cc} {cf : Cfg}
/-- and, or: from the left -/
structure OkB (X : Cx) (c : Cc) (cf : Cfg) (W : WX) (w : Bool) (es : MEs) (xs : List Expr) : Prop where
  av : ∀ pos, PE X (.BoolOp .And xs pos) (rd c (pV c w) W (evAnd cf es))
  at' : ∀ pos, PW X (.BoolOp .And xs pos) (rd c (pX (α := Bool)) W (evTAnd cf es))
  ov : ∀ pos, PE X (.BoolOp .Or xs pos) (rd c (pV c w) W (evOr cf es))
  ot : ∀ pos, PW X (.BoolOp .Or xs pos) (rd c (pX (α := Bool)) W (evTOr cf es))
theorem PW.imp {X : Cx} {e : Expr} {t t' : TT} (h : PW X e t) (i : ∀ σ H Q, t' σ H Q → t σ H Q) : PW X e t' := ⟨fun wh pins s σ H Q I q => h.run wh pins s σ H Q I (i σ H Q q)⟩
theorem PTs.imp {X : Cx} {e : List Expr} {t t' : TT} (h : PTs X e t) (i : ∀ σ H Q, t' σ H Q → t σ H Q) : PTs X e t' := ⟨fun pins s σ H Q I q => h.run pins s σ H Q I (i σ H Q q)⟩
theorem okB1 {X : Cx} {W : WX} {w : Bool} {e : ME} {x : Expr} (h : Okx X c cf W w e x) : OkB X c cf W w (.cons false e .nil) [x] where
  av := fun pos => pe_one h.v
  at' := fun pos => PW.imp (pw_and1 h.t) fun σ H Q h => rdT_and1 h
  ov := fun pos => pe_one h.v
  ot := fun pos => PW.imp (pw_or1 h.t) fun σ H Q h => rdT_or1 h
theorem okBc {X : Cx} {k : Ck} {W : WX} {w : Bool} {e e2 : ME} {st : Bool} {r : MEs} {x y : Expr} {ys : List Expr} (G : GX X c cf k W) (h : Okx X c cf W w e x) (hr : OkB X c cf W w (.cons st e2 r) (y :: ys)) : OkB X c cf W w (.cons false e (.cons st e2 r)) (x :: y :: ys) where
  av := fun pos => PE.imp (pe_andT h.v (hr.av pos)) fun σ H Q h => by
    have h := rd_and h
    rw [G.K] at h
    exact h
  at' := fun pos => PW.imp (pw_and h.t (hr.at' pos)) fun σ H Q h => rdT_and h
  ov := fun pos => PE.imp (pe_orT h.v (hr.ov pos)) fun σ H Q h => by
    have h := rd_or h
    rw [G.K] at h
    exact h
  ot := fun pos => PW.imp (pw_or h.t (hr.ot pos)) fun σ H Q h => rdT_or h
theorem isEmpty_no {α : Type} {xs : List α} (h : (!xs.isEmpty) = true) : xs ≠ [] := by
  rintro rfl
  cases h
mutual
theorem sE : ∀ (e : ME) (X : Cx) (k : Ck) (W : WX), GX X c cf k W → Hyp X c cf k W e
  | .var i, X, k, W, G => fun w x h => nd_var G h
  | .bor i, X, k, W, G => fun w x h => nd_bor G h
  | .cst d, X, k, W, G => fun w x h => nd_cst G h
  | .glo g, X, k, W, G => fun w x h => nd_glo G h
  | .tup es, X, k, W, G => fun w x h => nd_tup G (sEs es X k W G) h
  | .lst es, X, k, W, G => fun w x h => (nd_lst G (sEs es X k W G) h).o
  | .op o a b, X, k, W, G => fun w x h => (nd_op G (sE a X k W G) (sE b X k W G) h).o
  | .chain o1 o2 a b e, X, k, W, G => fun w x h => nd_chain G (sE a X k W G) (sE b X k W G) (sE e X k W G) h
  | .neg a, X, k, W, G => fun w x h => nd_neg G (sE a X k W G) h
  | .notE a, X, k, W, G => fun w x h => nd_not G (sE a X k W G) h
  | .andE es, X, k, W, G => fun w x h => by
    cases x <;> first | (cases h; done) | skip
    rename_i o xs p
    cases o <;> first | (cases h; done) | skip
    obtain ⟨h1, h2⟩ := and2 (show (ckBs k w es xs && !xs.isEmpty) = true from h)
    have z := sBs es X k W G w xs h1 (isEmpty_no h2)
    exact ⟨z.av p, (z.at' p).pt⟩
  | .orE es, X, k, W, G => fun w x h => by
    cases x <;> first | (cases h; done) | skip
    rename_i o xs p
    cases o <;> first | (cases h; done) | skip
    obtain ⟨h1, h2⟩ := and2 (show (ckBs k w es xs && !xs.isEmpty) = true from h)
    have z := sBs es X k W G w xs h1 (isEmpty_no h2)
    exact ⟨z.ov p, (z.ot p).pt⟩
  | .ite t a b, X, k, W, G => fun w x h => nd_ite G (sE t X k W G) (sE a X k W G) (sE b X k W G) h
  | .isN n a, X, k, W, G => fun w x h => nd_isN G (sE a X k W G) h
  | .ix a i, X, k, W, G => fun w x h => nd_ix G (sE a X k W G) (sE i X k W G) h
  | .sl a lo hi, X, k, W, G => fun w x h => (nd_sl G (sE a X k W G) (sO lo X k W G) (sO hi X k W G) h).o
  | .rev a, X, k, W, G => fun w x h => nd_rev G (sE a X k W G) h
  | .call f es, X, k, W, G => fun w x h => nd_call G (sEs es X k W G) h
  | .lend f es, X, k, W, G => fun w x h => nd_lend G (sWs es X k W G) h
  | .callK f es es2 ks, X, k, W, G => fun w x h => nd_callK G (sEs es X k W G) (sKs es2 X k W G) h
  | .bi b a, X, k, W, G => fun w x h => (nd_bi G (sE a X k W G) h).o
  | .isi a o ts, X, k, W, G => fun w x h => nd_isi G (sE a X k W G) h
  | .comp e t r ifs own, X, k, W, G => fun w x h => (nd_comp G (sSrc r X k W G true) (sE e) (sTs' ifs) h).1.o
  | .mk q es, X, k, W, G => fun w x h => nd_mk G (by
      cases es with
      | nil => exact fun e h => nomatch h
      | cons st e0 r => exact fun e h => by cases h; exact sE _ X k W G) h
  | .mkK q e, X, k, W, G => fun w x h => by cases x <;> cases h
  | .attr f a, X, k, W, G => fun w x h => nd_attr G (sE a X k W G) h
  | .boxed f e, X, k, W, G => fun w x h => nd_boxed G (by
      cases e <;> intro g es h <;> first | (cases h; done) | skip
      cases h
      exact sEs _ X k W G) h
theorem sEs : ∀ (es : MEs) (X : Cx) (k : Ck) (W : WX), GX X c cf k W → ∀ xs, ckEs k es xs = true → PA X xs (rd c (pL c) W (evEs cf es))
  | .nil, X, k, W, G => fun xs h => by
    cases xs with
    | nil => exact PA.imp pa_nil fun σ H Q h => rd_nil h
    | cons _ _ => cases h
  | .cons st e r, X, k, W, G => fun xs h => by
    cases xs with
    | nil => cases st <;> cases h
    | cons x xs =>
      cases st with
      | false =>
        obtain ⟨h, h3⟩ := and2 (show (!isStar x && ckE k false e x && ckEs k r xs) = true from h)
        obtain ⟨h1, h2⟩ := and2 h
        exact PA.imp (pa_cons (PE.v0 (sE e X k W G false x h2).v) (sEs r X k W G xs h3) (star_ns (not1 h1))) fun σ H Q h => rd_cons h
      | true =>
        cases x <;> first | (cases h; done) | skip
        rename_i x p
        obtain ⟨h1, h2⟩ := and2 (show (ckE k true e x && ckEs k r xs) = true from h)
        exact PA.imp (StX.pa_star (PE.v1 (sE e X k W G true x h1).v) (sEs r X k W G xs h2) rfl) fun σ H Q h => by
          have h := rd_star h
          rw [G.K] at h
          exact h
theorem sKs : ∀ (es : MEs) (X : Cx) (k : Ck) (W : WX), GX X c cf k W → ∀ kws, ckKs k es kws = true → PK X kws (rd c (pL c) W (evEs cf es))
  | .nil, X, k, W, G => fun kws h => by
    cases kws with
    | nil => exact PK.imp pk_nil fun σ H Q h => rd_nil h
    | cons _ _ => cases h
  | .cons st e r, X, k, W, G => fun kws h => by
    cases kws with
    | nil => cases st <;> cases h
    | cons x kws =>
      obtain ⟨a, x, p⟩ := x
      cases st <;> cases a <;> first | (cases h; done) | skip
      obtain ⟨h2, h3⟩ := and2 (show (ckE k false e x && ckKs k r kws) = true from h)
      exact PK.imp (pk_cons (PE.v0 (sE e X k W G false x h2).v) (sKs r X k W G kws h3)) fun σ H Q h => rd_cons h
theorem sWs : ∀ (es : MEs) (X : Cx) (k : Ck) (W : WX), GX X c cf k W → ∀ xs, ckWs k es xs = true → PA X xs (rd c (pL0 c) W (evEs cf es))
  | .nil, X, k, W, G => fun xs h => by
    cases xs with
    | nil => exact PA.imp pa_nil fun σ H Q h => rd_nil0 h
    | cons _ _ => cases h
  | .cons st e r, X, k, W, G => fun xs h => by
    cases xs with
    | nil => cases st <;> cases h
    | cons x xs =>
      cases st with
      | false =>
        obtain ⟨h, h3⟩ := and2 (show (!isStar x && ckE k true e x && ckWs k r xs) = true from h)
        obtain ⟨h1, h2⟩ := and2 h
        exact PA.imp (pa_cons (PE.v1 (sE e X k W G true x h2).v) (sWs r X k W G xs h3) (star_ns (not1 h1))) fun σ H Q h => rd_cons0 h
      | true => cases h
theorem sBs : ∀ (es : MEs) (X : Cx) (k : Ck) (W : WX), GX X c cf k W → ∀ w xs, ckBs k w es xs = true → xs ≠ [] → OkB X c cf W w es xs
  | .nil, X, k, W, G => fun w xs h hn => by
    cases xs with
    | nil => exact absurd rfl hn
    | cons _ _ => cases h
  | .cons st e r, X, k, W, G => fun w xs h hn => by
    cases xs with
    | nil => exact absurd rfl hn
    | cons x xs =>
      cases st with
      | true => cases h
      | false =>
        obtain ⟨h1, h2⟩ := and2 (show (ckE k w e x && ckBs k w r xs) = true from h)
        have z := sE e X k W G w x h1
        cases r with
        | nil =>
          cases xs with
          | nil => exact okB1 z
          | cons _ _ => cases h2
        | cons st2 e2 r2 =>
          cases xs with
          | nil => cases st2 <;> cases h2
          | cons y ys => exact okBc G z (sBs (.cons st2 e2 r2) X k W G w (y :: ys) h2 (fun z => nomatch z))
theorem sTs' : ∀ (es : MEs) (X : Cx) (k : Ck) (W : WX), GX X c cf k W → ∀ xs, ckBs k true es xs = true → xs.length ≤ 1 → PTs X xs (rd c (pX (α := Bool)) W (evTs cf es))
  | .nil, X, k, W, G => fun xs h hl => by
    cases xs with
    | nil => exact PTs.imp pts_nil fun σ H Q h => rdT_all0 h
    | cons _ _ => cases h
  | .cons st e r, X, k, W, G => fun xs h hl => by
    cases xs with
    | nil => cases st <;> cases h
    | cons x xs =>
      cases xs with
      | cons _ _ => simp at hl
      | nil =>
        cases st with
        | true => cases h
        | false =>
          obtain ⟨h1, h2⟩ := and2 (show (ckE k true e x && ckBs k true r []) = true from h)
          cases r with
          | nil => exact PTs.imp (pts_one (sE e X k W G true x h1).t) fun σ H Q h => rdT_all1 h
          | cons st2 _ _ => cases st2 <;> cases h2
theorem sO : ∀ (o : MO) (X : Cx) (k : Ck) (W : WX), GX X c cf k W → HypO X c cf k W o
  | .none, X, k, W, G => fun o h => by
    cases o with
    | none => exact PO.imp po_none fun σ H Q h => rd_on h
    | some _ => cases h
  | .some e, X, k, W, G => fun o h => by
    cases o with
    | none => cases h
    | some x => exact PO.imp (po_some (PE.v1 (sE e X k W G true x h).v)) fun σ H Q h => rd_o h
theorem sSrc : ∀ (r : MSrc) (X : Cx) (k : Ck) (W : WX), GX X c cf k W → ∀ w, HypS X c cf k W w r
  | .it e, X, k, W, G => fun w it tg h => PI.imp (pi_any (sE e X k W G w it h).v) fun σ H Q h => by
    have h := rdS_it h
    rw [G.K] at h
    exact h
  | .range a, X, k, W, G => fun w it tg h => by
    cases it <;> first | (cases h; done) | skip
    rename_i f es ks pos
    cases f <;> first | (cases h; done) | skip
    rename_i y p
    rcases es with _ | ⟨x, _ | ⟨_, _⟩⟩ <;> first | (cases h; done) | skip
    cases ks <;> first | (cases h; done) | skip
    obtain ⟨h, h4⟩ := and2 (show (decide (y = ("range" : Str)) && k.blt y && ckE k true a x && !isStar x) = true from h)
    obtain ⟨h, h3⟩ := and2 h
    obtain ⟨h1, h2⟩ := and2 h
    have h1 := of_decide_eq_true h1
    subst h1
    obtain ⟨hg, _, hm⟩ := blt_of G h2
    exact PI.imp (pi_range1 hg hm (pa_cons (PE.v1 (sE a X k W G true x h3).v) pa_nil (star_ns (not1 h4))) (star_ns (not1 h4))) fun σ H Q h => rdS_range h
  | .range2 a b, X, k, W, G => fun w it tg h => by
    cases it <;> first | (cases h; done) | skip
    rename_i f es ks pos
    cases f <;> first | (cases h; done) | skip
    rename_i y p
    rcases es with _ | ⟨x, _ | ⟨x2, _ | ⟨_, _⟩⟩⟩ <;> first | (cases h; done) | skip
    cases ks <;> first | (cases h; done) | skip
    obtain ⟨h, h6⟩ := and2 (show (decide (y = ("range" : Str)) && k.blt y && ckE k true a x && ckE k true b x2 && !isStar x && !isStar x2) = true from h)
    obtain ⟨h, h5⟩ := and2 h
    obtain ⟨h, h4⟩ := and2 h
    obtain ⟨h, h3⟩ := and2 h
    obtain ⟨h1, h2⟩ := and2 h
    have h1 := of_decide_eq_true h1
    subst h1
    obtain ⟨hg, _, hm⟩ := blt_of G h2
    have e1 := star_ns (env := X.env) (r := [x2]) (not1 h5)
    have e2 := star_ns (env := X.env) (r := []) (not1 h6)
    exact PI.imp (pi_range2 hg hm (pa_cons (PE.v1 (sE a X k W G true x h3).v) (pa_cons (PE.v1 (sE b X k W G true x2 h4).v) pa_nil e2) e1) (by rw [e1, e2]; rfl) e2) fun σ H Q h => rdS_range2 h
  | .enum a, X, k, W, G => fun w it tg h => by
    cases it <;> first | (cases h; done) | skip
    rename_i f es ks pos
    cases f <;> first | (cases h; done) | skip
    rename_i y p
    rcases es with _ | ⟨x, _ | ⟨_, _⟩⟩ <;> first | (cases h; done) | skip
    cases ks <;> first | (cases h; done) | skip
    cases tg <;> first | (cases h; done) | skip
    obtain ⟨h, h4⟩ := and2 (show (decide (y = ("enumerate" : Str)) && k.blt y && ckE k w a x && !isStar x) = true from h)
    obtain ⟨h, h3⟩ := and2 h
    obtain ⟨h1, h2⟩ := and2 h
    have h1 := of_decide_eq_true h1
    subst h1
    obtain ⟨hg, _, hm⟩ := blt_of G h2
    exact PI.imp (pi_enumA hg hm (pa_cons (sE a X k W G w x h3).v pa_nil (star_ns (not1 h4))) (star_ns (not1 h4))) fun σ H Q h => by
      have h := rdS_enum h
      rw [G.K] at h
      exact h
  | .zip a b, X, k, W, G => fun w it tg h => by
    cases it <;> first | (cases h; done) | skip
    rename_i f es ks pos
    cases f <;> first | (cases h; done) | skip
    rename_i y p
    rcases es with _ | ⟨x, _ | ⟨x2, _ | ⟨_, _⟩⟩⟩ <;> first | (cases h; done) | skip
    cases ks <;> first | (cases h; done) | skip
    cases tg <;> first | (cases h; done) | skip
    obtain ⟨h, h6⟩ := and2 (show (decide (y = ("zip" : Str)) && k.blt y && ckE k w a x && ckE k w b x2 && !isStar x && !isStar x2) = true from h)
    obtain ⟨h, h5⟩ := and2 h
    obtain ⟨h, h4⟩ := and2 h
    obtain ⟨h, h3⟩ := and2 h
    obtain ⟨h1, h2⟩ := and2 h
    have h1 := of_decide_eq_true h1
    subst h1
    obtain ⟨hg, _, hm⟩ := blt_of G h2
    have e1 := star_ns (env := X.env) (r := [x2]) (not1 h5)
    have e2 := star_ns (env := X.env) (r := []) (not1 h6)
    exact PI.imp (RZ.pi_zipA hg hm (pa_cons (sE a X k W G w x h3).v (pa_cons (sE b X k W G w x2 h4).v pa_nil e2) e1) e1 (by rw [e2]; rfl)) fun σ H Q h => by
      have h := rdS_zip h
      rw [G.K] at h
      exact h
end
end
end Mi
namespace Mi
open PySem L2
section
variable {c : Cc} {cf : Cfg} {W : WX} {σ σ' σ1 σ2 : L2.St} {H H1 H2 H' : Hp} {N N0 : Addr → Prop} {s s' s1 s2 : Env} {b : Bx} {D : Ends}
/-- what stays from here to there -/
structure FrK (c : Cc) (H : Hp) (σ : L2.St) (s : Env) (H' : Hp) : Prop where
  kp : ∀ a o, c.β ≠ some a → ¬ IsOwn σ s a → H a = some o → H' a = some o
  fr : ∀ a, H' a = none → H a = none
structure Fr (c : Cc) (H : Hp) (σ : L2.St) (s : Env) (H' : Hp) (σ' : L2.St) (s' : Env) : Prop extends FrK c H σ s H' where
  ow : ∀ a, IsOwn σ' s' a → IsOwn σ s a ∨ H a = none
theorem Keep.frk (k : Keep c H H') : FrK c H σ s H' := ⟨fun a o h _ e => k.kp a o h e, k.fr⟩
theorem Fr.refl : Fr c H σ s H σ s := ⟨⟨fun _ _ _ _ h => h, fun _ h => h⟩, fun _ h => .inl h⟩
theorem Fr.transK (f : Fr c H σ s H1 σ1 s1) (g : FrK c H1 σ1 s1 H2) : FrK c H σ s H2 :=
  ⟨fun a o hb hn h => g.kp a o hb (fun z => (f.ow a z).elim hn fun e => by rw [e] at h; cases h) (f.kp a o hb hn h), fun a h => f.fr a (g.fr a h)⟩
theorem Fr.trans (f : Fr c H σ s H1 σ1 s1) (g : Fr c H1 σ1 s1 H2 σ2 s2) : Fr c H σ s H2 σ2 s2 :=
  ⟨f.transK g.toFrK, fun a z => (g.ow a z).elim (f.ow a) fun e => .inr (f.fr a e)⟩
theorem Keep.frl (k : Keep c H H') : Fr c H σ s H' σ s := ⟨k.frk, fun _ z => .inl z⟩
/-- how a statement ends -/
def OutS (c : Cc) (N0 : Addr → Prop) (W : WX) (D : Ends) (σ : L2.St) (H : Hp) (s : Env) : Res (Flow × Env) → Prop
  | .ok (.nx, s') b => ∀ σ' H', Rel c H' N0 σ' s' → BoxAt c H' b → Fr c H σ s H' σ' s' → D.nx σ' H'
  | .ok (.bk, s') b => ∀ σ' H', Rel c H' N0 σ' s' → BoxAt c H' b → Fr c H σ s H' σ' s' → D.bk σ' H'
  | .ok (.ct, s') b => ∀ σ' H', Rel c H' N0 σ' s' → BoxAt c H' b → Fr c H σ s H' σ' s' → D.ct σ' H'
  | .ok (.rt d, _) b => ∀ v H', FrK c H σ s H' → BoxAt c H' b → Rep c H' N0 d v → D.rt v H'
  | .ex k as b => ∀ cls dd σ' H', FrK c H σ s H' → BoxAt c H' b → c.exAt k as cls dd H' → W cls dd σ' H'
  | .no => False
theorem OutS.later {r : Res (Flow × Env)} (h : OutS c N0 W D σ H s r) (f : Fr c H σ s H1 σ1 s1) : OutS c N0 W D σ1 H1 s1 r := by
  cases r with
  | ok p b =>
    obtain ⟨fl, s'⟩ := p
    cases fl with
    | rt d => exact fun v H' g B r => h v H' (f.transK g) B r
    | _ => exact fun σ' H' R B g => h σ' H' R B (f.trans g)
  | ex k as b => exact fun cls dd σ' H' g B e => h cls dd σ' H' (f.transK g) B e
  | no => exact h
theorem OutS.bd {α γ : Type} {Rp : Hp → α → γ → Prop} {m : M α} {f : α → M (Flow × Env)} (h : OutS c N0 W D σ H s ((m.bd f) b)) :
    Out c Rp σ H W (fun v H1 => ∃ x b1, Keep c H H1 ∧ BoxAt c H1 b1 ∧ Rp H1 x v ∧ OutS c N0 W D σ H s (f x b1)) (m b) := by
  unfold M.bd at h
  cases e : m b with
  | ok x b1 =>
    rw [e] at h
    exact fun v H1 k B r => ⟨x, b1, k, B, r, h⟩
  | ex k as b1 =>
    rw [e] at h
    exact fun cls dd H' k B x => h cls dd σ H' k.frk B x
  | no =>
    rw [e] at h
    exact h
theorem OutS.bdK {α γ : Type} {Rp : Hp → α → γ → Prop} {m : M α} {f : α → M (Flow × Env)} (h : OutS c N0 W D σ H s ((m.bd f) b)) (k1 : Keep c H H1) :
    Out c Rp σ H1 W (fun v H2 => ∃ x b1, Keep c H1 H2 ∧ BoxAt c H2 b1 ∧ Rp H2 x v ∧ OutS c N0 W D σ H s (f x b1)) (m b) := by
  unfold M.bd at h
  cases e : m b with
  | ok x b1 =>
    rw [e] at h
    exact fun v H1 k B r => ⟨x, b1, k, B, r, h⟩
  | ex k as b1 =>
    rw [e] at h
    exact fun cls dd H' k B x => h cls dd σ H' (k1.trans k).frk B x
  | no =>
    rw [e] at h
    exact h
theorem OutS.ofObd {α : Type} {o : Option α} {f : α → M (Flow × Env)} (h : OutS c N0 W D σ H s ((M.bd (M.ofO o) f) b)) : ∃ x, o = some x ∧ OutS c N0 W D σ H s (f x b) := by
  cases o with
  | some x => exact ⟨x, rfl, h⟩
  | none => exact h.elim
/-- a reading of a statement -/
def rdS (c : Cc) (N0 : Addr → Prop) (W : WX) (m : Env → M (Flow × Env)) : TS := fun D σ H => ∃ s b, Rel c H N0 σ s ∧ BoxAt c H b ∧ OutS c N0 W D σ H s (m s b)
theorem rd_seq {a : MS} {r : MSs} (h : rdS c N0 W (exSs cf (.cons a r)) D σ H) : tSeq (rdS c N0 W (exS cf a)) (rdS c N0 W (exSs cf r)) D σ H := by
  obtain ⟨s, b, R, B, h⟩ := h
  refine ⟨s, b, R, B, ?_⟩
  have h : OutS c N0 W D σ H s (((exS cf a s).bd fun p => (match p.1 with | .nx => exSs cf r p.2 | _ => M.ret p)) b) := h
  unfold M.bd at h
  cases e : exS cf a s b with
  | no => rw [e] at h; exact h
  | ex k as b1 => rw [e] at h; exact h
  | ok p b1 =>
    rw [e] at h
    obtain ⟨fl, s1⟩ := p
    cases fl with
    | nx => exact fun σ1 H1 R1 B1 f => ⟨s1, b1, R1, B1, OutS.later h f⟩
    | rt d => exact h
    | bk => exact h
    | ct => exact h
theorem rd_snil (h : rdS c N0 W (exSs cf .nil) D σ H) : tNext D σ H := by
  obtain ⟨s, b, R, B, h⟩ := h
  exact h σ H R B .refl
theorem rd_pass (h : rdS c N0 W (exS cf .pass) D σ H) : tNext D σ H := by
  obtain ⟨s, b, R, B, h⟩ := h
  exact h σ H R B .refl
theorem rd_brk (h : rdS c N0 W (exS cf .brk) D σ H) : tBreak D σ H := by
  obtain ⟨s, b, R, B, h⟩ := h
  exact h σ H R B .refl
theorem rd_cont (h : rdS c N0 W (exS cf .cont) D σ H) : tCont D σ H := by
  obtain ⟨s, b, R, B, h⟩ := h
  exact h σ H R B .refl
theorem rd_ret {e : ME} (h : rdS c N0 W (exS cf (.ret e)) D σ H) : tRet (rd c (pE c) W (evE cf e)) D σ H := by
  obtain ⟨s, b, R, B, h⟩ := h
  refine ⟨N0, s, b, R, B, Out.mono (OutS.bd (Rp := fun H' => pE c H H' N0 (Nof N0 σ s)) h) fun v H1 ⟨x, b1, k1, B1, r1, h1⟩ => ?_⟩
  exact h1 v H1 k1.frk B1 (r1.sub fun _ => .inl)
theorem rd_retN (h : rdS c N0 W (exS cf .retN) D σ H) : tRetN D σ H := by
  obtain ⟨s, b, R, B, h⟩ := h
  exact h .non H Keep.refl.frk B rfl
theorem rd_if {t : ME} {a b : MSs} (h : rdS c N0 W (exS cf (.ite t a b)) D σ H) : tIfS (rd c (pX (α := Bool)) W (evT cf t)) (rdS c N0 W (exSs cf a)) (rdS c N0 W (exSs cf b)) D σ H := by
  obtain ⟨s, b, R, B, h⟩ := h
  refine ⟨N0, s, b, R, B, Out.mono (OutS.bd (Rp := fun H' => pX (α := Bool) H H' N0 (Nof N0 σ s)) h) fun v H1 ⟨x, b1, k1, B1, r1, h1⟩ => ?_⟩
  obtain rfl : x = v := r1
  cases x with
  | true => exact ⟨s, b1, R.keep k1, B1, OutS.later h1 k1.frl⟩
  | false => exact ⟨s, b1, R.keep k1, B1, OutS.later h1 k1.frl⟩
theorem rd_expr {e : ME} (h : rdS c N0 W (exS cf (.expr e)) D σ H) : tDrop (rd c (pE c) W (evE cf e)) D σ H := by
  obtain ⟨s, b, R, B, h⟩ := h
  refine ⟨N0, s, b, R, B, Out.mono (OutS.bd (Rp := fun H' => pE c H H' N0 (Nof N0 σ s)) h) fun v H1 ⟨x, b1, k1, B1, r1, h1⟩ => ?_⟩
  exact h1 σ H1 (R.keep k1) B1 k1.frl
theorem own_not0 (R : Rel c H N0 σ s) {a : Addr} (h : IsOwn σ s a) : ¬ N0 a := by
  obtain ⟨i, d, e1, e2⟩ := h
  obtain ⟨a', e3, _, n⟩ := R.ow i d e1
  rw [e2] at e3
  cases e3
  exact n
theorem asg_eq (t : MT) (d : Mi.D) (s : Env) : (match t with | .slot i => setOwn false i d s | t => if false = true then none else bindT t d s) = bindT t d s := by
  cases t with
  | slot i =>
    have e : slOf false d = .vl d := by cases d <;> rfl
    show (if i < s.length then some (s.set i (slOf false d)) else none) = (if i < s.length then some (s.set i (.vl d)) else none)
    rw [e]
  | tup ts => rfl
theorem rd_asg {t : MT} {e : ME} (h : rdS c N0 W (exS cf (.asg false t e)) D σ H) : tAsg (rd c (pE c) W (evE cf e)) (rdG c t) D σ H := by
  obtain ⟨s, b, R, B, h⟩ := h
  refine ⟨N0, s, b, R, B, Out.mono (OutS.bd (Rp := fun H' => pE c H H' N0 (Nof N0 σ s)) h) fun v H1 ⟨x, b1, k1, B1, r1, h1⟩ => ?_⟩
  obtain ⟨s', e1, h2⟩ := h1.ofObd
  have e1 : bindT t x s = some s' := (asg_eq t x s).symm.trans e1
  have R1 := R.keep k1
  refine ⟨N0, s, x, s', R1, r1, e1, fun σ' R' hl hs hn => h2 σ' H1 R' B1 ⟨k1.frk, fun a z => ?_⟩⟩
  exact (hn a (.inr z)).elim (fun z2 => absurd z2 (own_not0 R' z)) .inl
/-- a new list of one's own is stored -/
theorem Rel.setOw {ds : List Mi.D} {v : V} (R : Rel c H N0 σ s) (k : Keep c H H1) (r : RepF c H H1 (Nof N0 σ s) (.lst ds) v) (i : Nat) (hi : i < s.length) :
    Rel c H1 N0 (σ.set i (some v)) (s.set i (.ow (.lst ds))) ∧ ∀ a, IsOwn (σ.set i (some v)) (s.set i (.ow (.lst ds))) a → IsOwn σ s a ∨ H a = none := by
  obtain ⟨p, xs, rfl, hp, h1, q⟩ := r
  have hσ : i < σ.length := by rw [← R.len]; exact hi
  have own : ∀ a, IsOwn (σ.set i (some (.ref p))) (s.set i (.ow (.lst ds))) a → IsOwn σ s a ∨ a = p := by
    rintro a ⟨j, d, e1, e2⟩
    rcases get_set e1 with ⟨rfl, e⟩ | ⟨ne, e1⟩
    · rw [List.getElem?_set_self hσ] at e2
      cases e2
      exact .inr rfl
    · rw [List.getElem?_set_ne (Ne.symm ne)] at e2
      exact .inl ⟨j, d, e1, e2⟩
  have sub : ∀ a, Nof N0 (σ.set i (some (.ref p))) (s.set i (.ow (.lst ds))) a → Nof N0 σ s a ∨ H a = none := fun a z => by
    rcases z with z | z
    · exact .inl (.inl z)
    · rcases own a z with z | z
      · exact .inl (.inr z)
      · exact .inr (by rw [z]; exact hp)
  have bet : ∀ x, c.β = some x → Nof N0 (σ.set i (some (.ref p))) (s.set i (.ow (.lst ds))) x := fun x z => .inl (R.bet x z)
  refine ⟨⟨by simpa using R.len, fun j e h => ?_, fun j e h => ?_, fun j l e f a g1 g2 g3 g4 => ?_, fun a z e => R.dom a z (k.fr a e), R.bet⟩, fun a z => (own a z).imp id fun e => by rw [e]; exact hp⟩
  · rcases get_set h with ⟨rfl, e⟩ | ⟨ne, h⟩
    · cases e
    · obtain ⟨w, h2, h3⟩ := R.vl j e h
      refine ⟨w, by rw [List.getElem?_set_ne (Ne.symm ne)]; exact h2, ?_⟩
      exact (Rep.anti sub _ _ h3).keep k bet
  · rcases get_set h with ⟨rfl, e⟩ | ⟨ne, h⟩
    · cases e
      refine ⟨p, List.getElem?_set_self hσ, ⟨xs, h1, q.sub fun a z => ?_⟩, fun z => R.dom p z hp⟩
      rcases z with z | z
      · exact .inl (.inl z)
      · exact (own a z).imp .inr id
    · obtain ⟨a, h2, h3, h4⟩ := R.ow j e h
      refine ⟨a, by rw [List.getElem?_set_ne (Ne.symm ne)]; exact h2, ?_, h4⟩
      cases e with
      | lst es =>
        obtain ⟨ys, h5, h6⟩ := h3
        exact ⟨ys, k.kp a _ (fun z => h4 (R.bet a z)) h5, (RepL.anti sub _ _ h6).keep k bet⟩
      | _ => exact h3.elim
  · rcases get_set g1 with ⟨rfl, e1⟩ | ⟨n1, g1'⟩
    · rcases get_set g2 with ⟨rfl, e2⟩ | ⟨n2, g2'⟩
      · rfl
      · exfalso
        rw [List.getElem?_set_self hσ] at g3
        cases g3
        rw [List.getElem?_set_ne (Ne.symm n2)] at g4
        exact R.domN (.inr ⟨l, f, g2', g4⟩) hp
    · rcases get_set g2 with ⟨rfl, e2⟩ | ⟨n2, g2'⟩
      · exfalso
        rw [List.getElem?_set_self hσ] at g4
        cases g4
        rw [List.getElem?_set_ne (Ne.symm n1)] at g3
        exact R.domN (.inr ⟨j, e, g1', g3⟩) hp
      · rw [List.getElem?_set_ne (Ne.symm n1)] at g3
        rw [List.getElem?_set_ne (Ne.symm n2)] at g4
        exact R.dis j l e f a g1' g2' g3 g4
theorem Rel.setF {d : Mi.D} {v : V} (R : Rel c H N0 σ s) (k : Keep c H H1) (r : RepF c H H1 (Nof N0 σ s) d v) (i : Nat) (hi : i < s.length) :
    Rel c H1 N0 (σ.set i (some v)) (s.set i (slOf true d)) ∧ ∀ a, IsOwn (σ.set i (some v)) (s.set i (slOf true d)) a → IsOwn σ s a ∨ H a = none := by
  cases d with
  | lst ds => exact R.setOw k r i hi
  | _ => exact ⟨(R.keep k).setVl (d := _) r i hi, fun a z => .inl (own_set (y := .vl _) (fun _ z => nomatch z) z)⟩
theorem rd_asgO {i : Nat} {e : ME} (h : rdS c N0 W (exS cf (.asg true (.slot i) e)) D σ H) : tAsg (rd c (pF c) W (evE cf e)) (gName i) D σ H := by
  obtain ⟨s, b, R, B, h⟩ := h
  refine ⟨N0, s, b, R, B, Out.mono (OutS.bd (Rp := fun H' => pF c H H' N0 (Nof N0 σ s)) h) fun v H1 ⟨x, b1, k1, B1, r1, h1⟩ => ?_⟩
  obtain ⟨s', e1, h2⟩ := h1.ofObd
  have e1 : (if i < s.length then some (s.set i (slOf true x)) else none) = some s' := e1
  split at e1
  · rename_i hi
    cases e1
    obtain ⟨R', own⟩ := R.setF k1 r1 i hi
    exact h2 _ H1 R' B1 ⟨k1.frk, own⟩
  · cases e1
theorem rd_asgC {i : Nat} {e : ME} (h : rdS c N0 W (exS cf (.asg false (.slot i) e)) D σ H) : tAsg (rd c (pF c) W (evE cf e)) (gName i) D σ H := by
  obtain ⟨s, b, R, B, h⟩ := h
  refine ⟨N0, s, b, R, B, Out.mono (OutS.bd (Rp := fun H' => pF c H H' N0 (Nof N0 σ s)) h) fun v H1 ⟨x, b1, k1, B1, r1, h1⟩ => ?_⟩
  obtain ⟨s', e1, h2⟩ := h1.ofObd
  have e1 : bindT (.slot i) x s = some s' := (asg_eq (.slot i) x s).symm.trans e1
  have e1 : (if i < s.length then some (s.set i (.vl x)) else none) = some s' := e1
  split at e1
  · rename_i hi
    cases e1
    have r2 := RepF.rep r1 fun a z => R.domN z
    exact h2 _ H1 ((R.keep k1).setVl r2 i hi) B1 ⟨k1.frk, fun a z => .inl (own_set (y := .vl _) (fun _ z => nomatch z) z)⟩
  · cases e1
/-- no longer one's own -/
theorem Rel.share {i : Nat} {d : Mi.D} (R : Rel c H N0 σ s) (hi : s[i]? = some (.ow d)) : Rel c H N0 σ (s.set i (.vl d)) ∧ ∀ a, IsOwn σ (s.set i (.vl d)) a → IsOwn σ s a ∧ σ[i]? ≠ some (some (.ref a)) := by
  have own : ∀ a, IsOwn σ (s.set i (.vl d)) a → IsOwn σ s a ∧ σ[i]? ≠ some (some (.ref a)) := by
    rintro a ⟨j, e, e1, e2⟩
    rcases get_set e1 with ⟨_, e⟩ | ⟨ne, e1⟩
    · cases e
    · exact ⟨⟨j, e, e1, e2⟩, fun z => ne (R.dis j i e d a e1 hi e2 z)⟩
  have sub : ∀ a, Nof N0 σ (s.set i (.vl d)) a → Nof N0 σ s a := fun a z => z.imp id fun z => (own a z).1
  refine ⟨⟨by simpa using R.len, fun j e h => ?_, fun j e h => ?_, fun j l e f a h1 h2 h3 h4 => ?_, R.dom, R.bet⟩, own⟩
  · rcases get_set h with ⟨rfl, e⟩ | ⟨ne, h⟩
    · cases e
      obtain ⟨a, h1, h2, h3⟩ := R.ow j d hi
      refine ⟨.ref a, h1, ?_⟩
      cases d with
      | lst ds =>
        obtain ⟨xs, h4, h5⟩ := h2
        exact ⟨a, xs, rfl, fun z => z.elim h3 fun z => (own a z).2 h1, h4, h5.sub sub⟩
      | _ => exact h2.elim
    · obtain ⟨w, h1, h2⟩ := R.vl j e h
      exact ⟨w, h1, h2.sub sub⟩
  · rcases get_set h with ⟨rfl, e⟩ | ⟨ne, h⟩
    · cases e
    · obtain ⟨a, h1, h2, h3⟩ := R.ow j e h
      exact ⟨a, h1, h2.sub sub, h3⟩
  · rcases get_set h1 with ⟨_, e⟩ | ⟨n1, h1⟩
    · cases e
    rcases get_set h2 with ⟨_, e⟩ | ⟨n2, h2⟩
    · cases e
    exact R.dis j l e f a h1 h2 h3 h4
theorem rd_share {i : Nat} {r : MSs} (h : rdS c N0 W (exSs cf (.cons (.share i) r)) D σ H) : rdS c N0 W (exSs cf r) D σ H := by
  obtain ⟨s, b, R, B, h⟩ := h
  have h : OutS c N0 W D σ H s (((exS cf (.share i) s).bd fun p => (match p.1 with | .nx => exSs cf r p.2 | _ => M.ret p)) b) := h
  have e0 : exS cf (.share i) s = (match s[i]? with
    | some (.ow d) => M.ret (.nx, s.set i (.vl d))
    | some (.vl _) => M.ret (.nx, s)
    | _ => M.no) := rfl
  rw [e0] at h
  cases e : s[i]? with
  | none => rw [e] at h; exact h.elim
  | some x =>
    rw [e] at h
    cases x with
    | no => exact h.elim
    | vl d => exact ⟨s, b, R, B, h⟩
    | ow d =>
      obtain ⟨R', own⟩ := R.share e
      exact ⟨_, b, R', B, OutS.later h ⟨⟨fun _ _ _ _ z => z, fun _ z => z⟩, fun a z => .inl (own a z).1⟩⟩
theorem Rel.drop (R : Rel c H N0 σ s) (i : Nat) : Rel c H N0 σ (s.set i .no) ∧ ∀ a, IsOwn σ (s.set i .no) a → IsOwn σ s a := by
  have own : ∀ a, IsOwn σ (s.set i .no) a → IsOwn σ s a := by
    rintro a ⟨j, e, e1, e2⟩
    rcases get_set e1 with ⟨_, e⟩ | ⟨ne, e1⟩
    · cases e
    · exact ⟨j, e, e1, e2⟩
  have sub : ∀ a, Nof N0 σ (s.set i .no) a → Nof N0 σ s a := fun a z => z.imp id fun z => own a z
  refine ⟨⟨by simpa using R.len, fun j e h => ?_, fun j e h => ?_, fun j l e f a h1 h2 h3 h4 => ?_, R.dom, R.bet⟩, own⟩
  · rcases get_set h with ⟨_, e⟩ | ⟨ne, h⟩
    · cases e
    · obtain ⟨w, h1, h2⟩ := R.vl j e h
      exact ⟨w, h1, h2.sub sub⟩
  · rcases get_set h with ⟨_, e⟩ | ⟨ne, h⟩
    · cases e
    · obtain ⟨a, h1, h2, h3⟩ := R.ow j e h
      exact ⟨a, h1, h2.sub sub, h3⟩
  · rcases get_set h1 with ⟨_, e⟩ | ⟨n1, h1⟩
    · cases e
    rcases get_set h2 with ⟨_, e⟩ | ⟨n2, h2⟩
    · cases e
    exact R.dis j l e f a h1 h2 h3 h4
theorem Rel.drops (R : Rel c H N0 σ s) : ∀ is : List Nat, Rel c H N0 σ (s.kill is) ∧ ∀ a, IsOwn σ (s.kill is) a → IsOwn σ s a
  | [] => ⟨R, fun _ z => z⟩
  | i :: is =>
    let ⟨R1, h1⟩ := R.drops is
    let ⟨R2, h2⟩ := R1.drop i
    ⟨R2, fun a z => h1 a (h2 a z)⟩
theorem rd_for {t : MT} {r : MSrc} {dead : List Nat} {bd : MSs} (h : rdS c N0 W (exS cf (.for_ t r dead bd)) D σ H) :
    tFor (rd c (pS c false) W (evSrc cf r)) (rdG c t) (rdS c N0 W (exSs cf bd)) D σ H := by
  obtain ⟨s, b, R, B, h⟩ := h
  refine ⟨N0, s, b, R, B, Out.mono (OutS.bd (Rp := fun H' => pS c false H H' N0 (Nof N0 σ s)) h) fun J H1 ⟨ds, b1, k1, B1, S, h1⟩ => ?_⟩
  obtain ⟨n, G, Y, hn, walk, hG, hY⟩ := S
  have R1 := R.keep k1
  have keepN : ∀ {σi si Hi}, Fr c H1 σ s Hi σi si → KeepN (selN false N0 (Nof N0 σ s)) H1 Hi := fun {σi si Hi} f a o hn h => f.kp a o (fun z => hn (.inl (R.bet a z))) (fun z => hn (.inr z)) h
  refine for_it walk (fun i σi Hi => ∃ si bi, Rel c Hi N0 σi si ∧ BoxAt c Hi bi ∧ Fr c H1 σ s Hi σi si ∧ OutS c N0 W D σ H s (forGo t dead (exSs cf bd) (ds.drop i) si bi)) ⟨s, b1, R1, B1, .refl, h1⟩ ?_ ?_ ?_
  · rintro i σi Hi hi ⟨si, bi, Ri, Bi, f, h2⟩
    exact hG Hi (keepN f)
  · rintro i x σi Hi Hx hi ⟨si, bi, Ri, Bi, f, h2⟩ y
    have hid : i < ds.length := by rw [← hn]; exact hi
    have ed : ds.drop i = ds[i] :: ds.drop (i + 1) := List.drop_eq_getElem_cons hid
    rw [ed] at h2
    obtain ⟨ext, rx⟩ := hY i Hi x Hx ds[i] (Nof N0 σi si) (keepN f) (fun a z => by
      rcases z with z | z
      · exact .inl (.inl z)
      · exact (f.ow a z).imp .inr id) (fun a z => Ri.domN z) Ri.betN (by simp [hid]) y
    have KE := Keep.ofSame (c := c) ext
    obtain ⟨s1, eb, h3⟩ := h2.ofObd
    refine ⟨N0, si, ds[i], s1, Ri.keep KE, rx, eb, fun σ2 R2 hl2 hs2 hn2 => ?_⟩
    refine ⟨s1, bi, R2, Bi.same ext, ?_⟩
    have f2 : Fr c H1 σ s Hx σ2 s1 := f.trans ⟨KE.frk, fun a z => (hn2 a (.inr z)).elim (fun z2 => absurd z2 (own_not0 R2 z)) .inl⟩
    have f0 : Fr c H σ s H1 σ s := k1.frl
    unfold M.bd at h3
    cases e : exSs cf bd s1 bi with
    | no => rw [e] at h3; exact h3
    | ex k as b1 =>
      rw [e] at h3
      exact fun cls dd σ' H' g B x => h3 cls dd σ' H' ((f0.trans f2).transK g) B x
    | ok p b2 =>
      rw [e] at h3
      obtain ⟨fl, s2⟩ := p
      have go : OutS c N0 W D σ H s (forGo t dead (exSs cf bd) (ds.drop (i + 1)) (s2.kill dead) b2) → ∀ σ' H', Rel c H' N0 σ' s2 → BoxAt c H' b2 → Fr c Hx σ2 s1 H' σ' s2 →
          ∃ si bi, Rel c H' N0 σ' si ∧ BoxAt c H' bi ∧ Fr c H1 σ s H' σ' si ∧ OutS c N0 W D σ H s (forGo t dead (exSs cf bd) (ds.drop (i + 1)) si bi) := fun h4 σ' H' R' B' g => by
        obtain ⟨R3, own⟩ := R'.drops dead
        have f3 := f2.trans g
        exact ⟨_, b2, R3, B', ⟨f3.toFrK, fun a z => f3.ow a (own a z)⟩, h4⟩
      cases fl with
      | nx => exact go h3
      | ct => exact go h3
      | rt d => exact fun v H' g B r => h3 v H' ((f0.trans f2).transK g) B r
      | bk => exact fun σ' H' R' B' g => h3 σ' H' R' B' ((f0.trans f2).trans g)
  · rintro σi Hi ⟨si, bi, Ri, Bi, f, h2⟩
    have ed : ds.drop n = [] := List.drop_eq_nil_of_le (by omega)
    rw [ed] at h2
    have f0 : Fr c H σ s H1 σ s := k1.frl
    exact h2 σi Hi Ri Bi (f0.trans f)
/-- one's own list rewritten -/
theorem Rel.write {i : Nat} {ds ds' : List Mi.D} {a : Addr} {ys : List V} (R : Rel c H N0 σ s) (hi : s[i]? = some (.ow (.lst ds))) (ha : σ[i]? = some (some (.ref a))) (q : RepL c H (Nof N0 σ s) ds' ys) :
    Rel c (upd H a (.lst ys)) N0 σ (s.set i (.ow (.lst ds'))) ∧ ∀ x, IsOwn σ (s.set i (.ow (.lst ds'))) x → IsOwn σ s x := by
  have na : ¬ N0 a := own_not0 R ⟨i, _, hi, ha⟩
  have ia : IsOwn σ s a := ⟨i, _, hi, ha⟩
  have own : ∀ x, IsOwn σ (s.set i (.ow (.lst ds'))) x → IsOwn σ s x := by
    rintro x ⟨j, e, e1, e2⟩
    rcases get_set e1 with ⟨rfl, _⟩ | ⟨ne, e1⟩
    · exact ⟨j, _, hi, e2⟩
    · exact ⟨j, e, e1, e2⟩
  have sub : ∀ x, Nof N0 σ (s.set i (.ow (.lst ds'))) x → Nof N0 σ s x := fun x z => z.imp id fun z => own x z
  have k : KeepN (Nof N0 σ s) H (upd H a (.lst ys)) := fun x o n h => by rw [upd_ne (fun z => n (by rw [z]; exact .inr ia))]; exact h
  have hl : i < s.length := by
    by_cases h : i < s.length
    · exact h
    · rw [List.getElem?_eq_none (by omega)] at hi; cases hi
  refine ⟨⟨by simpa using R.len, fun j e h => ?_, fun j e h => ?_, fun j l e f x g1 g2 g3 g4 => ?_, fun x z e => ?_, R.bet⟩, own⟩
  · rcases get_set h with ⟨_, e⟩ | ⟨ne, h⟩
    · cases e
    · obtain ⟨w, h1, h2⟩ := R.vl j e h
      exact ⟨w, h1, (Rep.keepN k _ _ h2).sub sub⟩
  · rcases get_set h with ⟨rfl, e⟩ | ⟨ne, h⟩
    · cases e
      exact ⟨a, ha, ⟨ys, upd_same, (RepL.keepN k _ _ q).sub sub⟩, na⟩
    · obtain ⟨x, h1, h2, h3⟩ := R.ow j e h
      refine ⟨x, h1, ?_, h3⟩
      have nx : x ≠ a := fun z => ne (R.dis j i e _ a h hi (by rw [← z]; exact h1) ha)
      cases e with
      | lst es =>
        obtain ⟨zs, h4, h5⟩ := h2
        exact ⟨zs, by rw [upd_ne nx]; exact h4, (RepL.keepN k _ _ h5).sub sub⟩
      | _ => exact h2.elim
  · have u : ∀ (m : Nat) (g : Mi.D), (s.set i (Sl.ow (.lst ds')))[m]? = some (Sl.ow g) → ∃ g' : Mi.D, s[m]? = some (Sl.ow g') := fun m g hm => by
      rcases get_set hm with ⟨rfl, _⟩ | ⟨_, hm⟩
      · exact ⟨_, hi⟩
      · exact ⟨g, hm⟩
    obtain ⟨e', g1⟩ := u j e g1
    obtain ⟨f', g2⟩ := u l f g2
    exact R.dis j l e' f' x g1 g2 g3 g4
  · rw [upd_ne (fun y => na (by rw [← y]; exact z))] at e
    exact R.dom x z e
theorem rd_app {i : Nat} {e : ME} (h : rdS c N0 W (exS cf (.app i e)) D σ H) : tDrop (tBM c.K "list" rAppend (tVar i) (tCons (rd c (pE c) W (evE cf e)) tNil)) D σ H := by
  obtain ⟨s, b, R, B, h⟩ := h
  have e0 : exS cf (.app i e) s = (match s[i]? with
    | some (.ow (.lst xs)) => (evE cf e s).bd fun v => if xs.length < lineMax then M.ret (.nx, s.set i (.ow (.lst (xs ++ [v])))) else M.no
    | _ => M.no) := rfl
  rw [e0] at h
  cases ei : s[i]? with
  | none => rw [ei] at h; exact h.elim
  | some x =>
    rw [ei] at h
    cases x with
    | no => exact h.elim
    | vl d => exact h.elim
    | ow d =>
      cases d <;> first | exact h.elim | skip
      rename_i ds
      obtain ⟨a, h1, ⟨xs, h2, q⟩, n0⟩ := R.ow i _ ei
      refine ⟨.ref a, h1, .inl ⟨rfl, xs, .inl (.of h2)⟩, N0, s, b, R, B, Out.mono (OutS.bd (Rp := fun H' => pE c H H' N0 (Nof N0 σ s)) h) fun v H1 ⟨x, b1, k1, B1, r1, h3⟩ => ?_⟩
      have R1 := R.keep k1
      have ba : c.β ≠ some a := fun z => n0 (R.bet a z)
      have ha1 : H1 a = some (.lst xs) := k1.kp a _ ba h2
      have hl : ds.length < lineMax := Classical.byContradiction fun z => by rw [if_neg z] at h3; exact h3.elim
      rw [if_pos hl] at h3
      obtain ⟨R2, own⟩ := R1.write ei h1 (RepL.append (q.keep k1 R.betN) (.one r1))
      refine ⟨a, xs, v, rfl, rfl, ha1, ?_, h3 σ _ R2 ?_ ⟨⟨fun y o hb hn e => ?_, fun y e => ?_⟩, fun y z => .inl (own y z)⟩⟩
      · have := q.length
        have := line_ok (Nat.le_of_lt hl)
        have e := sizeLine_eq
        unfold lineMax at hl
        omega
      · cases b1 with
        | none => trivial
        | some p =>
          obtain ⟨i1, i2, i3⟩ := p
          obtain ⟨y, z1, z2⟩ := B1
          exact ⟨y, z1, by rw [upd_ne (fun z => ba (by rw [← z]; exact z1))]; exact z2⟩
      · rw [upd_ne (fun z => hn (by rw [z]; exact ⟨i, _, ei, h1⟩))]
        exact k1.kp y o hb e
      · by_cases ey : y = a
        · rw [ey, upd_same] at e; cases e
        · rw [upd_ne ey] at e
          exact k1.fr y e
theorem Rel.setSl {o : Bool} {d : Mi.D} {v : V} (R : Rel c H N0 σ s) (k : Keep c H H1) (r : RepF c H H1 (Nof N0 σ s) d v) (i : Nat) (hi : i < s.length) :
    Rel c H1 N0 (σ.set i (some v)) (s.set i (slOf o d)) ∧ ∀ a, IsOwn (σ.set i (some v)) (s.set i (slOf o d)) a → IsOwn σ s a ∨ H a = none := by
  cases o with
  | true => exact R.setF k r i hi
  | false =>
    have e : slOf false d = .vl d := by cases d <;> rfl
    rw [e]
    exact ⟨(R.keep k).setVl (RepF.rep r fun a z => R.domN z) i hi, fun a z => .inl (own_set (y := .vl _) (fun _ z => nomatch z) z)⟩
/-- more is protected: what was not there -/
theorem Rel.prot {Z : Addr → Prop} (R : Rel c H N0 σ s) (k : Keep c H H1) (hz : ∀ a, Z a → H a = none) (h1 : ∀ a, Z a → H1 a ≠ none) : Rel c H1 (fun a => N0 a ∨ Z a) σ s := by
  have sub : ∀ a, Nof (fun a => N0 a ∨ Z a) σ s a → Nof N0 σ s a ∨ H a = none := by
    rintro a ((z | z) | z)
    · exact .inl (.inl z)
    · exact .inr (hz a z)
    · exact .inl (.inr z)
  have bet : ∀ x, c.β = some x → Nof (fun a => N0 a ∨ Z a) σ s x := fun x z => .inl (.inl (R.bet x z))
  refine ⟨R.len, fun j e h => ?_, fun j e h => ?_, R.dis, fun a z => ?_, fun x z => .inl (R.bet x z)⟩
  · obtain ⟨w, h2, h3⟩ := R.vl j e h
    exact ⟨w, h2, (Rep.anti sub _ _ h3).keep k bet⟩
  · obtain ⟨a, h2, h3, h4⟩ := R.ow j e h
    refine ⟨a, h2, ?_, fun z => z.elim h4 fun z => R.domN (.inr ⟨j, e, h, h2⟩) (hz a z)⟩
    cases e with
    | lst es =>
      obtain ⟨ys, h5, h6⟩ := h3
      exact ⟨ys, k.kp a _ (fun z => h4 (R.bet a z)) h5, (RepL.anti sub _ _ h6).keep k bet⟩
    | _ => exact h3.elim
  · exact z.elim (fun z e => R.dom a z (k.fr a e)) (h1 a)
theorem RepF.sub {N' : Addr → Prop} {d : Mi.D} {v : V} (r : RepF c H H1 N d v) (h : ∀ a, N' a → N a) : RepF c H H1 N' d v := by
  cases d with
  | lst ds =>
    obtain ⟨a, xs, e, n, h1, q⟩ := r
    exact ⟨a, xs, e, n, h1, q.sub fun b z => z.imp (h b) id⟩
  | _ => exact Rep.sub (N := N) r h
theorem rd_par {i j : Nat} {oi oj : Bool} {e f : ME} (h : rdS c N0 W (exS cf (.par i j oi oj e f)) D σ H) : tPar i j (tCons (rd c (pF c) W (evE cf e)) (tCons (rd c (pF c) W (evE cf f)) tNil)) D σ H := by
  obtain ⟨s, b, R, B, h⟩ := h
  refine ⟨N0, s, b, R, B, Out.mono (OutS.bd (Rp := fun H' => pF c H H' N0 (Nof N0 σ s)) h) fun v H1 ⟨x, b1, k1, B1, r1, h1⟩ => ?_⟩
  -- the first slot, if it can be stored
  have hi : i < s.length ∨ ¬ i < s.length := Classical.em _
  rcases hi with hi | hi
  · obtain ⟨RA, ownA⟩ := R.setSl (o := oi) k1 r1 i hi
    have RP := R.prot (Z := fun a => IsOwn (σ.set i (some v)) (s.set i (slOf oi x)) a ∧ H a = none) k1 (fun a z => z.2) fun a z => RA.domN (.inr z.1)
    refine ⟨_, s, b1, RP, B1, Out.mono (OutS.bdK (Rp := fun H' => pF c H1 H' (fun a => N0 a ∨ (IsOwn (σ.set i (some v)) (s.set i (slOf oi x)) a ∧ H a = none)) (Nof (fun a => N0 a ∨ (IsOwn (σ.set i (some v)) (s.set i (slOf oi x)) a ∧ H a = none)) σ s)) h1 k1) fun w H2 ⟨y, b2, k2, B2, r2, h2⟩ => ?_⟩
    obtain ⟨s1, e1, h3⟩ := h2.ofObd
    obtain ⟨s2, e2, h4⟩ := h3.ofObd
    have e1 : (if i < s.length then some (s.set i (slOf oi x)) else none) = some s1 := e1
    rw [if_pos hi] at e1
    cases e1
    have e2 : (if j < (s.set i (slOf oi x)).length then some ((s.set i (slOf oi x)).set j (slOf oj y)) else none) = some s2 := e2
    split at e2
    · rename_i hj
      cases e2
      have r2' : RepF c H1 H2 (Nof N0 (σ.set i (some v)) (s.set i (slOf oi x))) y w := RepF.sub r2 fun a z => by
        rcases z with z | z
        · exact .inl (.inl z)
        · exact (ownA a z).elim .inr fun q => .inl (.inr ⟨z, q⟩)
      obtain ⟨RB, ownB⟩ := RA.setSl (o := oj) k2 r2' j hj
      refine ⟨v, w, rfl, h4 _ H2 RB B2 ⟨(k1.trans k2).frk, fun a z => ?_⟩⟩
      rcases ownB a z with z | z
      · exact ownA a z
      · exact .inr (k1.fr a z)
    · cases e2
  · refine ⟨N0, s, b1, R.keep k1, B1, Out.mono (OutS.bd (Rp := fun H' => pF c H1 H' N0 (Nof N0 σ s)) (OutS.later h1 k1.frl)) fun w H2 ⟨y, b2, k2, B2, r2, h2⟩ => ?_⟩
    obtain ⟨s1, e1, h3⟩ := h2.ofObd
    have e1 : (if i < s.length then some (s.set i (slOf oi x)) else none) = some s1 := e1
    rw [if_neg hi] at e1
    cases e1
theorem rd_bset {i : Nat} {x e : ME} (h : rdS c N0 W (exS cf (.bset i x e)) D σ H) : tAsg (rd c (pE c) W (evE cf e)) (gSub (tVar i) (rd c (pW c) W (evE cf x)) rSetL) D σ H := by
  obtain ⟨s, b, R, B, h⟩ := h
  refine ⟨N0, s, b, R, B, Out.mono (OutS.bd (Rp := fun H' => pE c H H' N0 (Nof N0 σ s)) h) fun v H1 ⟨d, b1, k1, B1, r1, h1⟩ => ?_⟩
  cases ei : s[i]? with
  | none => rw [ei] at h1; exact h1.elim
  | some z =>
    rw [ei] at h1
    cases z with
    | no => exact h1.elim
    | ow _ => exact h1.elim
    | vl bx =>
      cases bx <;> first | exact h1.elim | skip
      obtain ⟨w, hσ, p, hp, rfl⟩ := R.vl i _ ei
      refine ⟨.ref p, hσ, N0, s, b1, R.keep k1, B1, Out.mono (OutS.bdK (Rp := fun H' => pW c H1 H' N0 (Nof N0 σ s)) h1 k1) fun y H2 ⟨kd, b2, k2, B2, r2, h2⟩ => ?_⟩
      obtain ⟨kk, ek, h3⟩ := h2.ofObd
      obtain ⟨vv, ev, h4⟩ := h3.ofObd
      cases d <;> first | (cases ev; done) | skip
      cases ev
      cases kd <;> first | (cases ek; done) | skip
      cases ek
      rw [show v = V.int vv from r1, show y = V.int kk from r2]
      have R2 := (R.keep k1).keep k2
      cases b2 with
      | none => exact h4.elim
      | some q =>
        obtain ⟨i0, j0, l0⟩ := q
        obtain ⟨p', e2, h5⟩ := id B2
        rw [hp] at e2
        cases e2
        have fin : ∀ ys, (∀ σ' H', Rel c H' N0 σ' s → (∃ a, c.β = some a ∧ H' a = some (.lst ys)) → Fr c H σ s H' σ' s → D.nx σ' H') → D.nx σ (upd H2 p (.lst ys)) := fun ys hq => by
          have K3 : Keep c H2 (upd H2 p (.lst ys)) := ⟨fun a o hb h => by rw [upd_ne (fun z => hb (by rw [z]; exact hp))]; exact h, fun a h => by
            by_cases ea : a = p
            · rw [ea, upd_same] at h; cases h
            · rwa [upd_ne ea] at h⟩
          exact hq σ _ (R2.keep K3) ⟨p, hp, upd_same⟩ ((k1.trans k2).trans K3).frl
        have h4 : OutS c N0 W D σ H s (match L2.ixN 3 kk with
          | some 0 => .ok (.nx, s) (some (vv, j0, l0))
          | some 1 => .ok (.nx, s) (some (i0, vv, l0))
          | some 2 => .ok (.nx, s) (some (i0, j0, vv))
          | _ => .no) := h4
        cases ej : L2.ixN 3 kk with
        | none => rw [ej] at h4; exact h4.elim
        | some j =>
          rw [ej] at h4
          refine ⟨p, _, kk, j, rfl, rfl, h5, ej, ?_⟩
          rcases j with _ | _ | _ | j
          · exact fin _ h4
          · exact fin _ h4
          · exact fin _ h4
          · exact h4.elim
theorem rd_seti {i : Nat} {x e : ME} (h : rdS c N0 W (exS cf (.seti i x e)) D σ H) : tAsg (rd c (pE c) W (evE cf e)) (gSub (tVar i) (rd c (pW c) W (evE cf x)) rSetL) D σ H := by
  obtain ⟨s, b, R, B, h⟩ := h
  refine ⟨N0, s, b, R, B, Out.mono (OutS.bd (Rp := fun H' => pE c H H' N0 (Nof N0 σ s)) h) fun v H1 ⟨d, b1, k1, B1, r1, h1⟩ => ?_⟩
  cases ei : s[i]? with
  | none => rw [ei] at h1; exact h1.elim
  | some z =>
    rw [ei] at h1
    cases z with
    | no => exact h1.elim
    | vl _ => exact h1.elim
    | ow l =>
      cases l <;> first | exact h1.elim | skip
      rename_i ds
      obtain ⟨a, hσ, ⟨xs, hx, q⟩, n0⟩ := R.ow i _ ei
      refine ⟨.ref a, hσ, N0, s, b1, R.keep k1, B1, Out.mono (OutS.bdK (Rp := fun H' => pW c H1 H' N0 (Nof N0 σ s)) h1 k1) fun y H2 ⟨kd, b2, k2, B2, r2, h2⟩ => ?_⟩
      obtain ⟨kk, ek, h3⟩ := h2.ofObd
      obtain ⟨j, ej, h4⟩ := h3.ofObd
      cases kd <;> first | (cases ek; done) | skip
      cases ek
      rw [show y = V.int kk from r2]
      have k12 := k1.trans k2
      have R2 := R.keep k12
      have ba : c.β ≠ some a := fun z => n0 (R.bet a z)
      have ha2 : H2 a = some (.lst xs) := k12.kp a _ ba hx
      have q2 := q.keep k12 R.betN
      obtain ⟨R3, own⟩ := R2.write ei hσ (RepL.set j q2 (r1.keep k2 R.betN))
      refine ⟨a, xs, kk, j, rfl, rfl, ha2, by rw [← q.length]; exact ej, h4 σ _ R3 ?_ ⟨⟨fun y o hb hn e => ?_, fun y e => ?_⟩, fun y z => .inl (own y z)⟩⟩
      · cases b2 with
        | none => trivial
        | some p =>
          obtain ⟨i1, i2, i3⟩ := p
          obtain ⟨y, z1, z2⟩ := B2
          exact ⟨y, z1, by rw [upd_ne (fun z => ba (by rw [← z]; exact z1))]; exact z2⟩
      · rw [upd_ne (fun z => hn (by rw [z]; exact ⟨i, _, ei, hσ⟩))]
        exact k12.kp y o hb e
      · by_cases ey : y = a
        · rw [ey, upd_same] at e; cases e
        · rw [upd_ne ey] at e
          exact k12.fr y e
end
end Mi
namespace Mi
open PySem L2
def isFr0 : ME → Bool
  | .lst _ => true
  | .comp _ _ _ _ _ => true
  | .op .add _ _ => true
  | .op .mul _ _ => true
  | .sl _ _ _ => true
  | .bi .list _ => true
  | .bi .sortSet _ => true
  | .bi .sort _ => true
  | _ => false
def isFr (e : ME) : Bool := isFr0 e || (match e with
  | .orE (.cons false a (.cons false b .nil)) => isFr0 a && isFr0 b
  | _ => false)
def isNameE : Expr → Bool
  | .Name _ _ => true
  | _ => false
def isLc : Expr → Bool
  | .ListComp _ _ _ _ => true
  | .SetComp _ _ _ _ => true
  | .DictComp _ _ _ _ _ => true
  | _ => false
/-- a tuple of targets is not stored from the right -/
def ckSw : Expr → Expr → Bool
  | .Tuple _ _ _, .Tuple vs _ _ => vs.all (foldedForSure 8)
  | .List _ _, _ => false
  | _, _ => true
def isSlotT : MT → Bool
  | .slot _ => true
  | _ => false
mutual
def ckS (k : Ck) : MS → Stmt → Bool
  | .asg own t e, .Assign [tg] x _ => ckE k false e x && !isStar tg && ckT k t tg && ckSw tg x && (!own || (isFr e && isSlotT t))
  | .par i j oi oj a b, .Assign [.Tuple [.Name x px, .Name y py] _ _] (.Tuple [u, v] _ _) _ => decide (k.N[i]? = some x) && decide (k.N[j]? = some y) && decide (i ≠ j) && decide (x ≠ y) && decide (k.sc.names.lookup x = some .local) && decide (k.sc.names.lookup y = some .local) &&
      ckE k false a u && ckE k false b v && isFr a && isFr b && !isStar u && !isStar v && (px.line == py.line) && !(foldedForSure 8 u && foldedForSure 8 v) && !(constantsAlone 8 u && constantsAlone 8 v)
  | .app i e, .Expr (.Call (.Attribute (.Name x _) m ap) [y] [] cp) _ => decide (m = ("append" : Str)) && decide (k.N[i]? = some x) && k.vis x && ckE k false e y && !isStar y && (ap.endLine == cp.line)
  | .bset i a e, .Assign [.Subscript (.Name y _) z _] x _ => decide (k.N[i]? = some y) && k.vis y && ckE k true a z && ckE k false e x && !isSlice z
  | .seti i a e, .Assign [.Subscript (.Name y _) z _] x _ => decide (k.N[i]? = some y) && k.vis y && ckE k true a z && ckE k false e x && !isSlice z
  | .ret e, .Return (some x) _ => ckE k false e x
  | .retN, .Return none _ => true
  | .ite t a b, .If c p q _ => ckE k true t c && ckSs k a p && ckSs k b q
  | .for_ t r _ b, .For tg it body [] _ => ckSrc k false r it tg && !isSetE it && ckT k t tg && ckSs k b body
  | .expr e, .Expr x _ => ckE k false e x && !isLc x
  | .pass, .Pass _ => true
  | .pass, .Expr (.Constant (.str _) _ _) _ => true
  | .stuck, _ => true
  | .brk, .Break _ => true
  | .cont, .Continue _ => true
  | _, _ => false
def ckSs (k : Ck) : MSs → List Stmt → Bool
  | .nil, ss => ss.isEmpty
  | .cons s r, ss => match s with
    | .share _ => ckSs k r ss
    | s => match ss with
      | [] => false
      | x :: xs => ckS k s x && ckSs k r xs
end
section
variable {X : Cx} {c : Cc} {cf : Cfg} {k : Ck} {W : WX} {N0 : Addr → Prop} {x : Expr}
structure GS (X : Cx) (c : Cc) (cf : Cfg) (k : Ck) (W : WX) : Prop extends GX X c cf k W where
  po : PassesOwn (model X.prog X.w) X.A X.env X.xe
  blk : X.env.blockKind = .function
theorem RepW.e' {H : Hp} {N : Addr → Prop} {d : Mi.D} {v : V} (r : Rep c H N d v) : RepW c H N N d v := by
  cases d <;> exact r
theorem sF0 {e : ME} (G : GX X c cf k W) (hf : isFr0 e = true) (h : ckE k false e x = true) : PE X x (rd c (pF c) W (evE cf e)) := by
  cases e <;> first | (cases hf; done) | skip
  · exact (nd_lst G (sEs _ X k W G) h).f
  · exact (nd_op G (sE _ X k W G) (sE _ X k W G) h).f
  · exact (nd_sl G (sE _ X k W G) (sO _ X k W G) (sO _ X k W G) h).f
  · exact (nd_bi G (sE _ X k W G) h).f
  · exact (nd_comp G (sSrc _ X k W G true) (sE _) (sTs' _) h).1.f
/-- or of two new ones -/
theorem rd_orF {a b : ME} {Q : VK} {σ : L2.St} {H : Hp} (h : rd c (pF c) W (evE cf (.orE (.cons false a (.cons false b .nil)))) σ H Q) :
    tOrT c.K (rd c (pF c) W (evE cf a)) (rd c (pF c) W (evE cf b)) σ H Q := by
  obtain ⟨N0, s, bx, R, B, h⟩ := h
  refine ⟨N0, s, bx, R, B, Out.mono (Out.bd0 (Rp := fun H' => pF c H H' N0 (Nof N0 σ s)) h) fun vx H1 ⟨x, b1, k1, B1, r1, h1⟩ => ?_⟩
  have R1 := R.keep k1
  have rw1 : RepW c H1 (Nof N0 σ s) (Nof N0 σ s) x vx := RepW.e' (RepF.rep r1 fun a z => R.domN z)
  obtain ⟨t, e, h2⟩ := h1.ofObd
  refine ⟨t, tru_of rw1 e, ?_⟩
  cases t with
  | true => exact h2 _ _ k1 B1 r1
  | false =>
    have h3 := Out.later h2 k1
    exact ⟨N0, s, b1, R1, B1, h3.rp fun H' d v kk q => q.base k1⟩
theorem sF (e : ME) {x : Expr} (G : GX X c cf k W) (hf : isFr e = true) (h : ckE k false e x = true) : PE X x (rd c (pF c) W (evE cf e)) := by
  by_cases h0 : isFr0 e = true
  · exact sF0 G h0 h
  have inv : ∃ a b, e = .orE (.cons false a (.cons false b .nil)) ∧ isFr0 a = true ∧ isFr0 b = true := by
    unfold isFr at hf
    rw [Bool.or_eq_true] at hf
    rcases hf with hf | hf
    · exact absurd hf h0
    · split at hf
      · exact ⟨_, _, rfl, (and2 hf).1, (and2 hf).2⟩
      · cases hf
  obtain ⟨a, b, rfl, f1, f2⟩ := inv
  cases x <;> first | (cases h; done) | skip
  rename_i o xs p
  cases o <;> first | (cases h; done) | skip
  obtain ⟨h1, h2⟩ := and2 (show (ckBs k false (.cons false a (.cons false b .nil)) xs && !xs.isEmpty) = true from h)
  rcases xs with _ | ⟨x1, _ | ⟨x2, _ | ⟨_, _⟩⟩⟩
  · cases h1
  · obtain ⟨_, h3⟩ := and2 (show (ckE k false a x1 && ckBs k false (.cons false b .nil) []) = true from h1)
    cases h3
  · obtain ⟨h3, h4⟩ := and2 (show (ckE k false a x1 && (ckE k false b x2 && ckBs k false .nil [])) = true from h1)
    obtain ⟨h4, _⟩ := and2 h4
    exact PE.imp (pe_orT (sF0 G f1 h3) (pe_one (sF0 G f2 h4))) fun σ H Q h => by
      have h := rd_orF h
      rw [G.K] at h
      exact h
  · obtain ⟨_, h4⟩ := and2 (show (ckE k false a x1 && (ckE k false b x2 && ckBs k false .nil _)) = true from h1)
    obtain ⟨_, h4⟩ := and2 h4
    cases h4
theorem sw_name {y : Str} {py : Pos} {n : Nat} {env : PySem.Env} (h : isLc x = false) : swapsWith x (some (.Name y py)) n env = pure false := by
  cases x <;> first | rfl | cases h
theorem sw_tup {es : List Expr} {j : Nat} {py : Pos} {n : Nat} {env : PySem.Env} : swapsWith x (some (.Tuple es j py)) n env = pure false := by
  cases x <;> rfl
theorem ss_name {y : Str} {py : Pos} {env : PySem.Env} : swappedStores [.Name y py] x env = pure none := by
  cases x <;> rfl
theorem ss_tup {ts : List Expr} {j : Nat} {py : Pos} {env : PySem.Env} (h : ckSw (.Tuple ts j py) x = true) : swappedStores [.Tuple ts j py] x env = pure none := by
  cases x <;> first | rfl | skip
  rename_i vs j2 p2
  have h : vs.all (foldedForSure 8) = true := h
  unfold swappedStores
  simp only [h, if_true]
  repeat' split
  all_goals rfl
theorem asg1 {tg : Expr} {env : PySem.Env} (h : isStar tg = false) : (assignEach [tg] env).map (·.2) = [assign tg env] := by
  rw [assign_ns h]
  rfl
abbrev St_ (X : Cx) (c : Cc) (cf : Cfg) (N0 : Addr → Prop) (W : WX) (m : MS) (st : Stmt) : Prop := PS X st (rdS c N0 W (exS cf m))
theorem sole {tg : Expr} {n : Nat} {env : PySem.Env} : swapsWithSole [tg] x n env = swapsWith x (some tg) n env := rfl
/-- a name stored: what is new -/
theorem st_slot {i : Nat} {e : ME} {y : Str} {py pos : Pos} {t' : TS} (G : GS X c cf k W) (hf : PE X x (rd c (pF c) W (evE cf e))) (hlc : isLc x = false) (hN : k.N[i]? = some y) (hl : k.loc y = true)
    (h : ∀ D σ H, t' D σ H → tAsg (rd c (pF c) W (evE cf e)) (gName i) D σ H) : PS X (.Assign [.Name y py] x pos) t' := by
  have hl' : L2.Loc X.env.scope y ∧ (X.fn y = true ∨ X.env.scope.names.lookup y = some .local) := by
    unfold Ck.loc at hl
    unfold L2.Loc
    rw [G.sc]
    split at hl
    · rename_i e; exact ⟨.inl e, .inr e⟩
    · rename_i e; exact ⟨.inr e, .inl (G.fn y hl)⟩
    · cases hl
  exact PS.imp (ps_set (i := i) G.nd (by rw [G.N]; exact hN) hl'.1 hf (sw_name hlc) hl'.2) h
theorem st_lc {i : Nat} {e : ME} {t : MT} {r : MSrc} {ifs : MEs} {own : List Nat} {y : Str} {py pos : Pos} {t' : TS} (G : GS X c cf k W) (h1 : ckE k false (.comp e t r ifs own) x = true) (hN : k.N[i]? = some y) (hl : k.loc y = true)
    (h : ∀ D σ H, t' D σ H → tAsg (rd c (pF c) W (evE cf (.comp e t r ifs own))) (gName i) D σ H) : PS X (.Assign [.Name y py] x pos) t' := by
  have hl' : L2.Loc X.env.scope y ∧ (X.fn y = true ∨ X.env.scope.names.lookup y = some .local) := by
    unfold Ck.loc at hl
    unfold L2.Loc
    rw [G.sc]
    split at hl
    · rename_i e; exact ⟨.inl e, .inr e⟩
    · rename_i e; exact ⟨.inr e, .inl (G.fn y hl)⟩
    · cases hl
  obtain ⟨z, elt, tg, iter, cs, scope, lp, rfl, hsw⟩ := nd_comp G.toGX (sSrc r X k W G.toGX true) (sE e) (sTs' ifs) h1
  have e0 : swapsWith (.ListComp elt [⟨tg, iter, cs, 0⟩] scope lp) (some (.Name y py)) pos.line X.env = pure (X.env.blockKind == .function && X.env.kindOf y == some .local && py.line == lp.line && !(scope.names.any fun (n, k) => n == y && (k == .local || k == .cell))) := rfl
  cases eb : (X.env.blockKind == .function && X.env.kindOf y == some .local && py.line == lp.line && !(scope.names.any fun (n, k) => n == y && (k == .local || k == .cell))) with
  | false =>
    rw [eb] at e0
    exact PS.imp (ps_set (i := i) G.nd (by rw [G.N]; exact hN) hl'.1 z.f e0 hl'.2) h
  | true =>
    have eb2 := eb
    rw [eb] at e0
    obtain ⟨eb, _⟩ := and2 eb
    obtain ⟨eb, _⟩ := and2 eb
    obtain ⟨_, eb⟩ := and2 eb
    have hloc : X.env.scope.names.lookup y = some .local := by
      have eb : (X.env.scope.names.lookup y == some .local) = true := eb
      cases q : X.env.scope.names.lookup y with
      | none => rw [q] at eb; cases eb
      | some kd => rw [q] at eb; cases kd <;> first | rfl | cases eb
    exact PS.imp (hsw i y py pos (by rw [G.N]; exact hN) hloc e0) h
theorem lc_comp {w : Bool} {e : ME} (h : ckE k w e x = true) (hc : ¬ ∃ e1 t1 r1 i1 o1, e = .comp e1 t1 r1 i1 o1) : isLc x = false := by
  cases x <;> first | rfl | skip
  all_goals
    exfalso
    cases e <;> first | (cases h; done) | (exact hc ⟨_, _, _, _, _, rfl⟩) | skip
    · rename_i a o ts
      cases o <;> (rcases ts with _ | ⟨_, _ | ⟨_, _⟩⟩ <;> cases h)
    · rename_i f es
      rcases es with _ | ⟨st, e, _ | ⟨_, _, _⟩⟩ <;> first | (cases h; done) | (cases st <;> cases h)
    · rename_i f e
      cases e <;> cases h
theorem st_asg {own : Bool} {t : MT} {e : ME} {st : Stmt} (G : GS X c cf k W) (h : ckS k (.asg own t e) st = true) : St_ X c cf N0 W (.asg own t e) st := by
  cases st <;> first | (cases h; done) | skip
  rename_i tgs x pos
  rcases tgs with _ | ⟨tg, _ | ⟨_, _⟩⟩ <;> first | (cases h; done) | skip
  obtain ⟨h, h5⟩ := and2 (show (ckE k false e x && !isStar tg && ckT k t tg && ckSw tg x && (!own || (isFr e && isSlotT t))) = true from h)
  obtain ⟨h, h4⟩ := and2 h
  obtain ⟨h, h3⟩ := and2 h
  obtain ⟨h1, h2⟩ := and2 h
  cases t with
  | slot i =>
    have hn : ∃ y py, tg = .Name y py := by cases tg <;> first | exact ⟨_, _, rfl⟩ | cases h3
    obtain ⟨y, py, rfl⟩ := hn
    obtain ⟨h6, h7⟩ := and2 (show (decide (k.N[i]? = some y) && k.loc y) = true from h3)
    have h6 := of_decide_eq_true h6
    cases own with
    | true =>
      obtain ⟨h8, _⟩ := and2 (show (isFr e && true) = true from h5)
      by_cases hc : ∃ e1 t1 r1 i1 o1, e = .comp e1 t1 r1 i1 o1
      · obtain ⟨e1, t1, r1, i1, o1, rfl⟩ := hc
        exact st_lc G h1 h6 h7 fun D σ H h => rd_asgO h
      · have hlc : isLc x = false := lc_comp h1 hc
        exact st_slot G (sF e G.toGX h8 h1) hlc h6 h7 fun D σ H h => rd_asgO h
    | false =>
      by_cases hc : ∃ e1 t1 r1 i1 o1, e = .comp e1 t1 r1 i1 o1
      · obtain ⟨e1, t1, r1, i1, o1, rfl⟩ := hc
        exact st_lc G h1 h6 h7 fun D σ H h => rd_asgC h
      · have hlc : isLc x = false := lc_comp h1 hc
        exact PS.imp (ps_asg (PE.v0 (sE e X k W G.toGX false x h1).v) (sT G.toGX (.slot i) _ h3) (sw_name (n := pos.line) hlc) ss_name (asg1 rfl)) fun D σ H h => rd_asg h
  | tup ts =>
    cases own with
    | true =>
      obtain ⟨_, h8⟩ := and2 (show (isFr e && false) = true from h5)
      cases h8
    | false =>
      have hn : ∃ es j p, tg = .Tuple es j p := by cases tg <;> first | exact ⟨_, _, _, rfl⟩ | cases h3
      obtain ⟨es, j, p, rfl⟩ := hn
      exact PS.imp (ps_asg (PE.v0 (sE e X k W G.toGX false x h1).v) (sT G.toGX (.tup ts) _ h3) (sw_tup (x := x) (es := es) (j := j) (py := p) (n := pos.line) (env := X.env)) (ss_tup h4) (asg1 rfl)) fun D σ H h => rd_asg h
theorem not_star {u : Expr} (h : isStar u = false) : (match u with | .Starred .. => true | _ => false) = false := by
  cases u <;> first | rfl | cases h
theorem ss_par {x y : Str} {p1 p2 pt pt2 : Pos} {kt k2} {u v : Expr} {env : PySem.Env} (hb : env.blockKind = .function) (hx : env.scope.names.lookup x = some .local) (hy : env.scope.names.lookup y = some .local) (hxy : x ≠ y)
    (hu : isStar u = false) (hv : isStar v = false) (hl : p1.line = p2.line) (hf : (foldedForSure 8 u && foldedForSure 8 v) = false) (hc : (constantsAlone 8 u && constantsAlone 8 v) = false) :
    swappedStores [.Tuple [.Name x p1, .Name y p2] kt pt] (.Tuple [u, v] k2 pt2) env = pure (some [x, y]) := by
  have ex : (env.kindOf x == some .local) = true := by
    show (env.scope.names.lookup x == some .local) = true
    rw [hx]; rfl
  have ey : (env.kindOf y == some .local) = true := by
    show (env.scope.names.lookup y == some .local) = true
    rw [hy]; rfl
  have eb : (env.blockKind != .function) = false := by rw [hb]; rfl
  have hne : (x == y) = false := beq_eq_false_iff_ne.mpr hxy
  have hne2 : (y == x) = false := beq_eq_false_iff_ne.mpr (Ne.symm hxy)
  have lx : (Expr.Name x p1).pos = p1 := rfl
  unfold swappedStores
  simp [ex, ey, eb, hl, hf, hc, lx, List.eraseDups_cons, hne, hne2, List.filterMap_cons, hx, hy]
  rw [if_neg (by
    rintro (q | q)
    · revert q; cases u <;> first | (intro q; cases q; done) | cases hu
    · revert q; cases v <;> first | (intro q; cases q; done) | cases hv)]
  have kx : env.kindOf x = some NameKind.local := hx
  have ky : env.kindOf y = some NameKind.local := hy
  rw [if_pos kx, if_pos ky]
  have ed : ([x, y] : List Str).eraseDups = [x, y] := by
    simp [List.eraseDups_cons, hne, hne2]
  show (if ¬ ([x, y] : List Str).length = 2 ∨ ¬ ([x, y] : List Str).eraseDups.length = ([x, y] : List Str).length then pure none else pure (some [x, y])) = _
  rw [ed]
  rfl
theorem inv_par {i j : Nat} {oi oj : Bool} {a b : ME} {st : Stmt} (h : ckS k (.par i j oi oj a b) st = true) : ∃ y1 p1 y2 p2 kt pt u v k2 pt2 pos, st = .Assign [.Tuple [.Name y1 p1, .Name y2 p2] kt pt] (.Tuple [u, v] k2 pt2) pos := by
  revert h
  unfold ckS
  split <;> first | (intro _; exact ⟨_, _, _, _, _, _, _, _, _, _, _, rfl⟩) | (intro h; simp_all)
theorem st_par {i j : Nat} {oi oj : Bool} {a b : ME} {st : Stmt} (G : GS X c cf k W) (h : ckS k (.par i j oi oj a b) st = true) : St_ X c cf N0 W (.par i j oi oj a b) st := by
  obtain ⟨y1, p1, y2, p2, kt, pt, u, v, k2, pt2, pos, rfl⟩ := inv_par h
  obtain ⟨h, h15⟩ := and2 (show (decide (k.N[i]? = some y1) && decide (k.N[j]? = some y2) && decide (i ≠ j) && decide (y1 ≠ y2) && decide (k.sc.names.lookup y1 = some .local) && decide (k.sc.names.lookup y2 = some .local) &&
    ckE k false a u && ckE k false b v && isFr a && isFr b && !isStar u && !isStar v && (p1.line == p2.line) && !(foldedForSure 8 u && foldedForSure 8 v) && !(constantsAlone 8 u && constantsAlone 8 v)) = true from h)
  obtain ⟨h, h14⟩ := and2 h
  obtain ⟨h, h13⟩ := and2 h
  obtain ⟨h, h12⟩ := and2 h
  obtain ⟨h, h11⟩ := and2 h
  obtain ⟨h, h10⟩ := and2 h
  obtain ⟨h, h9⟩ := and2 h
  obtain ⟨h, h8⟩ := and2 h
  obtain ⟨h, h7⟩ := and2 h
  obtain ⟨h, h6⟩ := and2 h
  obtain ⟨h, h5⟩ := and2 h
  obtain ⟨h, h4⟩ := and2 h
  obtain ⟨h, h3⟩ := and2 h
  obtain ⟨h1, h2⟩ := and2 h
  have h1 := of_decide_eq_true h1
  have h2 := of_decide_eq_true h2
  have h3 := of_decide_eq_true h3
  have h4 := of_decide_eq_true h4
  have h5 := of_decide_eq_true h5
  have h6 := of_decide_eq_true h6
  rw [← G.sc] at h5 h6
  rw [← G.N] at h1 h2
  have hA : PA X [u, v] (tCons (rd c (pF c) W (evE cf a)) (tCons (rd c (pF c) W (evE cf b)) tNil)) := pa_cons (sF a G.toGX h9 h7) (pa_cons (sF b G.toGX h10 h8) pa_nil (star_ns (not1 h12))) (star_ns (not1 h11))
  refine PS.imp (ps_par (kt := kt) (k2 := k2) G.calm G.nd h1 h2 h3 h5 h6 hA ?_ (sw_tup (x := .Tuple [u, v] k2 pt2) (es := [.Name y1 p1, .Name y2 p2]) (j := kt) (py := pt) (n := pos.line) (env := X.env))) fun D σ H h => rd_par h
  exact ss_par (x := y1) (y := y2) G.blk h5 h6 h4 (not1 h11) (not1 h12) (eq_of_beq h13) (not1 h14) (not1 h15)
theorem st_app {i : Nat} {e : ME} {st : Stmt} (G : GS X c cf k W) (h : ckS k (.app i e) st = true) : St_ X c cf N0 W (.app i e) st := by
  cases st <;> first | (cases h; done) | skip
  rename_i x pos
  cases x <;> first | (cases h; done) | skip
  rename_i f es ks cp
  cases f <;> first | (cases h; done) | skip
  rename_i o m ap
  cases o <;> first | (cases h; done) | skip
  rename_i y yp
  rcases es with _ | ⟨z, _ | ⟨_, _⟩⟩ <;> first | (cases h; done) | skip
  cases ks <;> first | (cases h; done) | skip
  obtain ⟨h, h6⟩ := and2 (show (decide (m = ("append" : Str)) && decide (k.N[i]? = some y) && k.vis y && ckE k false e z && !isStar z && (ap.endLine == cp.line)) = true from h)
  obtain ⟨h, h5⟩ := and2 h
  obtain ⟨h, h4⟩ := and2 h
  obtain ⟨h, h3⟩ := and2 h
  obtain ⟨h1, h2⟩ := and2 h
  have h1 := of_decide_eq_true h1
  subst h1
  have h2 := of_decide_eq_true h2
  obtain ⟨hv, hp⟩ := vis_of G.toGX h3
  have e1 := star_ns (env := X.env) (r := []) (not1 h5)
  have p := pe_bm (X := X) (cpos := cp) (apos := ap) PySem.F.plainAttrs_list PySem.F.slot_list_append PySem.F.type_list_append mt_append (pe_var (i := i) (pos := yp) (by rw [G.N]; exact h2) hv (plain_db hp) (plain_cd hp)) (pa_cons (PE.v0 (sE e X k W G.toGX false z h4).v) pa_nil e1) rfl (by rw [e1]; rfl) h6 e1 rfl
  refine PS.imp (ps_expr p rfl) fun D σ H h => ?_
  have h := rd_app h
  rw [G.K] at h
  exact h
theorem sw_sub {o i : Expr} {py : Pos} {n : Nat} {env : PySem.Env} : swapsWith x (some (.Subscript o i py)) n env = pure false := by
  cases x <;> rfl
theorem ss_sub {o i : Expr} {py : Pos} {env : PySem.Env} : swappedStores [.Subscript o i py] x env = pure none := by
  cases x <;> rfl
theorem st_put {i : Nat} {a e : ME} {y : Str} {p1 p2 pos : Pos} {z : Expr} {t' : TS} (G : GS X c cf k W) (h : (decide (k.N[i]? = some y) && k.vis y && ckE k true a z && ckE k false e x && !isSlice z) = true)
    (hr : ∀ D σ H, t' D σ H → tAsg (rd c (pE c) W (evE cf e)) (gSub (tVar i) (rd c (pW c) W (evE cf a)) rSetL) D σ H) : PS X (.Assign [.Subscript (.Name y p1) z p2] x pos) t' := by
  obtain ⟨h, h5⟩ := and2 h
  have h5 := not1 h5
  obtain ⟨h, h4⟩ := and2 h
  obtain ⟨h, h3⟩ := and2 h
  obtain ⟨h1, h2⟩ := and2 h
  obtain ⟨hv, hp⟩ := vis_of G.toGX h2
  have g : PG X (.Subscript (.Name y p1) z p2) (gSub (tVar i) (rd c (pW c) W (evE cf a)) rSetL) := pg_sub (pe_var (i := i) (by rw [G.N]; exact of_decide_eq_true h1) hv (plain_db hp) (plain_cd hp)) (PE.v1 (sE a X k W G.toGX true z h3).v) set_list (fun v => by clear hr h3; cases z <;> first | rfl | cases h5)
  exact PS.imp (ps_asg (PE.v0 (sE e X k W G.toGX false x h4).v) g (sw_sub (x := x) (o := .Name y p1) (i := z) (py := p2) (n := pos.line) (env := X.env)) ss_sub (asg1 rfl)) hr
mutual
theorem sS (N0 : Addr → Prop) (G : GS X c cf k W) : ∀ (m : MS) (st : Stmt), ckS k m st = true → St_ X c cf N0 W m st
  | .asg own t e, st, h => st_asg G h
  | .par i j oi oj a b, st, h => st_par G h
  | .app i e, st, h => st_app G h
  | .aug o i e, st, h => by cases st <;> cases h
  | .seti i a e, st, h => by
    cases st <;> first | (cases h; done) | skip
    rename_i tgs x pos
    rcases tgs with _ | ⟨tg, _ | ⟨_, _⟩⟩
    · cases h
    rotate_left
    · cases tg <;> first | (cases h; done) | skip
      rename_i o z p
      cases o <;> cases h
    · cases tg <;> first | (cases h; done) | skip
      rename_i o z p
      cases o <;> first | (cases h; done) | skip
      exact st_put G h fun D σ H h => rd_seti h
  | .bset i a e, st, h => by
    cases st <;> first | (cases h; done) | skip
    rename_i tgs x pos
    rcases tgs with _ | ⟨tg, _ | ⟨_, _⟩⟩
    · cases h
    rotate_left
    · cases tg <;> first | (cases h; done) | skip
      rename_i o z p
      cases o <;> cases h
    · cases tg <;> first | (cases h; done) | skip
      rename_i o z p
      cases o <;> first | (cases h; done) | skip
      exact st_put G h fun D σ H h => rd_bset h
  | .ext i e, st, h => by cases st <;> cases h
  | .share i, st, h => by cases st <;> cases h
  | .while_ t d b, st, h => by cases st <;> cases h
  | .ret e, st, h => by
    cases st <;> first | (cases h; done) | skip
    rename_i o p
    cases o <;> first | (cases h; done) | skip
    exact PS.imp (ps_ret (PE.v0 (sE e X k W G.toGX false _ h).v)) fun D σ H h => rd_ret h
  | .retN, st, h => by
    cases st <;> first | (cases h; done) | skip
    rename_i o p
    cases o <;> first | (cases h; done) | skip
    exact PS.imp ps_retN fun D σ H h => rd_retN h
  | .ite t a b, st, h => by
    cases st <;> first | (cases h; done) | skip
    rename_i x p q pos
    obtain ⟨h, h3⟩ := and2 (show (ckE k true t x && ckSs k a p && ckSs k b q) = true from h)
    obtain ⟨h1, h2⟩ := and2 h
    exact PS.imp (ps_if (sE t X k W G.toGX true x h1).t (sSs N0 G a p h2) (sSs N0 G b q h3)) fun D σ H h => rd_if h
  | .for_ t r dead b, st, h => by
    cases st <;> first | (cases h; done) | skip
    rename_i tg it body orelse pos
    cases orelse <;> first | (cases h; done) | skip
    obtain ⟨h, h4⟩ := and2 (show (ckSrc k false r it tg && !isSetE it && ckT k t tg && ckSs k b body) = true from h)
    obtain ⟨h, h3⟩ := and2 h
    obtain ⟨h1, h2⟩ := and2 h
    exact PS.imp (ps_for G.po G.calm (sSrc r X k W G.toGX false it tg h1) (sT G.toGX t tg h3) (sSs N0 G b body h4) (folded (not1 h2))) fun D σ H h => rd_for h
  | .expr e, st, h => by
    cases st <;> first | (cases h; done) | skip
    rename_i x p
    obtain ⟨h1, h2⟩ := and2 (show (ckE k false e x && !isLc x) = true from h)
    have hs : swapsWith x none p.line X.env = pure false := by
      have h2 := not1 h2
      clear h1 h
      cases x <;> first | rfl | cases h2
    exact PS.imp (ps_expr (PE.v0 (sE e X k W G.toGX false x h1).v) hs) fun D σ H h => rd_expr h
  | .pass, st, h => by
    cases st <;> first | (cases h; done) | skip
    · rename_i x p
      cases x <;> first | (cases h; done) | skip
      rename_i a j p2
      cases a <;> first | (cases h; done) | skip
      exact PS.imp ps_doc fun D σ H h => rd_pass h
    · exact PS.imp ps_pass fun D σ H h => rd_pass h
  | .stuck, st, h => ⟨fun pins s σ H D I ⟨_, _, _, _, z⟩ => False.elim z⟩
  | .brk, st, h => by
    cases st <;> first | (cases h; done) | skip
    exact PS.imp ps_break fun D σ H h => rd_brk h
  | .cont, st, h => by
    cases st <;> first | (cases h; done) | skip
    exact PS.imp ps_continue fun D σ H h => rd_cont h
theorem sSs (N0 : Addr → Prop) (G : GS X c cf k W) : ∀ (m : MSs) (ss : List Stmt), ckSs k m ss = true → PSs X ss (rdS c N0 W (exSs cf m))
  | .nil, ss, h => by
    cases ss with
    | nil => exact PSs.imp pss_nil fun D σ H h => rd_snil h
    | cons _ _ => cases h
  | .cons m r, ss, h => by
    by_cases hm : ∃ i, m = .share i
    · obtain ⟨i, rfl⟩ := hm
      exact PSs.imp (sSs N0 G r ss h) fun D σ H h => rd_share h
    · cases ss with
      | nil => exfalso; cases m <;> first | (cases h; done) | exact hm ⟨_, rfl⟩
      | cons x xs =>
        have h' : (ckS k m x && ckSs k r xs) = true := by
          cases m <;> first | exact h | exact absurd ⟨_, rfl⟩ hm
        obtain ⟨h1, h2⟩ := and2 h'
        exact PSs.imp (pss_cons (sS N0 G m x h1) (sSs N0 G r xs h2)) fun D σ H h => rd_seq h
end
end
end Mi
namespace Mi
open PySem L2
/-- a def's scope -/
def scB (N ps : List Str) (sc : Scope) : Bool :=
  (match sc.kind with | .function => true | _ => false) && !sc.isCoroutine && !sc.isGenerator && decide N.Nodup && decide (N.take ps.length = ps) &&
    (ps.all fun x => decide (sc.names.lookup x = some .local) || decide (sc.names.lookup x = some .cell)) && (sc.names.all fun y => match y.2 with | .free => false | _ => true)
theorem sc_ok {N ps : List Str} {sc : Scope} (h : scB N ps sc = true) : FnScope N ps sc := by
  unfold scB at h
  obtain ⟨h, h7⟩ := and2 h
  obtain ⟨h, h6⟩ := and2 h
  obtain ⟨h, h5⟩ := and2 h
  obtain ⟨h, h4⟩ := and2 h
  obtain ⟨h, h3⟩ := and2 h
  obtain ⟨h1, h2⟩ := and2 h
  refine ⟨?_, not1 h2, not1 h3, of_decide_eq_true h4, of_decide_eq_true h5, fun x hx => ?_, fun y hy e => ?_⟩
  · split at h1
    · assumption
    · cases h1
  · have := List.all_eq_true.mp h6 x hx
    rw [Bool.or_eq_true] at this
    exact this.imp of_decide_eq_true of_decide_eq_true
  · have := List.all_eq_true.mp h7 y hy
    rw [e] at this
    cases this
/-- a def fits its text -/
def ckDef (P : Prg) (free cls : List Str) (fd : FD) (body : List Stmt) (sc : Scope) : Bool := scB fd.N fd.ps sc && ckSs ⟨fd.N, sc, none, free, P, cls⟩ fd.body body
section
variable {Pg : Program} {w : World} {K : PySem.W.Frag} {mg : Str → Option Value} {base : Heap} {c : Cc} {P : Prg} {free cls : List Str} {T : Nat → Addr × FuncData}
/-- the module's facts -/
structure Mods (Pg : Program) (K : PySem.W.Frag) (mg : Str → Option Value) (c : Cc) (P : Prg) (free cls : List Str) : Prop where
  hK : c.K = K
  free : ∀ x, x ∈ free → mg x = none
  gs : ∀ g x, (P.gs[g]?).map (·.1) = some x → ∃ d v u, P.glob g = some d ∧ mg x = some u ∧ RelV v u ∧ ∀ β H N, Rep (c.at β) H N d v
  frs : ∀ f fd, P.fs[f]? = some fd → c.frs f = fd.fresh
  evs : ∀ j a dd o H, c.ev j a dd o → H a = some o → (∀ e, dd = some e → ∃ u, H e = some u) → ∃ tv, KitV c.K H (.ref a) tv ∧ ∀ t cv u b, TyIs mg cls t cv u → D.isTy (.exc j []) t = some b → PySem.W.kitOne c.K tv u = some b
  att : ∀ j a dd o, c.ev j a dd o → ∃ C, o = ExV C dd a ∧ ClsX c.K C ∧ ∀ f, excFld j = some f → PySem.W.findIn c.K (.ref C) f = some none
  mks : ∀ j f, excName j ∈ cls → excFld j = some f → ∃ C fI B newId initId bmB y x fd, (∀ X : Cx, X.K = K → X.prog = Pg → X.mg = mg → MkK X C fI B newId initId bmB y x f fd) ∧ mg (excName j) = some (.ref C) ∧ ∀ a d, c.ev j a (some d) (ExV C (some d) a)
  own : ∀ j, excName j ∈ cls → ∃ C, mg (excName j) = some (.ref C)
/-- def f at level lv -/
def OkAt (Pg : Program) (w : World) (K : PySem.W.Frag) (mg : Str → Option Value) (base : Heap) (c : Cc) (P : Prg) (T : Nat → Addr × FuncData) (lv f : Nat) (fd : FD) : Prop :=
  mg fd.name = some (.ref (T f).1) ∧ PySem.W.keepIn K (.ref (T f).1) = true ∧ (Binds K (T f).2 fd.ps [] ∧ KwOk (T f).2 fd.ps) ∧ FnOk Pg w K mg base (L2.CX Pg w) lv (T f).1 (T f).2 fd.ps (spF c (run P c.ns lv) f fd.ps.length)
theorem run_len {lv f : Nat} {fd : FD} (hf : P.fs[f]? = some fd) : ∀ ds b, ds.length ≠ fd.ps.length → run P c.ns lv f ds b = .no := by
  intro ds b h
  cases lv with
  | zero => rfl
  | succ k =>
    unfold run
    rw [hf]
    simp only
    rw [if_neg h]
    rfl
def vls (ds : List D) (n : Nat) : Env := ds.map .vl ++ List.replicate (n - ds.length) .no
theorem vls_get {ds : List D} {n i : Nat} {d : D} (h : (vls ds n)[i]? = some (.vl d)) : ds[i]? = some d := by
  unfold vls at h
  rw [List.getElem?_append] at h
  split at h
  · rename_i hi
    rw [List.getElem?_map] at h
    obtain ⟨x, e, h⟩ := Option.map_eq_some_iff.mp h
    cases h
    exact e
  · obtain ⟨_, h⟩ := List.getElem?_eq_some_iff.mp h
    simp at h
theorem vls_ow {ds : List D} {n i : Nat} {d : D} (h : (vls ds n)[i]? = some (.ow d)) : False := by
  unfold vls at h
  rw [List.getElem?_append] at h
  split at h
  · rw [List.getElem?_map] at h
    obtain ⟨x, e, h⟩ := Option.map_eq_some_iff.mp h
    cases h
  · obtain ⟨_, h⟩ := List.getElem?_eq_some_iff.mp h
    simp at h
theorem start_rel {c : Cc} {N0 : Addr → Prop} {H : Hp} {N : List Str} {ds : List D} {vs : List V} (r : RepL c H N0 ds vs) (hd : ∀ a, N0 a → H a ≠ none) (hb : ∀ a, c.β = some a → N0 a) :
    Rel c H N0 (start N vs) (vls ds N.length) ∧ ∀ a, ¬ IsOwn (start N vs) (vls ds N.length) a := by
  have no : ∀ a, ¬ IsOwn (start N vs) (vls ds N.length) a := fun a ⟨i, d, e, _⟩ => vls_ow e
  refine ⟨⟨?_, fun i d h => ?_, fun i d h => (vls_ow h).elim, fun i j d e a h => (vls_ow h).elim, hd, hb⟩, no⟩
  · unfold vls L2.start
    simp [r.length]
  · obtain ⟨v, h1, h2⟩ := r.get (vls_get h)
    refine ⟨v, ?_, h2.sub fun a z => z.elim id fun z => (no a z).elim⟩
    unfold L2.start
    rw [List.getElem?_append_left (by rw [List.length_map]; exact (List.getElem?_eq_some_iff.mp h1).1), List.getElem?_map, h1]
    rfl
theorem gs_of {lv : Nat} {fd : FD} {qual : Str} {sc : Scope} {a : Addr} {cdv : Value} {A : Around} {outer : List PySem.Env} {s : Shared} {H : Hp} {E : XK} {β : Option Addr} (Ms : Mods Pg K mg c P free cls) (hs : scB fd.N fd.ps sc = true)
    (ih : ∀ f fd, P.fs[f]? = some fd → OkAt Pg w K mg base c P T lv f fd) (hr : Room lv (A.deeper (PyProof.Rows.envOfC qual sc s.heap.objs.size a cdv))) :
    GS (cxOf (L2.CX Pg w) Pg w K mg base fd.N qual sc a cdv A outer s H E) (c.at β) ⟨run P c.ns lv, P.glob, c.ns⟩ ⟨fd.N, sc, none, free, P, cls⟩ (fun cls dd _ H' => E cls dd H') :=
    { N := rfl, K := Ms.hK, nd := (sc_ok hs).nd, sc := rfl, fn := fun _ _ => rfl, calm := rfl, un := hr.units, tk := takes_of rfl rfl rfl rfl, ns := rfl, free := Ms.free,
      gs := fun g x hx => by
        obtain ⟨d, v, u, e1, e2, e3, e4⟩ := Ms.gs g x hx
        exact ⟨d, v, u, e1, e2, e3, e4 β⟩
      evs := Ms.evs
      att := Ms.att
      own := Ms.own
      dp := by
        have := hr.dp
        show (A.deeper _).depth + 5 < _
        omega
      mks := fun j f h1 h2 => by
        obtain ⟨C, fI, B, newId, initId, bmB, y, x, fd, T, h⟩ := Ms.mks j f h1 h2
        exact ⟨C, fI, B, newId, initId, bmB, y, x, fd, T _ rfl rfl rfl, h⟩
      frs := Ms.frs
      fns := fun f' x hx => by
        cases e : P.fs[f']? with
        | none =>
          have hx : (P.fs[f']?).map (·.name) = some x := hx
          rw [e] at hx; cases hx
        | some fd' =>
          have hx : (P.fs[f']?).map (·.name) = some x := hx
          rw [e] at hx
          cases hx
          obtain ⟨e1, e2, ⟨e3, e3'⟩, e4⟩ := ih f' fd' e
          exact ⟨lv, _, _, fd'.ps, e1, e2, e3, ⟨e3', rfl⟩, hr, e4, run_len e⟩
      po := passes_of (K := fun e s'' => L2.CX Pg w outer H s E e s'') rfl
      blk := by
        show (if sc.kind.isAnnotationScope = true then ScopeKind.function else sc.kind) = .function
        rw [(sc_ok hs).kind]
        rfl }
theorem run_mini {lv f : Nat} {fd : FD} {ds : List D} (hf : P.fs[f]? = some fd) (hk : fd.kind = .mini) (len : ds.length = fd.ps.length) :
    run P c.ns (lv + 1) f ds = ((exSs ⟨run P c.ns lv, P.glob, c.ns⟩ fd.body (vls ds fd.N.length)).bd fun q => (match q.1 with | .rt v => M.ret v | .nx => M.ret .non | _ => M.no)) := by
  show (match P.fs[f]? with | none => M.no | some d => _) = _
  rw [hf]
  simp only
  rw [if_pos len, hk]
  rfl
theorem ok_mini {lv f : Nat} {fd : FD} {qual : Str} {params : Arguments} {body : List Stmt} {sc : Scope} {a : Addr} {fdd : FuncData} (Ms : Mods Pg K mg c P free cls) (hf : P.fs[f]? = some fd) (hk : fd.kind = .mini) (hfr : fd.fresh = false) (hc : ckDef P free cls fd body sc = true)
    (ih : ∀ f fd, P.fs[f]? = some fd → OkAt Pg w K mg base c P T lv f fd) (F : FunD K fd.name qual params body sc [] [] a fdd) :
    FnOk Pg w K mg base (L2.CX Pg w) (lv + 1) a fdd fd.ps (spF c (run P c.ns (lv + 1)) f fd.ps.length) := by
  obtain ⟨hs, hck⟩ := and2 hc
  refine F.ok (sc_ok hs) (fun vs H Q E h => h.1) fun cdv A outer s H vs Q E hr h => ?_
  obtain ⟨hl, β, N0, ds, b, r, hd, hb, B, h⟩ := h
  have G := gs_of (cls := cls) (outer := outer) (H := H) (E := E) (β := β) Ms hs ih hr
  have nf : c.frs f ≠ true := by
    rw [Ms.frs f fd hf, hfr]
    decide
  refine ⟨_, sSs N0 G fd.body body hck, vls ds fd.N.length, b, (start_rel r hd hb).1, B, ?_⟩
  have no := (start_rel (N := fd.N) r hd hb).2
  have len : ds.length = fd.ps.length := by rw [r.length]; exact hl
  have kp : ∀ {H'}, FrK (c.at β) H (start fd.N vs) (vls ds fd.N.length) H' → Keep (c.at β) H H' := fun {H'} f => ⟨fun a o hb h => f.kp a o hb (no a) h, f.fr⟩
  rw [run_mini hf hk len] at h
  unfold M.bd at h
  cases e : exSs ⟨run P c.ns lv, P.glob, c.ns⟩ fd.body (vls ds fd.N.length) b with
  | no => rw [e] at h; exact h
  | ex k as b1 =>
    rw [e] at h
    exact fun cls dd σ' H' f B x => h cls dd H' (kp f) B x
  | ok p b1 =>
    rw [e] at h
    obtain ⟨fl, s'⟩ := p
    cases fl with
    | nx => exact fun σ' H' R B f => h .non H' (kp f.toFrK) B ⟨rfl, fun z => absurd z nf⟩
    | rt d => exact fun v H' f B r => h v H' (kp f) B ⟨r, fun z => absurd z nf⟩
    | bk => exact h.elim
    | ct => exact h.elim
/-- a def of two rows, its result made anew -/
def ckNew (P : Prg) (free cls : List Str) (fd : FD) (body : List Stmt) (sc : Scope) : Bool := scB fd.N fd.ps sc && (match fd.body, body with
  | .cons (.asg o t e0) (.cons (.ret e) .nil), [st, .Return (some x) _] => ckS ⟨fd.N, sc, none, free, P, cls⟩ (.asg o t e0) st && ckE ⟨fd.N, sc, none, free, P, cls⟩ false e x && isFr e
  | _, _ => false)
theorem new_inv {fd : FD} {body : List Stmt} {sc : Scope} (h : ckNew P free cls fd body sc = true) : scB fd.N fd.ps sc = true ∧ ∃ o t e0 e st x pos, fd.body = .cons (.asg o t e0) (.cons (.ret e) .nil) ∧ body = [st, .Return (some x) pos] ∧
    ckS ⟨fd.N, sc, none, free, P, cls⟩ (.asg o t e0) st = true ∧ ckE ⟨fd.N, sc, none, free, P, cls⟩ false e x = true ∧ isFr e = true := by
  obtain ⟨hs, h⟩ := and2 h
  refine ⟨hs, ?_⟩
  split at h
  · rename_i o t e0 e st x pos hb _
    obtain ⟨h, h3⟩ := and2 h
    obtain ⟨h1, h2⟩ := and2 h
    exact ⟨o, t, e0, e, st, x, pos, hb, rfl, h1, h2, h3⟩
  · cases h
theorem RepF.back {c : Cc} {H H1 H' : Hp} {N N0 : Addr → Prop} {d : D} {v : V} (r : RepF c H1 H' N d v) (hs : ∀ a, N0 a → N a) (fr : ∀ a, H1 a = none → H a = none) : RepF c H H' N0 d v := by
  cases d with
  | lst ds =>
    obtain ⟨a, xs, e, h1, h2, q⟩ := r
    exact ⟨a, xs, e, fr a h1, h2, q.sub fun b z => z.imp (hs b) id⟩
  | _ => exact Rep.sub (N := N) r hs
theorem asg_nx {cf : Cfg} {o : Bool} {t : MT} {e0 : ME} {s : Env} {b b1 : Bx} {p : Flow × Env} (h : exS cf (.asg o t e0) s b = .ok p b1) : p.1 = .nx := by
  obtain ⟨x, b2, _, h⟩ := bd_ok (show ((evE cf e0 s).bd fun x => (M.ofO (match t with | .slot i => setOwn o i x s | t => if o then none else bindT t x s)).bd fun s' => M.ret (.nx, s')) b = .ok p b1 from by
    cases t <;> exact h)
  obtain ⟨y, b3, _, h⟩ := bd_ok h
  cases h
  rfl
theorem ok_new {lv f : Nat} {fd : FD} {qual : Str} {params : Arguments} {body : List Stmt} {sc : Scope} {a : Addr} {fdd : FuncData} (Ms : Mods Pg K mg c P free cls) (hf : P.fs[f]? = some fd) (hk : fd.kind = .mini) (hc : ckNew P free cls fd body sc = true)
    (ih : ∀ f fd, P.fs[f]? = some fd → OkAt Pg w K mg base c P T lv f fd) (F : FunD K fd.name qual params body sc [] [] a fdd) :
    FnOk Pg w K mg base (L2.CX Pg w) (lv + 1) a fdd fd.ps (spF c (run P c.ns (lv + 1)) f fd.ps.length) := by
  obtain ⟨hs, o, t, e0, e, st, x, pos, hfb, rfl, h1, h2, h3⟩ := new_inv hc
  refine F.ok (sc_ok hs) (fun vs H Q E h => h.1) fun cdv A outer s H vs Q E hr h => ?_
  obtain ⟨hl, β, N0, ds, b, r, hd, hb, B, h⟩ := h
  have G := gs_of (cls := cls) (outer := outer) (H := H) (E := E) (β := β) Ms hs ih hr
  refine ⟨_, pss_cons (sS N0 G (.asg o t e0) st h1) (pss_cons (ps_ret (sF e G.toGX h3 h2)) pss_nil), vls ds fd.N.length, b, (start_rel r hd hb).1, B, ?_⟩
  have no := (start_rel (N := fd.N) r hd hb).2
  have len : ds.length = fd.ps.length := by rw [r.length]; exact hl
  have kp : ∀ {H'}, FrK (c.at β) H (start fd.N vs) (vls ds fd.N.length) H' → Keep (c.at β) H H' := fun {H'} f => ⟨fun a o hb h => f.kp a o hb (no a) h, f.fr⟩
  rw [run_mini hf hk len, hfb] at h
  unfold M.bd at h
  have hb2 : exSs ⟨run P c.ns lv, P.glob, c.ns⟩ (.cons (.asg o t e0) (.cons (.ret e) .nil)) (vls ds fd.N.length) b = ((exS ⟨run P c.ns lv, P.glob, c.ns⟩ (.asg o t e0) (vls ds fd.N.length)).bd fun p => (match p.1 with | .nx => exSs ⟨run P c.ns lv, P.glob, c.ns⟩ (.cons (.ret e) .nil) p.2 | _ => M.ret p)) b := rfl
  unfold M.bd at hb2
  cases e1 : exS ⟨run P c.ns lv, P.glob, c.ns⟩ (.asg o t e0) (vls ds fd.N.length) b with
  | no => rw [hb2, e1] at h; exact h
  | ex k as b1 =>
    rw [hb2, e1] at h
    exact fun cls dd σ' H' f B x => h cls dd H' (kp f) B x
  | ok p b1 =>
    rw [hb2, e1] at h
    obtain ⟨fl, s1⟩ := p
    have hfl : fl = .nx := asg_nx e1
    subst hfl
    intro σ1 H1 R1 B1 f1
    refine ⟨N0, s1, b1, R1, B1, ?_⟩
    have hr2 : exSs ⟨run P c.ns lv, P.glob, c.ns⟩ (.cons (.ret e) .nil) s1 b1 = (match evE ⟨run P c.ns lv, P.glob, c.ns⟩ e s1 b1 with | .ok d b2 => .ok (.rt d, s1) b2 | .ex k d b2 => .ex k d b2 | .no => .no) := by
      show (M.bd (M.bd (evE ⟨run P c.ns lv, P.glob, c.ns⟩ e s1) fun x => M.ret (Flow.rt x, s1)) _) b1 = _
      unfold M.bd
      cases evE ⟨run P c.ns lv, P.glob, c.ns⟩ e s1 b1 <;> rfl
    simp only at h
    rw [hr2] at h
    cases e2 : evE ⟨run P c.ns lv, P.glob, c.ns⟩ e s1 b1 with
    | no => rw [e2] at h; exact h
    | ex k as b2 =>
      rw [e2] at h
      exact fun cls dd H' k2 B x => h cls dd H' ((kp f1.toFrK).trans k2) B x
    | ok d b2 =>
      rw [e2] at h
      intro v H' k2 B2 r2
      exact h v H' ((kp f1.toFrK).trans k2) B2 ⟨Rep.sub (RepF.rep r2 fun a => R1.domN) fun _ => .inl, fun _ => RepF.back r2 (fun _ => .inl) f1.fr⟩
/-- all defs at all levels: those that are not trees by hand -/
theorem all_ok (Ms : Mods Pg K mg c P free cls) (hd : ∀ f fd, P.fs[f]? = some fd → mg fd.name = some (.ref (T f).1) ∧ PySem.W.keepIn K (.ref (T f).1) = true ∧ (Binds K (T f).2 fd.ps [] ∧ KwOk (T f).2 fd.ps) ∧
      ((fd.kind = .mini ∧ ∃ qual params body sc, (if fd.fresh then ckNew P free cls fd body sc else ckDef P free cls fd body sc) = true ∧ FunD K fd.name qual params body sc [] [] (T f).1 (T f).2) ∨
        ∀ lv, FnOk Pg w K mg base (L2.CX Pg w) (lv + 1) (T f).1 (T f).2 fd.ps (spF c (run P c.ns (lv + 1)) f fd.ps.length))) :
    ∀ lv f fd, P.fs[f]? = some fd → OkAt Pg w K mg base c P T lv f fd
  | 0, f, fd, hf => by
    obtain ⟨h1, h2, h3, _⟩ := hd f fd hf
    exact ⟨h1, h2, h3, ⟨fun vs H Q E h => h.1, fun A outer s H args us vs Q E _ _ _ _ h => by
      obtain ⟨_, β, N0, ds, b, _, _, _, _, h⟩ := h
      exact h.elim⟩⟩
  | lv + 1, f, fd, hf => by
    obtain ⟨h1, h2, h3, h4⟩ := hd f fd hf
    refine ⟨h1, h2, h3, ?_⟩
    rcases h4 with ⟨hk, qual, params, body, sc, hc, F⟩ | h4
    · cases hfr : fd.fresh with
      | true =>
        rw [hfr, if_pos rfl] at hc
        exact ok_new Ms hf hk hc (all_ok Ms hd lv) F
      | false =>
        rw [hfr, if_neg (by decide)] at hc
        exact ok_mini Ms hf hk hfr hc (all_ok Ms hd lv) F
    · exact h4 lv
end
end Mi
namespace Mi
open PySem L2
def bTail (j : Nat) : List Value := if j < 5 then [.type "LookupError", .type "Exception", .type "BaseException", .type "object"] else [.type "ValueError", .type "Exception", .type "BaseException", .type "object"]
def bName (j : Nat) : String := if j < 5 then "LookupError" else "ValueError"
def bNew (j : Nat) : String := if j < 5 then "LookupError.__new__" else "ValueError.__new__"
def bIni (j : Nat) : String := if j < 5 then "LookupError.__init__" else "ValueError.__init__"
/-- a class with the row of its __init__ -/
structure CD where
  j : Nat
  me : Str
  params : Arguments
  body : List Stmt
  scope : Scope
abbrev cAd (K : PySem.W.Frag) (j : Nat) : Addr := He.ga K (excName j)
abbrev iAd (K : PySem.W.Frag) (j : Nat) : Addr := He.ma K (cAd K j) "__init__"
def shapeB (K : PySem.W.Frag) (j : Nat) : Bool := match K.lookup (cAd K j) with
  | some ⟨.type "type", _, .cls cd, sl⟩ => decide (cd.mro = .ref (cAd K j) :: bTail j) && cd.hasDict && !cd.hasDel && (match sl.toList with
    | [_, _, _, _, some (.builtin n), _] => decide (n = bNew j)
    | _ => false)
  | _ => false
def eqB {α : Type} [DecidableEq α] (a b : α) : Bool := decide (a = b)
def iniB (K : PySem.W.Frag) (file : Str) (j : Nat) : Bool := match K.lookup (iAd K j) with
  | some ⟨_, _, .func fd, _⟩ => PySem.W.codeIn K fd.code fd.qualname && eqB fd.globals mainGlobals && eqB fd.builtins builtinsNs && eqB fd.defaults .none &&
      (match fd.code with
        | .ref a => (match K.lookup a with
          | some ⟨_, _, .fields vs, _⟩ => (match (vs[2]? : Option Value) with
            | some (Value.str f _) => f == file
            | _ => false)
          | _ => false)
        | _ => false) &&
      (match fd.closure with
        | [(x, a)] => eqB x ("__class__" : Str) && (match K.lookup a with
          | some ⟨_, _, .cell (some (.ref C)), _⟩ => eqB C (cAd K j)
          | _ => false)
        | _ => false)
  | _ => false
def bltTys : List (Ty × String) := [(.int, "int"), (.bool, "bool"), (.str, "str"), (.list, "list"), (.tuple, "tuple"), (.dict, "dict"), (.valueError, "ValueError"), (.lookupError, "LookupError"), (.keyError, "KeyError"), (.indexError, "IndexError")]
def clsB (K : PySem.W.Frag) (file : Str) (cs : List Nat) (j : Nat) : Bool :=
  eqB (PySem.W.nsIn K mainGlobals (excName j)) (some (some (.ref (cAd K j)))) && PySem.W.keepIn K (.ref (cAd K j)) && shapeB K j &&
  eqB (PySem.W.findIn K (.ref (cAd K j)) "__setattr__") (some (some (.builtin "object.__setattr__"))) && eqB (PySem.W.alongIn K "__init__" (bTail j)) (some (some (.builtin (bIni j)))) &&
  eqB (PySem.W.findIn K (.ref (cAd K j)) "__getattribute__") (some (some (.builtin "BaseException.__getattribute__"))) && eqB (PySem.W.findIn K (.ref (cAd K j)) "__getattr__") (some none) &&
  eqB (PySem.W.subIn K (.ref (cAd K j)) (.type "BaseException")) (some true) && eqB (PySem.W.findIn K (.ref (cAd K j)) "__class__") (some (some (.builtin "object.__class__"))) &&
  eqB (PySem.W.mroIn K (cAd K j) (.type "object")) (some true) &&
  (bltTys.all fun p => eqB (PySem.W.kitOne K (.ref (cAd K j)) (.type p.2)) (D.isTy (.exc j []) p.1)) && (cs.all fun k => eqB (PySem.W.kitOne K (.ref (cAd K j)) (.ref (cAd K k))) (some (decide (j = k)))) &&
  (match excFld j with
    | some f => eqB (PySem.W.findIn K (.ref (cAd K j)) f) (some none) && eqB (PySem.W.findIn K (.ref (cAd K j)) "__init__") (some (some (.ref (iAd K j)))) && eqB (PySem.W.typeIn K (.ref (iAd K j))) (some (.type "function")) && iniB K file j
    | none => true)
def genB (K : PySem.W.Frag) : Bool := eqB (PySem.W.nsIn K PySem.cStatics "thirdparty.any") (some none) && eqB (PySem.W.specialIn K (.builtin "object.__class__") "__get__") (some (some (.builtin "getset_descriptor.__get__"))) && eqB (PySem.W.takesIn K (.builtin "object.__class__")) (some true)
abbrev IniW : Type := Option (Arguments × FuncBody × Scope)
def iniW (K : PySem.W.Frag) (j : Nat) : IniW := match K.lookup (iAd K j) with
  | some ⟨_, _, .func fd, _⟩ => some (fd.params, fd.body, fd.scope)
  | _ => none
def CD.val (d : CD) : IniW := some (d.params, .stmts d.body, d.scope)
/-- all that is read -/
abbrev AlX : Type := He.AlD × Bool × List IniW
def obsX (file : Str) (cs : List Nat) (cds : List CD) (fa : List He.Fa) (fn : List He.DefD) (K : PySem.W.Frag) : AlX := (He.obsD fa fn K, genB K && cs.all (clsB K file cs), cds.map fun d => iniW K d.j)
def valX (cds : List CD) (fn : List He.DefD) : AlX := (He.valD fn, true, cds.map CD.val)
def SaysX (file : Str) (cs : List Nat) (cds : List CD) (fa : List He.Fa) (fn : List He.DefD) (K : PySem.W.Frag) : Prop := obsX file cs cds fa fn K = valX cds fn
def obsXG (n : Nat) (file : Str) (cs : List Nat) (cds : List CD) (fa : List He.Fa) (fn : List He.DefD) (g : Addr → Option Obj) : AlX := obsX file cs cds fa fn (He.frG g (PySem.cStatics :: He.asD g n))
def hookX (n : Nat) (file : Str) (cs : List Nat) (cds : List CD) (fa : List He.Fa) (fn : List He.DefD) : PySem.W.Hook where
  α := AlX
  obs := fun s => obsXG n file cs cds fa fn s.heap.get?
  val := fun _ => valX cds fn
  says := fun _ h => ∃ K : PySem.W.Frag, K.In h ∧ SaysX file cs cds fa fn K
  of := fun _ _ e => ⟨_, He.frG_in, e⟩
  keeps := fun _ _ _ ⟨K, hK, c⟩ k => ⟨K, PySem.W.Frag.In.keeps hK k, c⟩
theorem obsXG_eq {n : Nat} {file : Str} {cs : List Nat} {cds : List CD} {fa : List He.Fa} {fn : List He.DefD} {g : Addr → Option Obj} {s : Shared} (h : ∀ a, g a = s.heap.get? a) : obsXG n file cs cds fa fn g = (hookX n file cs cds fa fn).obs s := by
  have e : g = s.heap.get? := funext h
  rw [e] <;> rfl
section
variable {file : Str} {cs : List Nat} {cds : List CD} {fa : List He.Fa} {fn : List He.DefD} {K : PySem.W.Frag}
theorem SaysX.d (c : SaysX file cs cds fa fn K) : He.SaysD fa fn K := congrArg (fun z : AlX => z.1) c
theorem SaysX.b (c : SaysX file cs cds fa fn K) : genB K = true ∧ cs.all (clsB K file cs) = true := and2 (congrArg (fun z : AlX => z.2.1) c)
theorem SaysX.i (c : SaysX file cs cds fa fn K) {d : CD} (h : d ∈ cds) : iniW K d.j = d.val := by
  have e : cds.map (fun d => iniW K d.j) = cds.map CD.val := congrArg (fun z : AlX => z.2.2) c
  exact List.map_inj_left.mp e d h
theorem eqB_ok {α : Type} [DecidableEq α] {a b : α} (h : eqB a b = true) : a = b := of_decide_eq_true h
theorem exc_inj {j k : Nat} (hk : k < 10) (h : excName j = excName k) : j = k := by
  have h1 : ∀ k < 10, excName k ≠ ("" : Str) := by decide +kernel
  have h2 : ∀ j < 10, ∀ k < 10, excName j = excName k → j = k := by decide +kernel
  by_cases hj : j < 10
  · exact h2 j hj k hk h
  · have e : excName j = ("" : Str) := by
      match j, hj with
      | 0, h => exact absurd (by decide) h
      | 1, h => exact absurd (by decide) h
      | 2, h => exact absurd (by decide) h
      | 3, h => exact absurd (by decide) h
      | 4, h => exact absurd (by decide) h
      | 5, h => exact absurd (by decide) h
      | 6, h => exact absurd (by decide) h
      | 7, h => exact absurd (by decide) h
      | 8, h => exact absurd (by decide) h
      | 9, h => exact absurd (by decide) h
      | n + 10, _ => rfl
    rw [e] at h
    exact absurd h.symm (h1 k hk)
/-- the rows of the classes are as they ought to be -/
def cdOk (d : CD) : Bool := match excFld d.j with
  | some f => plainArgs [d.me, f] d.params && iniScope d.me f d.scope && iniBody d.me f f d.body
  | none => false
def cdsOk (cs : List Nat) (cds : List CD) : Bool := cs.all (fun j => decide (j < 10)) && cs.all (fun j => (excFld j).isNone || cds.any fun d => decide (d.j = j)) && cds.all cdOk
section
variable {file : Str} {cs : List Nat} {cds : List CD} {fa : List He.Fa} {fn : List He.DefD} {K : PySem.W.Frag} {Pg : Program} {h : Heap} {mg : Str → Option Value}
theorem name_mem (hk : cdsOk cs cds = true) {j : Nat} (hj : excName j ∈ cs.map excName) : j ∈ cs := by
  obtain ⟨h1, _⟩ := and2 hk
  obtain ⟨h1, _⟩ := and2 h1
  obtain ⟨k, hk, e⟩ := List.mem_map.mp hj
  have := of_decide_eq_true (List.all_eq_true.mp h1 k hk)
  rw [exc_inj this e.symm]
  exact hk
structure ClsF (K : PySem.W.Frag) (file : Str) (cs : List Nat) (j : Nat) : Prop where
  nm : PySem.W.nsIn K mainGlobals (excName j) = some (some (.ref (cAd K j)))
  kp : PySem.W.keepIn K (.ref (cAd K j)) = true
  sh : shapeB K j = true
  sa : PySem.W.findIn K (.ref (cAd K j)) "__setattr__" = some (some (.builtin "object.__setattr__"))
  al : PySem.W.alongIn K "__init__" (bTail j) = some (some (.builtin (bIni j)))
  cx : ClsX K (cAd K j)
  bl : ∀ p ∈ bltTys, PySem.W.kitOne K (.ref (cAd K j)) (.type p.2) = D.isTy (.exc j []) p.1
  ow : ∀ k ∈ cs, PySem.W.kitOne K (.ref (cAd K j)) (.ref (cAd K k)) = some (decide (j = k))
  fl : ∀ f, excFld j = some f → PySem.W.findIn K (.ref (cAd K j)) f = some none ∧ PySem.W.findIn K (.ref (cAd K j)) "__init__" = some (some (.ref (iAd K j))) ∧ PySem.W.typeIn K (.ref (iAd K j)) = some (.type "function") ∧ iniB K file j = true
theorem shape_ok {j : Nat} (h : shapeB K j = true) : ∃ nm q N bs sn sub ab col dd k0 k1 k2 k3 k5, K.lookup (cAd K j) = some (excClassObj nm q (cAd K j) N bs (bTail j) true sn sub ab col dd k0 k1 k2 k3 k5 (bNew j)) := by
  unfold shapeB at h
  split at h
  · rename_i dd cd sl ho
    obtain ⟨h, h4⟩ := and2 h
    obtain ⟨h, h3⟩ := and2 h
    obtain ⟨h1, h2⟩ := and2 h
    have d1 := of_decide_eq_true h1
    have d3 := not1 h3
    clear h h1 h3
    obtain ⟨nm, bs, mro, ns, qn, hd, sn, sub, ab, col, del⟩ := cd
    simp only at d1 h2 d3
    subst d1 h2 d3
    split at h4
    · rename_i k0 k1 k2 k3 n k5 hs
      have h4 := of_decide_eq_true h4
      subst h4
      have hsl : sl = #[k0, k1, k2, k3, some (.builtin (bNew j)), k5] := by
        obtain ⟨l⟩ := sl
        simp only at hs
        rw [hs]
      subst hsl
      exact ⟨_, _, _, _, _, _, _, _, _, _, _, _, _, _, ho⟩
    · cases h4
  · cases h
theorem SaysX.cls (c : SaysX file cs cds fa fn K) {j : Nat} (hj : j ∈ cs) : ClsF K file cs j := by
  obtain ⟨g, b⟩ := c.b
  have h := List.all_eq_true.mp b j hj
  obtain ⟨g, g3⟩ := and2 g
  obtain ⟨g1, g2⟩ := and2 g
  unfold clsB at h
  obtain ⟨h, h13⟩ := and2 h
  obtain ⟨h, h12⟩ := and2 h
  obtain ⟨h, h11⟩ := and2 h
  obtain ⟨h, h10⟩ := and2 h
  obtain ⟨h, h9⟩ := and2 h
  obtain ⟨h, h8⟩ := and2 h
  obtain ⟨h, h7⟩ := and2 h
  obtain ⟨h, h6⟩ := and2 h
  obtain ⟨h, h5⟩ := and2 h
  obtain ⟨h, h4⟩ := and2 h
  obtain ⟨h, h3⟩ := and2 h
  obtain ⟨h1, h2⟩ := and2 h
  have hc : ∃ cd, PySem.W.clsIn K (cAd K j) = some cd ∧ cd.hasDict = true := by
    obtain ⟨nm, q, N, bs, sn, sub, ab, col, dd, k0, k1, k2, k3, k5, hC⟩ := shape_ok h3
    refine ⟨{ name := nm, bases := bs, mro := .ref (cAd K j) :: bTail j, ns := N, qualname := q, hasDict := true, slotNames := sn, subclasses := sub, abstract := ab, collection := col, hasDel := false }, ?_, rfl⟩
    unfold PySem.W.clsIn
    rw [hC] <;> rfl
  obtain ⟨cd, hcd, hdd⟩ := hc
  refine ⟨eqB_ok h1, h2, h3, eqB_ok h4, eqB_ok h5, ⟨by rw [hcd]; rfl, eqB_ok h6, eqB_ok h7, eqB_ok h8, eqB_ok h9, eqB_ok g2, eqB_ok g3, eqB_ok h10, by unfold PySem.W.hasDictIn; rw [hcd]; exact hdd⟩, fun p hp => eqB_ok (List.all_eq_true.mp h11 p hp), fun k hk => eqB_ok (List.all_eq_true.mp h12 k hk), fun f hf => ?_⟩
  rw [hf] at h13
  obtain ⟨h, q4⟩ := and2 h13
  obtain ⟨h, q3⟩ := and2 h
  obtain ⟨q1, q2⟩ := and2 h
  exact ⟨eqB_ok q1, eqB_ok q2, eqB_ok q3, q4⟩
theorem ini_ok {j : Nat} {d : CD} {f : Str} (hb : iniB K file j = true) (hd : iniW K j = d.val) (hj : d.j = j) (hf : excFld j = some f) (hk : cdOk d = true) (hfile : Pg.main.file = file) (htop : (Pg.main.scope.names.lookup ("super" : Str)).isSome = false) :
    ∃ fd, IniK Pg K (cAd K j) (iAd K j) d.me f f fd := by
  unfold iniB at hb
  unfold iniW at hd
  split at hb
  · rename_i oc od fd osl ho
    rw [ho] at hd
    have hd : some (fd.params, fd.body, fd.scope) = some (d.params, .stmts d.body, d.scope) := hd
    have e1 : fd.params = d.params := congrArg (fun z => z.1) (Option.some.inj hd)
    have e2 : fd.body = .stmts d.body := congrArg (fun z => z.2.1) (Option.some.inj hd)
    have e3 : fd.scope = d.scope := congrArg (fun z => z.2.2) (Option.some.inj hd)
    unfold cdOk at hk
    rw [hj, hf] at hk
    obtain ⟨hk, k3⟩ := and2 hk
    obtain ⟨k1, k2⟩ := and2 hk
    obtain ⟨hb, b6⟩ := and2 hb
    obtain ⟨hb, b5⟩ := and2 hb
    obtain ⟨hb, b4⟩ := and2 hb
    obtain ⟨hb, b3⟩ := and2 hb
    obtain ⟨b1, b2⟩ := and2 hb
    refine ⟨fd, { fn := ⟨_, _, _, ho⟩, code := ?_, cin := b1, cell := ?_, glob := eqB_ok b2, blt := eqB_ok b3, body := ⟨d.body, e2, k3⟩, sc := by rw [e3]; exact k2, args := by rw [e1]; exact k1, dfl := eqB_ok b4, top := htop }⟩
    · split at b5
      · rename_i a ha
        split at b5
        · rename_i x1 x2 vs x3 hv
          split at b5
          · rename_i f tk he
            exact ⟨a, _, _, vs, _, f, tk, ha, hv, he, by rw [hfile, eq_of_beq b5]; exact beq_self_eq_true _⟩
          · cases b5
        · cases b5
      · cases b5
    · split at b6
      · rename_i x a hx
        obtain ⟨b6, b7⟩ := and2 b6
        have b6 := eqB_ok b6
        subst b6
        split at b7
        · rename_i x1 x2 C x3 hv
          have b7 := eqB_ok b7
          subst b7
          exact ⟨a, _, _, _, hx, hv⟩
        · cases b7
      · cases b6
  · cases hb
theorem mk_ok {j : Nat} {f : Str} (c : SaysX file cs cds fa fn K) (hk : cdsOk cs cds = true) (hj : j ∈ cs) (hf : excFld j = some f) (hfile : Pg.main.file = file) (htop : (Pg.main.scope.names.lookup ("super" : Str)).isSome = false) (hs : mg "super" = none) :
    ∃ fI B newId initId bmB y x fd, ∀ X : Cx, X.K = K → X.prog = Pg → X.mg = mg → MkK X (cAd K j) fI B newId initId bmB y x f fd := by
  have F := c.cls hj
  obtain ⟨hk, k3⟩ := and2 hk
  obtain ⟨k1, k2⟩ := and2 hk
  have k2 := List.all_eq_true.mp k2 j hj
  rw [hf] at k2
  obtain ⟨d, hd, hdj⟩ := List.any_eq_true.mp (show (cds.any fun d => decide (d.j = j)) = true from k2)
  have hdj := of_decide_eq_true hdj
  obtain ⟨f1, f2, f3, f4⟩ := F.fl f hf
  have hi := c.i hd
  rw [hdj] at hi
  obtain ⟨fd, T⟩ := ini_ok (Pg := Pg) f4 hi hdj hf (List.all_eq_true.mp k3 d hd) hfile htop
  obtain ⟨g, _⟩ := c.b
  obtain ⟨g, _⟩ := and2 g
  obtain ⟨g1, _⟩ := and2 g
  have E : ExK K (cAd K j) (bName j) (bNew j) (bIni j) (bTail j) := by
    refine { fb := ?_, kf := ?_, pass := ?_, ob := ?_, cls := shape_ok F.sh, sa := F.sa, al := F.al, opq := eqB_ok g1 }
    · unfold bName bNew bIni bTail
      split
      · exact PySem.F.excBase_LookupError
      · exact PySem.F.excBase_ValueError
    · unfold bName bIni
      split
      · exact PySem.W.kxs_LookupError
      · exact PySem.W.kxs_ValueError
    · unfold bTail
      split
      · exact PySem.F.store_LookupError.passes
      · exact PySem.F.store_ValueError.passes
    · unfold bTail
      split <;> decide +kernel
  refine ⟨iAd K j, bName j, bNew j, bIni j, bTail j, d.me, f, fd, fun X e1 e2 e3 => ?_⟩
  subst e1 e2 e3
  exact ⟨E, T, f2, f3, f1, F.kp, hs⟩
end
end
end Mi
namespace Mi
open PySem L2
def constFa : Str × D → He.Fa
  | (x, .int i) => .int x i
  | (x, .str z) => .str x z
  | (x, _) => .glo x
def constOk : Str × D → Bool
  | (_, .int _) => true
  | (_, .str z) => strFits z
  | _ => false
/-- what is asked of the module -/
def faOf (P : Prg) (free : List Str) : List He.Fa := (P.fs.map fun fd => He.Fa.glo fd.name) ++ free.map He.Fa.free ++ P.gs.map constFa
def isMini : Kind → Bool
  | .mini => true
  | _ => false
def pairOk (P : Prg) (free cls : List Str) (fd : FD) (d : He.DefD) : Bool := decide (d.at_ = (fd.name, none)) && decide (d.name = fd.name) && d.dfl.isEmpty && d.kwd.isEmpty && isMini fd.kind && plainArgs fd.ps d.params && decide fd.ps.Nodup &&
  (if fd.fresh then ckNew P free cls fd d.body d.scope else ckDef P free cls fd d.body d.scope)
def pairsOk (P : Prg) (free cls : List Str) : List FD → List He.DefD → Bool
  | [], [] => true
  | fd :: fs, d :: ds => pairOk P free cls fd d && pairsOk P free cls fs ds
  | _, _ => false
def ckAll (P : Prg) (free : List Str) (cs : List Nat) (cds : List CD) (fn : List He.DefD) : Bool := pairsOk P free (cs.map excName) P.fs fn && P.gs.all constOk && cdsOk cs cds && decide (("super" : Str) ∈ free)
theorem pairs_get {P : Prg} {free cls : List Str} : ∀ {fs : List FD} {ds : List He.DefD}, pairsOk P free cls fs ds = true → ∀ (f : Nat) (fd : FD), fs[f]? = some fd → ∃ d, ds[f]? = some d ∧ pairOk P free cls fd d = true
  | [], _, _, f, fd, h => by simp at h
  | _ :: _, [], h, _, _, _ => by cases h
  | x :: fs, d :: ds, h, f, fd, e => by
    obtain ⟨h1, h2⟩ := and2 (show (pairOk P free cls x d && pairsOk P free cls fs ds) = true from h)
    cases f with
    | zero =>
      simp at e
      subst e
      exact ⟨d, rfl, h1⟩
    | succ f => exact pairs_get h2 f fd (by simpa using e)
/-- the context of a script -/
def ccOf (K : PySem.W.Frag) (P : Prg) (cs : List Nat) (ns : List Int) : Cc := ⟨K, none, ns, fun j a dd o => j ∈ cs ∧ o = ExV (cAd K j) dd a, fun f => ((P.fs[f]?).map (·.fresh)).getD false, fun _ _ _ _ _ => False⟩
theorem tys_mem {t : Ty} {y : String} (h : tyStr t = some y) : (t, y) ∈ bltTys := by
  cases t <;> simp only [tyStr] at h <;> first | (cases h; done) | (cases h; decide)
theorem mods_of {K : PySem.W.Frag} {h : Heap} {mg : Str → Option Value} {P : Prg} {free : List Str} {fn : List He.DefD} {ns : List Int} {file : Str} {cs : List Nat} {cds : List CD} {Pg : Program} (X : K.In h) (G : h.Ns mainGlobals mg) (cx : SaysX file cs cds (faOf P free) fn K) (hk : P.gs.all constOk = true)
    (hcd : cdsOk cs cds = true) (hsup : ("super" : Str) ∈ free) (hfile : Pg.main.file = file) (htop : (Pg.main.scope.names.lookup ("super" : Str)).isSome = false) : Mods Pg K mg (ccOf K P cs ns) P free (cs.map excName) :=
  have c := cx.d
  have hsf := He.free_ok X G (c.facts (f := .free "super") (List.mem_append_left _ (List.mem_append_right _ (List.mem_map_of_mem hsup))))
  have own : ∀ j, j ∈ cs → mg (excName j) = some (.ref (cAd K j)) := fun j hj => PySem.W.mg_of X G (cx.cls hj).nm
  {
  hK := rfl
  free := fun x hx => He.free_ok X G (c.facts (f := .free x) (List.mem_append_left _ (List.mem_append_right _ (List.mem_map_of_mem hx))))
  gs := fun g x hx => by
    cases e : P.gs[g]? with
    | none => rw [e] at hx; cases hx
    | some p =>
      obtain ⟨y, d⟩ := p
      rw [e] at hx
      cases hx
      have hm : (y, d) ∈ P.gs := List.mem_of_getElem? e
      have hf := c.facts (f := constFa (y, d)) (List.mem_append_right _ (List.mem_map_of_mem hm))
      have ho := List.all_eq_true.mp hk _ hm
      have eg : P.glob g = some d := by unfold Prg.glob; rw [e]; rfl
      cases d with
      | int i =>
        obtain ⟨t, ht⟩ := He.int_ok X G (x := y) (i := i) hf
        exact ⟨_, .int i, _, eg, ht, ⟨t, rfl⟩, fun _ _ _ => rfl⟩
      | str z =>
        obtain ⟨t, ht⟩ := He.str_ok X G (x := y) (z := z) hf
        exact ⟨_, .str z, _, eg, ht, ⟨t, rfl⟩, fun _ _ _ => ⟨rfl, ho⟩⟩
      | _ => cases ho
  frs := fun f fd hf => by
    show ((P.fs[f]?).map (·.fresh)).getD false = _
    rw [hf]; rfl
  evs := fun j a dd o H hv he hd => by
    obtain ⟨hj, rfl⟩ := hv
    have F := cx.cls hj
    refine ⟨_, kitV_exc F.cx he hd, fun t cv u b hy hb => ?_⟩
    rcases hy with ⟨y, hy, _, rfl⟩ | ⟨q, C, rfl, hq, hC, _, rfl⟩
    · exact (F.bl _ (tys_mem hy)).trans hb
    · have hq := name_mem hcd hq
      rw [own q hq] at hC
      cases hC
      refine (F.ow q hq).trans ?_
      rw [← hb]
      rfl
  att := fun j a dd o hv => ⟨_, hv.2, (cx.cls hv.1).cx, fun f hf => ((cx.cls hv.1).fl f hf).1⟩
  own := fun j hj => ⟨_, own j (name_mem hcd hj)⟩
  mks := fun j f hj hf => by
    have hj := name_mem hcd hj
    obtain ⟨fI, B, newId, initId, bmB, y, x, fd, T⟩ := mk_ok (Pg := Pg) (mg := mg) cx hcd hj hf hfile htop hsf
    exact ⟨_, fI, B, newId, initId, bmB, y, x, fd, T, own j hj, fun a d => ⟨hj, rfl⟩⟩ }
theorem def_at {K : PySem.W.Frag} {h : Heap} {mg : Str → Option Value} {P : Prg} {free cls : List Str} {fn : List He.DefD} (X : K.In h) (G : h.Ns mainGlobals mg) (c : He.SaysD (faOf P free) fn K) (hp : pairsOk P free cls P.fs fn = true) (f : Nat) :
    ∃ t : Addr × FuncData, ∀ fd, P.fs[f]? = some fd → mg fd.name = some (.ref t.1) ∧ PySem.W.keepIn K (.ref t.1) = true ∧ (Binds K t.2 fd.ps [] ∧ KwOk t.2 fd.ps) ∧
      fd.kind = .mini ∧ ∃ qual params body sc, (if fd.fresh then ckNew P free cls fd body sc else ckDef P free cls fd body sc) = true ∧ FunD K fd.name qual params body sc [] [] t.1 t.2 := by
  cases e : P.fs[f]? with
  | none => exact ⟨(0, ⟨Str.empty, Str.empty, ⟨[], [], none, [], [], none, []⟩, .stmts [], default, 0, [], .none, .none, .none, .none, none, .none, .none, 0⟩), fun fd h => nomatch h⟩
  | some fd =>
    obtain ⟨d, hd, h⟩ := pairs_get hp f fd e
    obtain ⟨h, h8⟩ := and2 h
    obtain ⟨h, h7⟩ := and2 h
    obtain ⟨h, h6⟩ := and2 h
    obtain ⟨h, h5⟩ := and2 h
    obtain ⟨h, h4⟩ := and2 h
    obtain ⟨h, h3⟩ := and2 h
    obtain ⟨h1, h2⟩ := and2 h
    have h1 := of_decide_eq_true h1
    have h2 := of_decide_eq_true h2
    have h7 := of_decide_eq_true h7
    rw [List.isEmpty_iff] at h3 h4
    obtain ⟨fdd, F⟩ := c.def_ f hd
    have F : FunD K fd.name d.qual d.params d.body d.scope [] [] (He.fAd K d.at_) fdd := by
      have e1 : d.dvs K = [] := by unfold He.DefD.dvs; rw [h3]; rfl
      have e2 : d.kws K = [] := by unfold He.DefD.kws; rw [h4]; rfl
      rw [e1, e2, h2] at F
      exact F
    have hg := He.glo_ok X G (c.facts (f := .glo fd.name) (List.mem_append_left _ (List.mem_append_left _ (List.mem_map_of_mem (List.mem_of_getElem? e)))))
    have ea : He.fAd K d.at_ = He.ga K fd.name := by rw [h1]; rfl
    refine ⟨(He.fAd K d.at_, fdd), fun fd' e' => ?_⟩
    cases e'
    refine ⟨by rw [ea]; exact hg, F.kp, ⟨FunD.bindsN F fun kV doc pm an cdv ct us hl => binds_plain h6 h7 us hl, ?_⟩, ?_, d.qual, d.params, d.body, d.scope, h8, F⟩
    · obtain ⟨oc, od, dV, kV, doc, pm, an, cdv, ct, osl, rfl, _, _, hD, _⟩ := F.ex
      rcases hD with ⟨_, rfl⟩ | ⟨z, _⟩
      · exact kw_ok h6
      · exact absurd rfl z
    · cases ek : fd.kind with
      | mini => rfl
      | take => rw [ek] at h5; cases h5
      | cells => rw [ek] at h5; cases h5
theorem noX {Pg : Program} {w : World} {K : PySem.W.Frag} {mg : Str → Option Value} {base : Heap} {k : Nat} {f : Addr} {fd : FuncData} {ps : List Str} {ι : Type} {I : ι → Prop} {sp : ι → Sp} (F : ∀ i, FnOk Pg w K mg base (L2.CX Pg w) k f fd ps (sp i)) :
    FnOk Pg w K mg base L2.CX0 k f fd ps (fun vs H Q _ => ∃ i, I i ∧ sp i vs H Q fun _ _ _ => False) := by
  refine ⟨fun vs H Q E h => ?_, fun A outer s H args us vs Q E hr he hb hv h => ?_⟩
  · obtain ⟨i, _, h⟩ := h
    exact (F i).len vs H Q _ h
  · obtain ⟨i, _, h⟩ := h
    refine PySem.codeAny_mono ((F i).run A outer s H args us vs Q _ hr he hb hv h) fun r s' hq => ?_
    cases r with
    | error e =>
      obtain ⟨_, _, _, _, _, _, _, _, _, _, _, _, z⟩ := hq
      exact z.elim
    | ok fl => cases fl <;> exact hq
theorem law_F {P : Prg} {free : List Str} {fn : List He.DefD} {file : Str} {cs : List Nat} {cds : List CD} {iL LV most : Nat} {fl : FD} {x : Str} (hck : ckAll P free cs cds fn = true) (hl : P.fs[iL]? = some fl) (hn : fl.name = ("law" : Str)) (hx : fl.ps = [x])
    (hp : ∀ ns : List Int, ns.length ≤ most → ∃ b, run P ns LV iL [.scr] none = .ok (.bl true) b)
    {Pg : Program} {w : World} {K : PySem.W.Frag} {h : Heap} {mg : Str → Option Value} {fa : Addr} (X : K.In h) (G : h.Ns mainGlobals mg) (c : SaysX file cs cds (faOf P free) fn K) (hfile : Pg.main.file = file) (htop : (Pg.main.scope.names.lookup ("super" : Str)).isSome = false) (hmg : mg ("law" : Str) = some (.ref fa)) :
    ∃ (fd : FuncData) (sp : Sp), (∀ (s : Shared) (u : Value), BindsTo s fd ⟨[u], []⟩ [(x, u)]) ∧
      (∀ (H : Hp) (a : Addr) (ns : List Int), ns.length ≤ most → Only H → SqL K H a (ns.map V.int) → sp [.ref a] H (fun v _ => v = .bl true) fun _ _ _ => False) ∧
      ∀ base : Heap, K.In base → base.Ns mainGlobals mg → FnOk Pg w K mg base L2.CX0 LV fa fd [x] sp := by
  obtain ⟨hck, h4⟩ := and2 hck
  obtain ⟨hck, h3⟩ := and2 hck
  obtain ⟨h1, h2⟩ := and2 hck
  have ha := fun f => def_at X G c.d h1 f
  let T := fun f => Classical.choose (ha f)
  have hT := fun f => Classical.choose_spec (ha f)
  have e1 := (hT iL fl hl).1
  rw [hn, hmg] at e1
  have e1 : fa = (T iL).1 := by cases e1; rfl
  have e3 := (hT iL fl hl).2.2.1
  rw [hx] at e3
  refine ⟨(T iL).2, fun vs H Q _ => ∃ ns : List Int, ns.length ≤ most ∧ spF (ccOf K P cs ns) (run P ns LV) iL 1 vs H Q fun _ _ _ => False, fun s u => ?_, fun H a ns hns hO hS => ?_, fun base _ _ => ?_⟩
  · have e4 := e3.2 1 [] [u] [] (by unfold kwNames; simp) rfl rfl
    have e5 : [x].zip (permD (orderOf [x] 1 []) ([u] ++ [])) = [(x, u)] := by simp [permD, orderOf]
    rw [e5] at e4
    exact .of_eq e4
  · refine ⟨ns, hns, rfl, none, fun _ => False, [.scr], none, ⟨_, _, rfl, ⟨a, rfl, ?_⟩, rfl⟩, (fun _ z => z.elim), (fun _ z => nomatch z), trivial, ?_⟩
    · rcases hS with hS | hS
      · exact .inl ⟨id, hS⟩
      · exact .inr hS
    · obtain ⟨b, e⟩ := hp ns hns
      rw [e]
      exact fun v H' _ _ r => r.1
  · rw [e1]
    refine noX (I := fun ns : List Int => ns.length ≤ most) (sp := fun ns => spF (ccOf K P cs ns) (run P ns LV) iL 1) fun ns => ?_
    have := all_ok (Pg := Pg) (w := w) (base := base) (cls := cs.map excName) (T := T) (mods_of (ns := ns) X G c h2 h3 (of_decide_eq_true h4) hfile htop) (fun f fd hf => by
      obtain ⟨q1, q2, q3, q4, q5⟩ := hT f fd hf
      exact ⟨q1, q2, q3, .inl ⟨q4, q5⟩⟩) LV iL fl hl
    have := this.2.2.2
    rw [hx] at this
    exact this
end Mi
namespace Mi
open PySem
section
variable {α β γ : Type}
theorem bd_ret (a : α) (f : α → M β) : (M.ret a).bd f = f a := rfl
theorem bd_no (f : α → M β) : (M.no (α := α)).bd f = M.no := rfl
theorem ofO_some (a : α) : M.ofO (some a) = M.ret a := rfl
theorem ofO_none : M.ofO (none (α := α)) = M.no := rfl
theorem nex_ret (a : α) : (M.ret a).nex = M.ret a := rfl
theorem bd_assoc (m : M α) (f : α → M β) (g : β → M γ) : (m.bd f).bd g = m.bd fun a => (f a).bd g := by
  funext b
  simp only [M.bd]
  cases m b <;> rfl
theorem bd_ite {c : Prop} [Decidable c] (m n : M α) (f : α → M β) : (if c then m else n).bd f = if c then m.bd f else n.bd f := by
  split <;> rfl
theorem ret_inj {a b : α} (h : (M.ret a : M α) = M.ret b) : a = b := by
  have := congrFun h none
  cases this
  rfl
theorem bd_id (m : M α) : m.bd M.ret = m := by
  funext b
  simp only [M.bd]
  cases m b <;> rfl
theorem compGo_ret {f : D → M (Option D)} {g : D → Option D} : ∀ {ds : List D}, (∀ d ∈ ds, f d = M.ret (g d)) → compGo f ds = M.ret (ds.filterMap g)
  | [], _ => rfl
  | d :: ds, h => by
    rw [compGo, h d (List.mem_cons_self ..), bd_ret, compGo_ret fun x hx => h x (List.mem_cons_of_mem _ hx), bd_ret, List.filterMap_cons]
    cases g d <;> rfl
theorem compGo_map {f : D → M (Option D)} {g : D → D} {ds : List D} (h : ∀ d ∈ ds, f d = M.ret (some (g d))) : compGo f ds = M.ret (ds.map g) := by
  rw [compGo_ret h, List.filterMap_eq_map']
theorem bools_map (g : β → Bool) : ∀ (ds : List β), bools (ds.map fun d => .bl (g d)) = some (ds.map g)
  | [] => rfl
  | d :: ds => by simp [bools, bools_map g ds]
end
/-- what a def gives -/
def rtM (q : Flow × Env) : M D := match q.1 with
  | .rt v => M.ret v
  | .nx => M.ret .non
  | _ => M.no
theorem rtM_rt (v : D) (s : Env) : rtM (.rt v, s) = M.ret v := rfl
theorem rtM_nx (s : Env) : rtM (.nx, s) = M.ret .non := rfl
theorem asB_ret (d : D) : (M.ret d).asB = M.ofO (asB d) := rfl
theorem asB_no : (M.no (α := D)).asB = M.no := rfl
theorem truth_non : truth .non = some false := rfl
theorem truth_bl (b : Bool) : truth (.bl b) = some b := rfl
theorem truth_int (i : Int) : truth (.int i) = some (i != 0) := rfl
theorem truth_lst (xs : List D) : truth (.lst xs) = some (!xs.isEmpty) := rfl
theorem truth_tup (xs : List D) : truth (.tup xs) = some (!xs.isEmpty) := rfl
theorem asB_bl (b : Bool) : asB (.bl b) = some b := rfl
theorem asI_int (b : Int) : asI (.int b) = some b := rfl
theorem walk_lst (xs : List D) : walkOf (.lst xs) = some xs := rfl
theorem walk_tup (xs : List D) : walkOf (.tup xs) = some xs := rfl
theorem walk_str (x : Str) : walkOf (.str x) = some (strItems x) := rfl
theorem items_lst (xs : List D) : itemsOf (.lst xs) = some xs := rfl
theorem items_tup (xs : List D) : itemsOf (.tup xs) = some xs := rfl
theorem len_lst (xs : List D) : evBi .len (.lst xs) = some (.int xs.length) := rfl
theorem len_tup (xs : List D) : evBi .len (.tup xs) = some (.int xs.length) := rfl
theorem len_str (x : Str) : evBi .len (.str x) = some (.int x.cps.size) := rfl
theorem int_int (i : Int) : evBi .int (.int i) = some (.int i) := rfl
theorem int_bl (b : Bool) : evBi .int (.bl b) = some (.int (if b then 1 else 0)) := rfl
theorem abs_int (i : Int) : evBi .abs (.int i) = some (.int (if i < 0 then -i else i)) := rfl
theorem list_lst (xs : List D) : evBi .list (.lst xs) = some (.lst xs) := rfl
theorem list_tup (xs : List D) : evBi .list (.tup xs) = some (.lst xs) := rfl
theorem tuple_lst (xs : List D) : evBi .tuple (.lst xs) = some (.tup xs) := rfl
theorem tuple_tup (xs : List D) : evBi .tuple (.tup xs) = some (.tup xs) := rfl
theorem all_lst (xs : List D) : evBi .all (.lst xs) = (bools xs).map fun bs => .bl (bs.all id) := rfl
theorem any_lst (xs : List D) : evBi .any (.lst xs) = (bools xs).map fun bs => .bl (bs.any id) := rfl
theorem lt_int (i j : Int) : evOp .lt (.int i) (.int j) = some (.bl (decide (i < j))) := rfl
theorem le_int (i j : Int) : evOp .le (.int i) (.int j) = some (.bl (decide (i ≤ j))) := rfl
theorem gt_int (i j : Int) : evOp .gt (.int i) (.int j) = some (.bl (decide (j < i))) := rfl
theorem ge_int (i j : Int) : evOp .ge (.int i) (.int j) = some (.bl (decide (j ≤ i))) := rfl
theorem add_int (i j : Int) : evOp .add (.int i) (.int j) = some (.int (i + j)) := rfl
theorem sub_int (i j : Int) : evOp .sub (.int i) (.int j) = some (.int (i - j)) := rfl
theorem eq_int (i j : Int) : evOp .eq (.int i) (.int j) = some (.bl (i == j)) := rfl
theorem ne_int (i j : Int) : evOp .ne (.int i) (.int j) = some (.bl (!(i == j))) := rfl
theorem ix_lst (xs : List D) (i : Int) : ixM (.lst xs) (.int i) = M.ofO (L2.atI xs i) := rfl
theorem ix_tup (xs : List D) (i : Int) : ixM (.tup xs) (.int i) = M.ofO (L2.atI xs i) := rfl
theorem sl_lst (ns : List Int) (xs : List D) (l h : Option Int) : evSl ns (.lst xs) l h = some (.lst (cut xs l h)) := rfl
theorem sl_tup (ns : List Int) (xs : List D) (l h : Option Int) : evSl ns (.tup xs) l h = some (.tup (cut xs l h)) := rfl
theorem rev_tup (xs : List D) : evRev (.tup xs) = some (.tup xs.reverse) := rfl
theorem rev_lst (xs : List D) : evRev (.lst xs) = some (.lst xs.reverse) := rfl
theorem atI_nat {α : Type} (xs : List α) (k : Nat) : L2.atI xs (k : Int) = xs[k]? := by
  unfold L2.atI L2.ixN
  rw [if_pos (by omega)]
  by_cases h : (k : Int) < xs.length
  · rw [if_pos h]; rfl
  · rw [if_neg h, List.getElem?_eq_none (by omega)]; rfl
theorem at0 (x : D) (xs : List D) : L2.atI (x :: xs) 0 = some x := atI_nat _ 0
theorem at1 (x y : D) (xs : List D) : L2.atI (x :: y :: xs) 1 = some y := atI_nat _ 1
theorem at2 (x y z : D) (xs : List D) : L2.atI (x :: y :: z :: xs) 2 = some z := atI_nat _ 2
theorem isOw_vl (d : D) : (Sl.vl d).isOw = false := rfl
theorem isOw_ow (d : D) : (Sl.ow d).isOw = true := rfl
theorem isOw_no : Sl.no.isOw = false := rfl
theorem slOf_lst (b : Bool) (xs : List D) : slOf b (.lst xs) = if b then .ow (.lst xs) else .vl (.lst xs) := rfl
theorem slOf_tup (b : Bool) (xs : List D) : slOf b (.tup xs) = .vl (.tup xs) := rfl
theorem slOf_int (b : Bool) (i : Int) : slOf b (.int i) = .vl (.int i) := rfl
theorem slOf_bl (b : Bool) (i : Bool) : slOf b (.bl i) = .vl (.bl i) := rfl
theorem slOf_str (b : Bool) (i : Str) : slOf b (.str i) = .vl (.str i) := rfl
theorem slOf_non (b : Bool) : slOf b .non = .vl .non := rfl
theorem slOf_f (d : D) : slOf false d = .vl d := by cases d <;> rfl
theorem evs_nil (c : Cfg) (s : Env) : evTs c .nil s = M.ret true := rfl
section
variable {β : Type}
theorem comp_mapD {f : D → M (Option D)} {g : D → D} {ds : List D} {K : D → M β} (h : ∀ d ∈ ds, f d = M.ret (some (g d))) (hl : ds.length ≤ lineMax) :
    ((compGo f ds).nex.bd fun r => (if r.length ≤ lineMax then M.ret (D.lst r) else M.no).bd K) = K (.lst (ds.map g)) := by
  rw [compGo_map h, nex_ret, bd_ret, if_pos (by rw [List.length_map]; exact hl), bd_ret]
theorem comp_flt {f : D → M (Option D)} {g : D → Option D} {ds : List D} {K : D → M β} (h : ∀ d ∈ ds, f d = M.ret (g d)) (hl : ds.length ≤ lineMax) :
    ((compGo f ds).nex.bd fun r => (if r.length ≤ lineMax then M.ret (D.lst r) else M.no).bd K) = K (.lst (ds.filterMap g)) := by
  rw [compGo_ret h, nex_ret, bd_ret, if_pos (Nat.le_trans (List.length_filterMap_le _ _) hl), bd_ret]
theorem bools_all {p : D → Bool} (ds : List D) : bools (ds.map fun d => .bl (p d)) = some (ds.map p) := bools_map p ds
theorem all_comp {f : D → M (Option D)} {p : D → Bool} {ds : List D} {K : D → M β} (h : ∀ d ∈ ds, f d = M.ret (some (.bl (p d)))) (hl : ds.length ≤ lineMax) :
    ((compGo f ds).nex.bd fun r => (if r.length ≤ lineMax then M.ret (D.lst r) else M.no).bd fun a => (M.ofO (evBi .all a)).bd K) = K (.bl (ds.all p)) := by
  rw [comp_mapD (g := fun d => .bl (p d)) h hl]
  show (M.ofO ((bools (ds.map fun d => .bl (p d))).map fun bs => D.bl (bs.all id))).bd K = _
  rw [bools_all]
  show K (.bl ((ds.map p).all id)) = _
  rw [List.all_map]
  rfl
theorem all_comp' {f : D → M (Option D)} {p : D → Bool} {ds : List D} (h : ∀ d ∈ ds, f d = M.ret (some (.bl (p d)))) (hl : ds.length ≤ lineMax) :
    ((compGo f ds).nex.bd fun r => (if r.length ≤ lineMax then M.ret (D.lst r) else M.no).bd fun a => M.ofO (evBi .all a)) = M.ret (.bl (ds.all p)) := by
  have := all_comp (K := M.ret) h hl
  simp only [bd_id] at this
  exact this
end
theorem eqv_str (x y : Str) : D.eqv (.str x) (.str y) = decide (x = y) := rfl
theorem pyL_strs : ∀ xs : List Str, D.pyL (xs.map .str) = true
  | [] => rfl
  | x :: xs => by simp [D.pyL, D.py, pyL_strs xs]
theorem any_strs (x : Str) (xs : List Str) : ((xs.map D.str).any fun y => D.eqv y (.str x)) = decide (x ∈ xs) := by
  induction xs with
  | nil => rfl
  | cons y ys ih =>
    rw [List.map_cons, List.any_cons, ih, eqv_str, Bool.eq_iff_iff]
    simp only [Bool.or_eq_true, decide_eq_true_eq, List.mem_cons]
    exact ⟨fun h => h.imp Eq.symm id, fun h => h.imp Eq.symm id⟩
theorem in_tup (x : Str) (xs : List Str) : evOp .inn (.str x) (.tup (xs.map .str)) = some (.bl (decide (x ∈ xs))) := by
  show (if D.py (.str x) && D.pyL (xs.map .str) && decide (D.dep (.str x) ≤ 60) then some (D.bl (xor false ((xs.map D.str).any fun y => D.eqv y (.str x)))) else none) = _
  rw [pyL_strs, any_strs]
  simp [D.py, D.dep]
theorem nin_tup (x : Str) (xs : List Str) : evOp .nin (.str x) (.tup (xs.map .str)) = some (.bl (!decide (x ∈ xs))) := by
  show (if D.py (.str x) && D.pyL (xs.map .str) && decide (D.dep (.str x) ≤ 60) then some (D.bl (xor true ((xs.map D.str).any fun y => D.eqv y (.str x)))) else none) = _
  rw [pyL_strs, any_strs]
  simp [D.py, D.dep]
theorem in_lst (x : Str) (xs : List Str) : evOp .inn (.str x) (.lst (xs.map .str)) = some (.bl (decide (x ∈ xs))) := in_tup x xs
theorem nin_lst (x : Str) (xs : List Str) : evOp .nin (.str x) (.lst (xs.map .str)) = some (.bl (!decide (x ∈ xs))) := nin_tup x xs
theorem lt_str (x y : Str) : evOp .lt (.str x) (.str y) = some (.bl (decide (x.cps.toList < y.cps.toList))) := rfl
theorem le_str (x y : Str) : evOp .le (.str x) (.str y) = some (.bl (!decide (y.cps.toList < x.cps.toList))) := rfl
theorem cut_from {α : Type} (xs : List α) (k : Nat) : cut xs (some (k : Int)) none = xs.drop k := by
  unfold cut
  rw [HT.sIx_nat, HT.sIx_none]
  rcases Nat.le_total k xs.length with h | h
  · rw [Nat.min_eq_left h]
    exact List.take_of_length_le (by rw [List.length_drop]; omega)
  · rw [Nat.min_eq_right h, List.drop_of_length_le h, List.drop_of_length_le (Nat.le_refl _)]
    simp
theorem cut_to {α : Type} (xs : List α) (k : Nat) : cut xs none (some (k : Int)) = xs.take k := by
  unfold cut
  rw [HT.sIx_nat, HT.sIx_none]
  rcases Nat.le_total k xs.length with h | h
  · rw [Nat.min_eq_left h]; simp
  · rw [Nat.min_eq_right h, List.take_of_length_le h]; simp
theorem cut1 {α : Type} (xs : List α) : cut xs (some 1) none = xs.drop 1 := cut_from xs 1
theorem zipD_map {α β : Type} (f : α → D) (g : β → D) : ∀ (xs : List α) (ys : List β), zipD (xs.map f) (ys.map g) = (xs.zip ys).map fun p => .tup [f p.1, g p.2]
  | [], _ => by simp [zipD]
  | x :: xs, [] => by simp [zipD]
  | x :: xs, y :: ys => by simp [zipD, zipD_map f g xs ys]
theorem enumD_map {α : Type} (f : α → D) : ∀ (xs : List α) (k : Nat), enumD k (xs.map f) = (xs.zipIdx k).map fun p => .tup [.int (p.2 : Int), f p.1]
  | [], _ => rfl
  | x :: xs, k => by simp [enumD, enumD_map f xs (k + 1)]
theorem nodup_idx (xs : List Str) : (xs.zipIdx.all fun p => !decide (p.1 ∈ xs.take p.2)) = decide xs.Nodup := by
  rw [Bool.eq_iff_iff, List.all_eq_true, decide_eq_true_eq]
  constructor
  · intro h
    refine List.pairwise_iff_getElem.mpr fun i j hi hj hij e => ?_
    have h1 := h (xs[j], j) (List.mem_zipIdx_iff_getElem?.mpr (by simp [hj]))
    simp only [Bool.not_eq_true', decide_eq_false_iff_not] at h1
    exact h1 (by rw [← e]; exact List.mem_take_iff_getElem.mpr ⟨i, by omega, rfl⟩)
  · rintro h ⟨x, j⟩ hm
    have hj := List.mem_zipIdx_iff_getElem?.mp hm
    simp only [Bool.not_eq_true', decide_eq_false_iff_not]
    intro hx
    obtain ⟨hj1, hj2⟩ := List.getElem?_eq_some_iff.mp hj
    obtain ⟨i, hi, e⟩ := List.mem_take_iff_getElem.mp hx
    exact List.pairwise_iff_getElem.mp h i j (by omega) hj1 (by omega) (e.trans hj2.symm)
theorem pure_bl (b : Bool) : D.pure (.bl b) = true := rfl
theorem pure_int (b : Int) : D.pure (.int b) = true := rfl
theorem pure_str (b : Str) : D.pure (.str b) = true := rfl
theorem forGo_nil (t : MT) (dead : List Nat) (body : Env → M (Flow × Env)) (s : Env) : forGo t dead body [] s = M.ret (.nx, s) := rfl
theorem forGo_cons (t : MT) (dead : List Nat) (body : Env → M (Flow × Env)) (d : D) (ds : List D) (s : Env) : forGo t dead body (d :: ds) s = (M.ofO (bindT t d s)).bd fun s1 => (body s1).bd fun p => (match p.1 with
    | .nx => forGo t dead body ds (p.2.kill dead)
    | .ct => forGo t dead body ds (p.2.kill dead)
    | .bk => M.ret (.nx, p.2)
    | .rt v => M.ret (.rt v, p.2)) := rfl
theorem dep_strs : ∀ xs : List Str, D.depL (xs.map .str) = 0
  | [] => rfl
  | x :: xs => by simp [D.depL, D.dep, dep_strs xs]
theorem eqvL_strs : ∀ xs ys : List Str, D.eqvL (xs.map .str) (ys.map .str) = decide (xs = ys)
  | [], [] => by simp [D.eqvL]
  | [], _ :: _ => by simp [D.eqvL]
  | _ :: _, [] => by simp [D.eqvL]
  | x :: xs, y :: ys => by
    simp only [List.map_cons, D.eqvL, eqvL_strs xs ys, eqv_str]
    rw [Bool.eq_iff_iff]
    simp
theorem eq_strs (xs ys : List Str) : evOp .eq (.lst (xs.map .str)) (.lst (ys.map .str)) = some (.bl (decide (xs = ys))) := by
  show (if D.cmp (.lst (xs.map .str)) (.lst (ys.map .str)) then some (D.bl (D.eqv (.lst (xs.map .str)) (.lst (ys.map .str)))) else none) = _
  rw [if_pos (by simp [D.cmp, D.py, D.dep, pyL_strs, dep_strs]), D.eqv, eqvL_strs]
theorem ne_strs (xs ys : List Str) : evOp .ne (.lst (xs.map .str)) (.lst (ys.map .str)) = some (.bl (!decide (xs = ys))) := by
  show (if D.cmp (.lst (xs.map .str)) (.lst (ys.map .str)) then some (D.bl (!D.eqv (.lst (xs.map .str)) (.lst (ys.map .str)))) else none) = _
  rw [if_pos (by simp [D.cmp, D.py, D.dep, pyL_strs, dep_strs]), D.eqv, eqvL_strs]
theorem eq_nil {xs : List D} (h : D.pyL xs = true) : evOp .eq (.lst xs) (.lst []) = some (.bl xs.isEmpty) := by
  show (if D.cmp (.lst xs) (.lst []) then some (D.bl (D.eqv (.lst xs) (.lst []))) else none) = _
  rw [if_pos (by simp [D.cmp, D.py, D.pyL, h, D.dep, D.depL]), D.eqv]
  cases xs <;> rfl
theorem ne_nil {xs : List D} (h : D.pyL xs = true) : evOp .ne (.lst xs) (.lst []) = some (.bl (!xs.isEmpty)) := by
  show (if D.cmp (.lst xs) (.lst []) then some (D.bl (!D.eqv (.lst xs) (.lst []))) else none) = _
  rw [if_pos (by simp [D.cmp, D.py, D.pyL, h, D.dep, D.depL]), D.eqv]
  cases xs <;> rfl
theorem strsD_map : ∀ xs : List Str, strsD (xs.map .str) = some xs
  | [] => rfl
  | x :: xs => by simp [strsD, strsD_map xs]
theorem sortSet_strs {xs : List Str} (h : xs.length < 4000) : evBi .sortSet (.lst (xs.map .str)) = some (.lst (((dedup xs).mergeSort leStr).map .str)) := by
  show (sortSet (xs.map .str)).map D.lst = _
  unfold sortSet
  rw [if_pos (by rw [List.length_map]; exact h), strsD_map, ← srt_eq]
  rfl
theorem lenSet_tup {xs : List Str} (h : xs.length < 4000) : evBi .lenSet (.tup (xs.map .str)) = some (.int (dedup xs).length) := by
  show (lenSet (xs.map .str)).map (fun n => D.int n) = _
  unfold lenSet
  rw [if_pos (by rw [List.length_map]; exact h), strsD_map]
  rfl
theorem fm_if {α : Type} (p : α → Bool) (xs : List α) : (xs.filterMap fun x => if p x then some x else none) = xs.filter p := by
  induction xs with
  | nil => rfl
  | cons x xs ih =>
    rw [List.filterMap_cons, List.filter_cons]
    cases p x <;> simp [ih]
theorem pyL_of : ∀ {ds : List D}, (∀ d ∈ ds, D.py d = true) → D.pyL ds = true
  | [], _ => rfl
  | d :: ds, h => by
    simp only [D.pyL, Bool.and_eq_true]
    exact ⟨h d (List.mem_cons_self ..), pyL_of fun x hx => h x (List.mem_cons_of_mem _ hx)⟩
section
variable {c : Cfg} {r : MSs} {s : Env}
theorem sq_asg {i : Nat} {e : ME} (h : i < s.length) : exSs c (.cons (.asg false (.slot i) e) r) s = (evE c e s).bd fun x => exSs c r (s.set i (.vl x)) := by
  rw [exSs, exS, bd_assoc]
  congr 1
  funext x
  simp only [setOwn]
  rw [if_pos h, slOf_f]
  rfl
theorem sq_asgO {i : Nat} {e : ME} (h : i < s.length) : exSs c (.cons (.asg true (.slot i) e) r) s = (evE c e s).bd fun x => exSs c r (s.set i (slOf true x)) := by
  rw [exSs, exS, bd_assoc]
  congr 1
  funext x
  simp only [setOwn]
  rw [if_pos h]
  rfl
theorem sq_ret {e : ME} : exSs c (.cons (.ret e) r) s = (evE c e s).bd fun x => M.ret (.rt x, s) := by
  rw [exSs, exS, bd_assoc]
  rfl
theorem sq_guard {t e : ME} {q : MSs} : exSs c (.cons (.ite t (.cons (.ret e) q) .nil) r) s = (evT c t s).bd fun k => if k then (evE c e s).bd fun x => M.ret (.rt x, s) else exSs c r s := by
  rw [exSs, exS, bd_assoc]
  congr 1
  funext k
  cases k
  · rfl
  · simp only [if_true]
    rw [sq_ret, bd_assoc]
    rfl
theorem sq_ite {t : ME} {a b : MSs} : exSs c (.cons (.ite t a b) r) s = (evT c t s).bd fun k => (if k then exSs c a s else exSs c b s).bd fun p => (match p.1 with
    | .nx => exSs c r p.2
    | _ => M.ret p) := by
  rw [exSs, exS, bd_assoc] <;> rfl
theorem sq_nil : exSs c .nil s = M.ret (.nx, s) := rfl
theorem sq_for {t : MT} {q : MSrc} {dead : List Nat} {b : MSs} : exSs c (.cons (.for_ t q dead b) r) s = (evSrc c q s).bd fun ds => (forGo t dead (exSs c b) ds s).bd fun p => (match p.1 with
    | .nx => exSs c r p.2
    | _ => M.ret p) := by
  rw [exSs, exS, bd_assoc] <;> rfl
theorem sq_app {i : Nat} {e : ME} {xs : List D} (h : s[i]? = some (.ow (.lst xs))) : exSs c (.cons (.app i e) r) s = (evE c e s).bd fun v => if xs.length < lineMax then exSs c r (s.set i (.ow (.lst (xs ++ [v])))) else M.no := by
  rw [exSs, exS, h]
  simp only [bd_assoc]
  congr 1
  funext v
  split <;> rfl
theorem sq_share {i : Nat} {d : D} (h : s[i]? = some (.ow d)) : exSs c (.cons (.share i) r) s = exSs c r (s.set i (.vl d)) := by
  rw [exSs, exS, h]
  rfl
theorem sq_shareV {i : Nat} {d : D} (h : s[i]? = some (.vl d)) : exSs c (.cons (.share i) r) s = exSs c r s := by
  rw [exSs, exS, h]
  rfl
theorem sq_bset {i : Nat} {x e : ME} (h : s[i]? = some (.vl .box)) : exSs c (.cons (.bset i x e) r) s = (evE c e s).bd fun v => (evE c x s).bd fun k => (M.ofO (asI k)).bd fun k => (M.ofO (asI v)).bd fun v => (bsetM () k v).bd fun _ => exSs c r s := by
  rw [exSs, exS]
  simp only [bd_assoc, h]
  congr 1
  funext v
  congr 1
  funext k
  congr 1
  funext k
  congr 1
  funext v
  funext b
  simp only [M.bd, bsetM]
  rcases b with _ | ⟨i, j, l⟩
  · rfl
  · cases e : L2.ixN 3 k with
    | none => rfl
    | some n =>
      match n with
      | 0 => rfl
      | 1 => rfl
      | 2 => rfl
      | _ + 3 => rfl
theorem sq_seti {i : Nat} {x e : ME} {xs : List D} (h : s[i]? = some (.ow (.lst xs))) : exSs c (.cons (.seti i x e) r) s = (evE c e s).bd fun v => (evE c x s).bd fun k => (M.ofO (asI k)).bd fun k => (M.ofO (L2.ixN xs.length k)).bd fun j => exSs c r (s.set i (.ow (.lst (xs.set j v)))) := by
  rw [exSs, exS]
  simp only [bd_assoc, h]
  rfl
theorem sq_par {i j : Nat} {oi oj : Bool} {x y : ME} (hi : i < s.length) (hj : j < s.length) : exSs c (.cons (.par i j oi oj x y) r) s = (evE c x s).bd fun x => (evE c y s).bd fun y => exSs c r ((s.set i (slOf oi x)).set j (slOf oj y)) := by
  rw [exSs, exS]
  simp only [bd_assoc, setOwn]
  congr 1
  funext x
  congr 1
  funext y
  rw [if_pos hi, ofO_some, bd_ret, if_pos (by rw [List.length_set]; exact hj)]
  rfl
end
theorem add_lst {x y : List D} (h : x.length + y.length ≤ lineMax) : evOp .add (.lst x) (.lst y) = some (.lst (x ++ y)) := by
  show (if x.length + y.length ≤ lineMax then some (D.lst (x ++ y)) else none) = _
  rw [if_pos h]
theorem add_tup {x y : List D} (h : x.length + y.length ≤ lineMax) : evOp .add (.tup x) (.tup y) = some (.tup (x ++ y)) := by
  show (if x.length + y.length ≤ lineMax then some (D.tup (x ++ y)) else none) = _
  rw [if_pos h]
theorem upTo_len (n : Nat) : (upTo 0 n).length = n := by unfold upTo; simp
theorem range_n {n : Nat} (h : n < 1000000) : evRange 0 (n : Int) = some (upTo 0 n) := by
  unfold evRange
  rw [if_pos (by omega)]
  congr 2
theorem srcR {c : Cfg} {s : Env} {a : ME} {n : Nat} (h : evE c a s = M.ret (.int n)) (hn : n < 1000000) : evSrc c (.range a) s = M.ret (upTo 0 n) := by
  rw [evSrc, show (evP c a s).1 = M.ret (.int n) from h, bd_ret, asI_int, ofO_some, bd_ret, range_n hn, ofO_some]
end Mi
namespace Mi
open PySem
section
variable {α : Type} [DecidableEq α]
theorem dedup_of_nodup : ∀ {xs : List α}, xs.Nodup → dedup xs = xs
  | [], _ => rfl
  | x :: r, h => by
    obtain ⟨h1, h2⟩ := List.nodup_cons.mp h
    rw [dedup, dedup_of_nodup h2, List.filter_eq_self.mpr]
    intro y hy
    simp only [Bool.not_eq_true', decide_eq_false_iff_not]
    rintro rfl
    exact h1 hy
theorem dedup_le : ∀ (xs : List α), (dedup xs).length ≤ xs.length
  | [] => Nat.le_refl _
  | x :: r => by
    simp only [dedup, List.length_cons]
    have := dedup_le r
    have := List.length_filter_le (fun y => !decide (y = x)) (dedup r)
    omega
theorem nodup_of_len : ∀ {xs : List α}, (dedup xs).length = xs.length → xs.Nodup
  | [], _ => List.Pairwise.nil
  | x :: r, h => by
    simp only [dedup, List.length_cons] at h
    have h1 := dedup_le r
    have h2 := List.length_filter_le (fun y => !decide (y = x)) (dedup r)
    have h3 : (dedup r).length = r.length := by omega
    have h4 : ((dedup r).filter fun y => !decide (y = x)).length = (dedup r).length := by omega
    refine List.nodup_cons.mpr ⟨fun hx => ?_, nodup_of_len h3⟩
    have := List.length_filter_eq_length_iff.mp h4 x (mem_dedup.mpr hx)
    simp at this
theorem dedup_len (xs : List α) : decide ((dedup xs).length = xs.length) = decide xs.Nodup := by
  rw [Bool.eq_iff_iff, decide_eq_true_eq, decide_eq_true_eq]
  exact ⟨nodup_of_len, fun h => by rw [dedup_of_nodup h]⟩
end
def risesS (xs : List Str) : Bool := (xs.zip (xs.drop 1)).all fun p => decide (p.1.cps.toList < p.2.cps.toList)
theorem rises_pw : ∀ {xs : List Str}, risesS xs = true → xs.Pairwise fun a b => a.cps.toList < b.cps.toList
  | [], _ => List.Pairwise.nil
  | [_], _ => List.pairwise_singleton _ _
  | a :: b :: r, h => by
    have h : (decide (a.cps.toList < b.cps.toList) && risesS (b :: r)) = true := h
    rw [Bool.and_eq_true, decide_eq_true_eq] at h
    have ih := rises_pw h.2
    refine List.pairwise_cons.mpr ⟨fun c hc => ?_, ih⟩
    rcases List.mem_cons.mp hc with rfl | hc
    · exact h.1
    · exact List.lt_trans h.1 ((List.pairwise_cons.mp ih).1 c hc)
theorem pw_rises : ∀ {xs : List Str}, (xs.Pairwise fun a b => a.cps.toList < b.cps.toList) → risesS xs = true
  | [], _ => rfl
  | [_], _ => rfl
  | a :: b :: r, h => by
    show (decide (a.cps.toList < b.cps.toList) && risesS (b :: r)) = true
    obtain ⟨h1, h2⟩ := List.pairwise_cons.mp h
    rw [decide_eq_true (h1 b (List.mem_cons_self ..)), pw_rises h2]
    rfl
theorem leStr_tr (a b c : Str) (h1 : leStr a b = true) (h2 : leStr b c = true) : leStr a c = true := decide_eq_true (List.le_trans (of_decide_eq_true h1) (of_decide_eq_true h2))
theorem leStr_tot (a b : Str) : (leStr a b || leStr b a) = true := by
  rcases List.le_total a.cps.toList b.cps.toList with h | h
  · rw [show leStr a b = true from decide_eq_true h]; rfl
  · rw [show leStr b a = true from decide_eq_true h, Bool.or_true]
theorem rises_sort (xs : List Str) : risesS xs = decide (xs = (dedup xs).mergeSort leStr) := by
  rw [Bool.eq_iff_iff, decide_eq_true_eq]
  constructor
  · intro h
    have pw := rises_pw h
    have nd : xs.Nodup := by
      refine List.Pairwise.imp ?_ pw
      intro a b h e
      subst e
      exact List.lt_irrefl _ h
    rw [dedup_of_nodup nd]
    exact (List.mergeSort_of_pairwise (pw.imp fun h => decide_eq_true (List.le_of_lt h))).symm
  · intro h
    have pw := List.pairwise_mergeSort leStr_tr leStr_tot (dedup xs)
    have nd : ((dedup xs).mergeSort leStr).Nodup := (List.mergeSort_perm _ _).nodup_iff.mpr (nodup_dedup xs)
    rw [← h] at pw nd
    refine pw_rises ?_
    refine (List.Pairwise.and pw nd).imp fun {a b} ⟨h1, h2⟩ => ?_
    have h1 := of_decide_eq_true h1
    by_cases h : a.cps.toList < b.cps.toList
    · exact h
    · exact absurd (str_ext (List.le_antisymm h1 (List.not_lt.mp h))) h2
end Mi
namespace Mi
open PySem
section
variable {α β : Type}
/-- it ends well, and then Q -/
def WP (m : M α) (Q : α → Bx → Prop) (b : Bx) : Prop := match m b with
  | .ok a b' => Q a b'
  | _ => False
/-- there is a box; n more draws are counted -/
def Bd (n : Nat) (b : Bx) : Prop := ∃ g m k : Int, b = some (g, m, k) ∧ 0 ≤ k ∧ k + n ≤ 2 ^ 60
/-- at most n draws, and what comes is as P says -/
def Dr (n : Nat) (m : M α) (P : α → Prop) : Prop := ∀ N b, Bd (N + n) b → WP m (fun a b' => P a ∧ Bd N b') b
variable {Q : α → Bx → Prop} {b : Bx}
theorem Bd.le {n m : Nat} (h : Bd n b) (l : m ≤ n) : Bd m b := by
  obtain ⟨g, q, k, e, h1, h2⟩ := h
  exact ⟨g, q, k, e, h1, by omega⟩
theorem WP_ret (a : α) : WP (M.ret a) Q b = Q a b := rfl
theorem WP_bd (m : M β) (f : β → M α) : WP (m.bd f) Q b = WP m (fun a b' => WP (f a) Q b') b := by
  unfold WP M.bd
  cases m b <;> rfl
theorem WP_ite {c : Prop} [Decidable c] (m n : M α) : WP (if c then m else n) Q b = if c then WP m Q b else WP n Q b := by
  split <;> rfl
theorem WP.imp {m : M α} {Q' : α → Bx → Prop} (h : WP m Q b) (i : ∀ a b, Q a b → Q' a b) : WP m Q' b := by
  unfold WP at h ⊢
  cases e : m b <;> rw [e] at h <;> first | exact i _ _ h | exact h
theorem Dr.wp {n N : Nat} {m : M α} {P : α → Prop} (d : Dr n m P) (hb : Bd (N + n) b) (h : ∀ a, P a → ∀ b', Bd N b' → Q a b') : WP m Q b :=
  WP.imp (d N b hb) fun a b' ⟨p, q⟩ => h a p b' q
theorem Dr.imp {n : Nat} {m : M α} {P P' : α → Prop} (d : Dr n m P) (i : ∀ a, P a → P' a) : Dr n m P' := fun N b h => WP.imp (d N b h) fun a b' ⟨p, q⟩ => ⟨i a p, q⟩
theorem Dr.congr {n : Nat} {m m' : M α} {P : α → Prop} (e : m = m') (d : Dr n m' P) : Dr n m P := e ▸ d
theorem Dr.more {n n' : Nat} {m : M α} {P : α → Prop} (d : Dr n m P) (l : n ≤ n') : Dr n' m P := fun N b h => WP.imp (d (N + (n' - n)) b (h.le (by omega))) fun a b' ⟨p, q⟩ => ⟨p, q.le (by omega)⟩
theorem Dr.ret {a : α} {P : α → Prop} (h : P a) : Dr 0 (M.ret a) P := fun N b hb => ⟨h, hb⟩
theorem Dr.bd {n1 n2 : Nat} {m : M β} {f : β → M α} {P : β → Prop} {P' : α → Prop} (d : Dr n1 m P) (h : ∀ a, P a → Dr n2 (f a) P') : Dr (n1 + n2) (m.bd f) P' := fun N b hb => by
  rw [WP_bd]
  exact d.wp (N := N + n2) (hb.le (by omega)) fun a p b' hb' => h a p N b' hb'
theorem Dr.rt {n : Nat} {m : M β} {f : β → M α} {P : β → Prop} {P' : α → Prop} (d : Dr n m P) (h : ∀ a, P a → Dr 0 (f a) P') : Dr n (m.bd f) P' := (d.bd h).more (Nat.le_refl _)
theorem WP_ofO {a : α} : WP (M.ofO (some a)) Q b = Q a b := rfl
end
section
variable {Q : D → Bx → Prop} {i j l : Int}
theorem WP_ix0 : WP (ixM .box (.int 0)) Q (some (i, j, l)) = Q (.int i) (some (i, j, l)) := rfl
theorem WP_ix1 : WP (ixM .box (.int 1)) Q (some (i, j, l)) = Q (.int j) (some (i, j, l)) := rfl
theorem WP_ix2 : WP (ixM .box (.int 2)) Q (some (i, j, l)) = Q (.int l) (some (i, j, l)) := rfl
theorem WP_set0 {α : Type} {a : α} {v : Int} {Q : α → Bx → Prop} : WP (bsetM a 0 v) Q (some (i, j, l)) = Q a (some (v, j, l)) := rfl
theorem WP_set1 {α : Type} {a : α} {v : Int} {Q : α → Bx → Prop} : WP (bsetM a 1 v) Q (some (i, j, l)) = Q a (some (i, v, l)) := rfl
theorem WP_set2 {α : Type} {a : α} {v : Int} {Q : α → Bx → Prop} : WP (bsetM a 2 v) Q (some (i, j, l)) = Q a (some (i, j, v)) := rfl
end
theorem mod_int {i j : Int} (h : 0 < j) : evOp .mod (.int i) (.int j) = some (.int (i % j)) := by
  show ((if 0 < j then some (i % j) else none).map D.int) = _
  rw [if_pos h]; rfl
theorem fdiv_int {i j : Int} (h : 0 < j) (h2 : j < 1073741824) : evOp .fdiv (.int i) (.int j) = some (.int (i / j)) := by
  show ((if 0 < j ∧ j < 1073741824 then some (i / j) else none).map D.int) = _
  rw [if_pos ⟨h, h2⟩]; rfl
theorem small_of {i : Int} (h1 : -(2 ^ 64) < i) (h2 : i < 2 ^ 64) : small64 i = true := by
  unfold small64
  rw [decide_eq_true h1, decide_eq_true h2]; rfl
theorem mulL {i j : Int} (h : small64 i = true) : evOp .mul (.int i) (.int j) = some (.int (i * j)) := by
  show (if small64 i || small64 j then some (D.int (i * j)) else none) = _
  rw [h]; rfl
theorem mulR {i j : Int} (h : small64 j = true) : evOp .mul (.int i) (.int j) = some (.int (i * j)) := by
  show (if small64 i || small64 j then some (D.int (i * j)) else none) = _
  rw [h, Bool.or_true]; rfl
theorem forGo_dr {t : MT} {dead : List Nat} {body : Env → M (Flow × Env)} {c : Nat} (I : List D → Env → Prop)
    (h : ∀ d ds s, I (d :: ds) s → ∃ s1, bindT t d s = some s1 ∧ Dr c (body s1) fun p => p.1 = .nx ∧ I ds (p.2.kill dead)) :
    ∀ (ds : List D) (s : Env), I ds s → Dr (c * ds.length) (forGo t dead body ds s) fun p => p.1 = .nx ∧ I [] p.2
  | [], s, hi => by
    rw [forGo_nil]
    exact Dr.ret ⟨rfl, hi⟩
  | d :: ds, s, hi => by
    obtain ⟨s1, e, dr⟩ := h d ds s hi
    rw [forGo_cons, e, ofO_some, bd_ret]
    refine (Dr.bd dr fun p hp => ?_).more (n := c + c * ds.length) (by simp only [List.length_cons, Nat.mul_add, Nat.mul_one]; omega)
    rw [hp.1]
    exact forGo_dr I h ds _ hp.2
theorem lenlt {a b : Nat} (h : Nat.ble (a + 1) b = true) : a < b := Nat.le_of_ble_eq_true h
/-- what follows a loop -/
def aft (K : Env → M (Flow × Env)) (p : Flow × Env) : M (Flow × Env) := match p.1 with
  | .nx => K p.2
  | _ => M.ret p
theorem aft_nx (K : Env → M (Flow × Env)) (s : Env) : aft K (.nx, s) = K s := rfl
theorem aft_rt (K : Env → M (Flow × Env)) (d : D) (s : Env) : aft K (.rt d, s) = M.ret (.rt d, s) := rfl
theorem sq_forA {c : Cfg} {r : MSs} {s : Env} {t : MT} {q : MSrc} {dead : List Nat} {b : MSs} : exSs c (.cons (.for_ t q dead b) r) s = (evSrc c q s).bd fun ds => (forGo t dead (exSs c b) ds s).bd (aft (exSs c r)) := sq_for
theorem sq_iteA {c : Cfg} {r : MSs} {s : Env} {t : ME} {a b : MSs} : exSs c (.cons (.ite t a b) r) s = (evT c t s).bd fun k => (if k then exSs c a s else exSs c b s).bd (aft (exSs c r)) := sq_ite
end Mi
set_option maxHeartbeats 0
namespace LK
open PySem PySem.Spec PyProof.Rows L2 Mi
def b_rises : MSs := (.cons (.ret (.bi .all (.comp (.op .lt (.var 1) (.var 2)) (.tup (.cons (.slot 1) (.cons (.slot 2) .nil))) (.zip (.var 0) (.sl (.var 0) (.some (.cst (.int 1))) .none)) .nil [1, 2])))
 .nil)
def f_rises : FD := ⟨⟨#[114, 105, 115, 101, 115]⟩, [⟨#[116, 104, 105, 110, 103, 115]⟩], [⟨#[116, 104, 105, 110, 103, 115]⟩, ⟨#[111, 110, 101]⟩, ⟨#[111, 116, 104, 101, 114]⟩], .mini, false, b_rises⟩
def b_is_name : MSs := (.cons (.ite (.orE (.cons false (.notE (.isi (.var 0) true [.str])) (.cons false (.notE (.chain .le .le (.cst (.int 1)) (.bi .len (.var 0)) (.glo 1))) .nil)))
 (.cons (.ret (.cst (.bl false)))
 .nil)
 .nil)
 (.cons (.ret (.bi .all (.comp (.op .inn (.var 1) (.glo 0)) (.slot 1) (.it (.var 0)) .nil [1])))
 .nil))
def f_is_name : FD := ⟨⟨#[105, 115, 95, 110, 97, 109, 101]⟩, [⟨#[116, 104, 105, 110, 103]⟩], [⟨#[116, 104, 105, 110, 103]⟩, ⟨#[115, 105, 103, 110]⟩], .mini, false, b_is_name⟩
def b_is_tuple_of : MSs := (.cons (.ret (.andE (.cons false (.isi (.var 0) true [.tuple]) (.cons false (.op .eq (.bi .len (.var 0)) (.var 1)) .nil))))
 .nil)
def f_is_tuple_of : FD := ⟨⟨#[105, 115, 95, 116, 117, 112, 108, 101, 95, 111, 102]⟩, [⟨#[116, 104, 105, 110, 103]⟩, ⟨#[115, 105, 122, 101]⟩], [⟨#[116, 104, 105, 110, 103]⟩, ⟨#[115, 105, 122, 101]⟩], .mini, false, b_is_tuple_of⟩
def b_are_columns : MSs := (.cons (.ite (.orE (.cons false (.notE (.isi (.var 0) true [.tuple])) (.cons false (.notE (.chain .le .le (.cst (.int 1)) (.bi .len (.var 0)) (.glo 3))) (.cons false (.notE (.bi .all (.comp (.call 1 (.cons false (.var 2) .nil)) (.slot 2) (.it (.var 0)) .nil [2]))) .nil))))
 (.cons (.ret (.cst (.bl false)))
 .nil)
 .nil)
 (.cons (.ret (.bi .all (.comp (.op .nin (.var 2) (.sl (.var 0) .none (.some (.var 1)))) (.tup (.cons (.slot 1) (.cons (.slot 2) .nil))) (.enum (.var 0)) .nil [1, 2])))
 .nil))
def f_are_columns : FD := ⟨⟨#[97, 114, 101, 95, 99, 111, 108, 117, 109, 110, 115]⟩, [⟨#[116, 104, 105, 110, 103]⟩], [⟨#[116, 104, 105, 110, 103]⟩, ⟨#[112, 108, 97, 99, 101]⟩, ⟨#[111, 119, 110]⟩], .mini, false, b_are_columns⟩
def b_is_kind : MSs := (.cons (.ite (.orE (.cons false (.notE (.call 2 (.cons false (.var 0) (.cons false (.glo 5) .nil)))) (.cons false (.notE (.call 1 (.cons false (.ix (.var 0) (.cst (.int 0))) .nil))) (.cons false (.op .inn (.ix (.var 0) (.cst (.int 0))) (.var 1)) (.cons false (.notE (.call 3 (.cons false (.ix (.var 0) (.cst (.int 1))) .nil))) .nil)))))
 (.cons (.ret (.cst (.bl false)))
 .nil)
 .nil)
 (.cons (.asg false (.slot 2) (.ix (.var 0) (.cst (.int 2))))
 (.cons (.ite (.orE (.cons false (.notE (.isi (.var 2) true [.tuple])) (.cons false (.notE (.bi .all (.comp (.call 2 (.cons false (.var 5) (.cons false (.glo 4) .nil))) (.slot 5) (.it (.var 2)) .nil [5]))) .nil)))
 (.cons (.ret (.cst (.bl false)))
 .nil)
 .nil)
 (.cons (.ite (.notE (.bi .all (.comp (.andE (.cons false (.call 1 (.cons false (.var 3) .nil)) (.cons false (.call 1 (.cons false (.var 4) .nil)) .nil))) (.tup (.cons (.slot 3) (.cons (.slot 4) .nil))) (.it (.var 2)) .nil [3, 4])))
 (.cons (.ret (.cst (.bl false)))
 .nil)
 .nil)
 (.cons (.ite (.notE (.call 0 (.cons false (.comp (.var 3) (.tup (.cons (.slot 3) (.cons (.slot 4) .nil))) (.it (.var 2)) .nil [3, 4]) .nil)))
 (.cons (.ret (.cst (.bl false)))
 .nil)
 .nil)
 (.cons (.ret (.bi .all (.comp (.andE (.cons false (.op .inn (.var 3) (.sl (.ix (.var 0) (.cst (.int 1))) (.some (.cst (.int 1))) .none)) (.cons false (.op .inn (.var 4) (.var 1)) .nil))) (.tup (.cons (.slot 3) (.cons (.slot 4) .nil))) (.it (.var 2)) .nil [3, 4])))
 .nil))))))
def f_is_kind : FD := ⟨⟨#[105, 115, 95, 107, 105, 110, 100]⟩, [⟨#[116, 104, 105, 110, 103]⟩, ⟨#[97, 104, 101, 97, 100]⟩], [⟨#[116, 104, 105, 110, 103]⟩, ⟨#[97, 104, 101, 97, 100]⟩, ⟨#[116, 105, 101, 115]⟩, ⟨#[99, 111, 108, 117, 109, 110]⟩, ⟨#[111, 116, 104, 101, 114]⟩, ⟨#[116, 105, 101]⟩], .mini, false, b_is_kind⟩
def b_is_schema : MSs := (.cons (.ite (.orE (.cons false (.notE (.isi (.var 0) true [.tuple])) (.cons false (.notE (.chain .le .le (.cst (.int 1)) (.bi .len (.var 0)) (.glo 2))) .nil)))
 (.cons (.ret (.cst (.bl false)))
 .nil)
 .nil)
 (.cons (.asg true (.slot 1) (.lst .nil))
 (.cons (.for_ (.slot 2) (.it (.var 0)) [2]
 (.cons (.ite (.notE (.lend 4 (.cons false (.var 2) (.cons false (.bor 1) .nil))))
 (.cons (.ret (.cst (.bl false)))
 .nil)
 .nil)
 (.cons (.app 1 (.ix (.var 2) (.cst (.int 0))))
 .nil)))
 (.cons (.ret (.cst (.bl true)))
 .nil))))
def f_is_schema : FD := ⟨⟨#[105, 115, 95, 115, 99, 104, 101, 109, 97]⟩, [⟨#[116, 104, 105, 110, 103]⟩], [⟨#[116, 104, 105, 110, 103]⟩, ⟨#[97, 104, 101, 97, 100]⟩, ⟨#[107, 105, 110, 100]⟩], .mini, false, b_is_schema⟩
def b_l_box : MSs := (.cons (.asg false (.slot 2) (.ite (.op .lt (.var 1) (.bi .len (.var 0))) (.ix (.var 0) (.var 1)) (.cst (.int 0))))
 (.cons (.ret (.lst (.cons false (.op .mul (.bi .abs (.var 2)) (.bi .int (.op .ge (.bi .abs (.var 2)) (.op .pow (.cst (.int 10)) (.cst (.int 18)))))) (.cons false (.op .add (.op .add (.op .mod (.bi .int (.var 2)) (.cst (.int 2305843009213693951))) (.op .mul (.cst (.int 39373)) (.var 1))) (.cst (.int 12916))) (.cons false (.cst (.int 0)) .nil)))))
 .nil))
def f_l_box : FD := ⟨⟨#[95, 108, 97, 119, 95, 98, 111, 120]⟩, [⟨#[95, 108, 97, 119, 95, 115, 99, 114, 105, 112, 116]⟩, ⟨#[95, 108, 97, 119, 95, 107]⟩], [⟨#[95, 108, 97, 119, 95, 115, 99, 114, 105, 112, 116]⟩, ⟨#[95, 108, 97, 119, 95, 107]⟩, ⟨#[95, 108, 97, 119, 95, 103, 114, 97, 105, 110, 95, 115, 111]⟩], .mini, true, b_l_box⟩
def b_l_take : MSs := (.cons (.ite (.op .gt (.ix (.var 0) (.cst (.int 0))) (.cst (.int 0)))
 (.cons (.asg false (.slot 5) (.op .mod (.bi .int (.ix (.var 0) (.cst (.int 0)))) (.var 1)))
 (.cons (.bset 0 (.cst (.int 0)) (.op .fdiv (.ix (.var 0) (.cst (.int 0))) (.var 1)))
 (.cons (.ret (.var 5))
 .nil)))
 .nil)
 (.cons (.bset 0 (.cst (.int 2)) (.op .add (.ix (.var 0) (.cst (.int 2))) (.cst (.int 1))))
 (.cons (.asg false (.slot 2) (.op .mod (.bi .int (.op .mul (.op .add (.ix (.var 0) (.cst (.int 1))) (.op .mul (.cst (.int 48271)) (.ix (.var 0) (.cst (.int 2))))) (.op .add (.cst (.int 39373)) (.ix (.var 0) (.cst (.int 2)))))) (.cst (.int 2147483647))))
 (.cons (.asg false (.slot 3) (.op .add (.op .mod (.bi .int (.var 2)) (.cst (.int 40009))) (.cst (.int 7))))
 (.cons (.asg false (.slot 4) (.op .mod (.bi .int (.op .mul (.op .add (.op .add (.var 2) (.ix (.var 0) (.cst (.int 2)))) (.op .fdiv (.ix (.var 0) (.cst (.int 1))) (.cst (.int 1000003)))) (.var 3))) (.cst (.int 2147483629))))
 (.cons (.ret (.op .mod (.bi .int (.op .fdiv (.op .mod (.bi .int (.op .add (.op .mul (.var 4) (.cst (.int 48271))) (.var 2))) (.cst (.int 2147483587))) (.cst (.int 64)))) (.var 1)))
 .nil))))))
def f_l_take : FD := ⟨⟨#[95, 108, 97, 119, 95, 116, 97, 107, 101]⟩, [⟨#[95, 108, 97, 119, 95, 98, 111, 120, 95, 104, 101, 114, 101]⟩, ⟨#[95, 108, 97, 119, 95, 98, 101, 108, 111, 119, 95, 115, 111]⟩], [⟨#[95, 108, 97, 119, 95, 98, 111, 120, 95, 104, 101, 114, 101]⟩, ⟨#[95, 108, 97, 119, 95, 98, 101, 108, 111, 119, 95, 115, 111]⟩, ⟨#[95, 108, 97, 119, 95, 111, 110, 99, 101]⟩, ⟨#[95, 108, 97, 119, 95, 102, 97, 114, 95, 115, 111]⟩, ⟨#[95, 108, 97, 119, 95, 116, 119, 105, 99, 101, 95, 115, 111]⟩, ⟨#[95, 108, 97, 119, 95, 100, 114, 97, 119, 110, 95, 115, 111]⟩], .mini, false, b_l_take⟩
def b_l_cells : MSs := (.cons (.asg true (.slot 2) (.orE (.cons false (.bi .list (.sl (.var 0) .none (.some (.var 1)))) (.cons false (.lst (.cons false (.cst (.int 0)) .nil)) .nil))))
 (.cons (.for_ (.tup (.cons (.slot 3) (.cons (.slot 4) .nil))) (.enum (.sl (.var 0) (.some (.var 1)) (.some (.cst (.int 63))))) [3, 4, 5]
 (.cons (.asg false (.slot 5) (.op .mod (.bi .int (.var 3)) (.var 1)))
 (.cons (.seti 2 (.var 5) (.op .add (.ix (.bor 2) (.var 5)) (.op .mul (.var 4) (.op .add (.var 3) (.cst (.int 2))))))
 .nil)))
 (.cons (.share 2)
 (.cons (.ret (.var 2))
 .nil))))
def f_l_cells : FD := ⟨⟨#[95, 108, 97, 119, 95, 99, 101, 108, 108, 115]⟩, [⟨#[95, 108, 97, 119, 95, 115, 99, 114, 105, 112, 116]⟩, ⟨#[95, 108, 97, 119, 95, 109, 111, 115, 116, 95, 115, 111]⟩], [⟨#[95, 108, 97, 119, 95, 115, 99, 114, 105, 112, 116]⟩, ⟨#[95, 108, 97, 119, 95, 109, 111, 115, 116, 95, 115, 111]⟩, ⟨#[95, 108, 97, 119, 95, 99, 101, 108, 108, 115, 95, 104, 101, 114, 101]⟩, ⟨#[95, 108, 97, 119, 95, 107]⟩, ⟨#[95, 108, 97, 119, 95, 103, 114, 97, 105, 110, 95, 115, 111]⟩, ⟨#[95, 108, 97, 119, 95, 97, 116, 95, 115, 111]⟩], .mini, false, b_l_cells⟩
def b_l_of : MSs := (.cons (.ret (.ix (.var 1) (.call 7 (.cons false (.var 0) (.cons false (.bi .len (.var 1)) .nil)))))
 .nil)
def f_l_of : FD := ⟨⟨#[95, 108, 97, 119, 95, 111, 102]⟩, [⟨#[95, 108, 97, 119, 95, 98, 111, 120, 95, 104, 101, 114, 101]⟩, ⟨#[95, 108, 97, 119, 95, 112, 111, 111, 108, 95, 115, 111]⟩], [⟨#[95, 108, 97, 119, 95, 98, 111, 120, 95, 104, 101, 114, 101]⟩, ⟨#[95, 108, 97, 119, 95, 112, 111, 111, 108, 95, 115, 111]⟩], .mini, false, b_l_of⟩
def b_l_same : MSs := (.cons (.ite (.isi (.var 1) false [.list, .tuple])
 (.cons (.ite (.orE (.cons false (.op .ne (.isi (.var 0) true [.list]) (.isi (.var 1) true [.list])) (.cons false (.op .ne (.isi (.var 0) true [.tuple]) (.isi (.var 1) true [.tuple])) .nil)))
 (.cons (.ret (.cst (.bl false)))
 .nil)
 .nil)
 (.cons (.ret (.andE (.cons false (.op .eq (.bi .len (.var 0)) (.bi .len (.var 1))) (.cons false (.bi .all (.comp (.call 10 (.cons false (.var 2) (.cons false (.var 3) .nil))) (.tup (.cons (.slot 2) (.cons (.slot 3) .nil))) (.zip (.var 0) (.var 1)) .nil [2, 3])) .nil))))
 .nil))
 .nil)
 (.cons (.ite (.orE (.cons false (.isN false (.var 1)) (.cons false (.isi (.var 1) false [.bool, .str]) .nil)))
 (.cons (.ret (.andE (.cons false (.op .eq (.var 0) (.var 1)) (.cons false (.op .eq (.isi (.var 0) true [.bool]) (.isi (.var 1) true [.bool])) (.cons false (.op .eq (.isN false (.var 0)) (.isN false (.var 1))) .nil)))))
 .nil)
 .nil)
 (.cons (.ret (.andE (.cons false (.isi (.var 0) true [.int]) (.cons false (.notE (.isi (.var 0) true [.bool])) (.cons false (.op .eq (.var 0) (.var 1)) .nil)))))
 .nil)))
def f_l_same : FD := ⟨⟨#[95, 108, 97, 119, 95, 115, 97, 109, 101]⟩, [⟨#[95, 108, 97, 119, 95, 103, 111, 116]⟩, ⟨#[95, 108, 97, 119, 95, 100, 117, 101, 95, 115, 111]⟩], [⟨#[95, 108, 97, 119, 95, 103, 111, 116]⟩, ⟨#[95, 108, 97, 119, 95, 100, 117, 101, 95, 115, 111]⟩, ⟨#[95, 108, 97, 119, 95, 111, 119, 110]⟩, ⟨#[95, 108, 97, 119, 95, 102, 97, 114, 95, 115, 111]⟩], .mini, false, b_l_same⟩
def b_l_mixed : MSs := (.cons (.par 3 4 false true (.bi .list (.var 1)) (.lst .nil))
 (.cons (.for_ (.slot 2) (.range (.bi .len (.var 1))) [2, 5]
 (.cons (.asg false (.slot 5) (.call 7 (.cons false (.var 0) (.cons false (.bi .len (.var 3)) .nil))))
 (.cons (.app 4 (.ix (.var 3) (.var 5)))
 (.cons (.asg false (.slot 3) (.op .add (.sl (.var 3) .none (.some (.var 5))) (.sl (.var 3) (.some (.op .add (.var 5) (.cst (.int 1)))) .none)))
 .nil))))
 (.cons (.share 4)
 (.cons (.ret (.var 4))
 .nil))))
def f_l_mixed : FD := ⟨⟨#[95, 108, 97, 119, 95, 109, 105, 120, 101, 100]⟩, [⟨#[95, 108, 97, 119, 95, 98, 111, 120, 95, 104, 101, 114, 101]⟩, ⟨#[95, 108, 97, 119, 95, 114, 111, 119, 115, 95, 115, 111]⟩], [⟨#[95, 108, 97, 119, 95, 98, 111, 120, 95, 104, 101, 114, 101]⟩, ⟨#[95, 108, 97, 119, 95, 114, 111, 119, 115, 95, 115, 111]⟩, ⟨#[95, 108, 97, 119, 95, 116, 117, 114, 110]⟩, ⟨#[95, 108, 97, 119, 95, 114, 101, 115, 116, 95, 115, 111]⟩, ⟨#[95, 108, 97, 119, 95, 102, 111, 117, 110, 100]⟩, ⟨#[95, 108, 97, 119, 95, 97, 116, 95, 115, 111]⟩], .mini, false, b_l_mixed⟩
def b_l_tag : MSs := (.cons (.ite (.orE (.cons false (.notE (.isi (.var 0) true [.str])) (.cons false (.notE (.chain .lt .lt (.cst (.int 0)) (.bi .len (.var 0)) (.cst (.int 9)))) .nil)))
 (.cons (.ret (.cst (.bl false)))
 .nil)
 .nil)
 (.cons (.ret (.op .eq (.comp (.var 1) (.slot 1) (.it (.var 0)) (.cons false (.notE (.chain .le .le (.cst (.str ⟨#[97]⟩)) (.var 1) (.cst (.str ⟨#[122]⟩)))) .nil) [1]) (.lst .nil)))
 .nil))
def f_l_tag : FD := ⟨⟨#[95, 108, 97, 119, 95, 116, 97, 103]⟩, [⟨#[95, 108, 97, 119, 95, 109, 97, 116, 116, 101, 114]⟩], [⟨#[95, 108, 97, 119, 95, 109, 97, 116, 116, 101, 114]⟩, ⟨#[95, 108, 97, 119, 95, 115, 105, 103, 110]⟩], .mini, false, b_l_tag⟩
def b_l_is : MSs := (.cons (.ite (.orE (.cons false (.notE (.isi (.var 0) true [.tuple])) (.cons false (.notE (.chain .lt .lt (.cst (.int 0)) (.bi .len (.var 0)) (.cst (.int 4)))) .nil)))
 (.cons (.ret (.cst (.bl false)))
 .nil)
 .nil)
 (.cons (.asg true (.slot 1) (.lst .nil))
 (.cons (.for_ (.slot 2) (.it (.var 0)) [2, 4]
 (.cons (.ite (.orE (.cons false (.notE (.isi (.var 2) true [.tuple])) (.cons false (.op .ne (.bi .len (.var 2)) (.cst (.int 3))) (.cons false (.notE (.call 12 (.cons false (.ix (.var 2) (.cst (.int 0))) .nil))) (.cons false (.op .inn (.ix (.var 2) (.cst (.int 0))) (.bor 1)) .nil)))))
 (.cons (.ret (.cst (.bl false)))
 .nil)
 .nil)
 (.cons (.ite (.orE (.cons false (.notE (.isi (.ix (.var 2) (.cst (.int 1))) true [.tuple])) (.cons false (.notE (.chain .lt .lt (.cst (.int 0)) (.bi .len (.ix (.var 2) (.cst (.int 1)))) (.cst (.int 5)))) (.cons false (.notE (.isi (.ix (.var 2) (.cst (.int 2))) true [.tuple])) .nil))))
 (.cons (.ret (.cst (.bl false)))
 .nil)
 .nil)
 (.cons (.ite (.orE (.cons false (.op .ne (.comp (.var 3) (.slot 3) (.it (.ix (.var 2) (.cst (.int 1)))) (.cons false (.notE (.call 12 (.cons false (.var 3) .nil))) .nil) [3]) (.lst .nil)) (.cons false (.op .ne (.bi .lenSet (.ix (.var 2) (.cst (.int 1)))) (.bi .len (.ix (.var 2) (.cst (.int 1))))) .nil)))
 (.cons (.ret (.cst (.bl false)))
 .nil)
 .nil)
 (.cons (.for_ (.slot 3) (.it (.ix (.var 2) (.cst (.int 2)))) []
 (.cons (.ite (.orE (.cons false (.notE (.isi (.var 3) true [.tuple])) (.cons false (.op .ne (.bi .len (.var 3)) (.cst (.int 2))) (.cons false (.notE (.call 12 (.cons false (.ix (.var 3) (.cst (.int 0))) .nil))) (.cons false (.notE (.call 12 (.cons false (.ix (.var 3) (.cst (.int 1))) .nil))) .nil)))))
 (.cons (.ret (.cst (.bl false)))
 .nil)
 .nil)
 (.cons (.ite (.orE (.cons false (.op .nin (.ix (.var 3) (.cst (.int 0))) (.sl (.ix (.var 2) (.cst (.int 1))) (.some (.cst (.int 1))) .none)) (.cons false (.op .nin (.ix (.var 3) (.cst (.int 1))) (.bor 1)) .nil)))
 (.cons (.ret (.cst (.bl false)))
 .nil)
 .nil)
 .nil)))
 (.cons (.asg false (.slot 4) (.comp (.ix (.var 3) (.cst (.int 0))) (.slot 3) (.it (.ix (.var 2) (.cst (.int 2)))) .nil [3]))
 (.cons (.ite (.op .ne (.var 4) (.bi .sortSet (.var 4)))
 (.cons (.ret (.cst (.bl false)))
 .nil)
 .nil)
 (.cons (.app 1 (.ix (.var 2) (.cst (.int 0))))
 .nil))))))))
 (.cons (.ret (.cst (.bl true)))
 .nil))))
def f_l_is : FD := ⟨⟨#[95, 108, 97, 119, 95, 105, 115]⟩, [⟨#[95, 108, 97, 119, 95, 109, 97, 116, 116, 101, 114]⟩], [⟨#[95, 108, 97, 119, 95, 109, 97, 116, 116, 101, 114]⟩, ⟨#[95, 108, 97, 119, 95, 97, 104, 101, 97, 100, 95, 115, 111]⟩, ⟨#[95, 108, 97, 119, 95, 111, 119, 110]⟩, ⟨#[95, 108, 97, 119, 95, 98, 105, 116]⟩, ⟨#[95, 108, 97, 119, 95, 108, 105, 110, 101, 115, 95, 115, 111]⟩], .mini, false, b_l_is⟩
def b_l_kinds : MSs := (.cons (.asg true (.slot 1) (.lst .nil))
 (.cons (.for_ (.slot 2) (.it (.sl (.lst (.cons false (.cst (.str ⟨#[100, 101, 112, 116]⟩)) (.cons false (.cst (.str ⟨#[101, 109, 112]⟩)) (.cons false (.cst (.str ⟨#[106, 111, 98]⟩)) .nil)))) .none (.some (.op .add (.cst (.int 1)) (.call 7 (.cons false (.var 0) (.cons false (.cst (.int 3)) .nil))))))) [2, 3, 4, 5]
 (.cons (.asg false (.slot 3) (.bi .tuple (.op .add (.lst (.cons false (.cst (.str ⟨#[105, 100]⟩)) .nil)) (.sl (.call 11 (.cons false (.var 0) (.cons false (.lst (.cons false (.cst (.str ⟨#[97]⟩)) (.cons false (.cst (.str ⟨#[98]⟩)) (.cons false (.cst (.str ⟨#[112, 97, 121]⟩)) .nil)))) .nil))) .none (.some (.call 7 (.cons false (.var 0) (.cons false (.cst (.int 4)) .nil))))))))
 (.cons (.asg false (.slot 4) (.comp (.ix (.var 6) (.cst (.int 0))) (.slot 6) (.it (.bor 1)) .nil [6]))
 (.cons (.asg true (.slot 5) (.lst .nil))
 (.cons (.for_ (.slot 6) (.it (.sl (.var 3) (.some (.cst (.int 1))) .none)) []
 (.cons (.ite (.andE (.cons false (.op .ne (.var 4) (.lst .nil)) (.cons false (.op .eq (.call 7 (.cons false (.var 0) (.cons false (.cst (.int 2)) .nil))) (.cst (.int 0))) .nil)))
 (.cons (.app 5 (.tup (.cons false (.var 6) (.cons false (.call 9 (.cons false (.var 0) (.cons false (.var 4) .nil))) .nil))))
 .nil)
 .nil)
 .nil))
 (.cons (.app 1 (.tup (.cons false (.var 2) (.cons false (.var 3) (.cons false (.bi .tuple (.bi .sort (.bor 5))) .nil)))))
 .nil))))))
 (.cons (.ret (.bi .tuple (.bor 1)))
 .nil)))
def f_l_kinds : FD := ⟨⟨#[95, 108, 97, 119, 95, 107, 105, 110, 100, 115]⟩, [⟨#[95, 108, 97, 119, 95, 98, 111, 120, 95, 104, 101, 114, 101]⟩], [⟨#[95, 108, 97, 119, 95, 98, 111, 120, 95, 104, 101, 114, 101]⟩, ⟨#[95, 108, 97, 119, 95, 102, 111, 117, 110, 100]⟩, ⟨#[95, 108, 97, 119, 95, 116, 97, 103, 95, 115, 111]⟩, ⟨#[95, 108, 97, 119, 95, 99, 111, 108, 117, 109, 110, 115, 95, 115, 111]⟩, ⟨#[95, 108, 97, 119, 95, 97, 104, 101, 97, 100, 95, 115, 111]⟩, ⟨#[95, 108, 97, 119, 95, 116, 105, 101, 115, 95, 115, 111]⟩, ⟨#[95, 108, 97, 119, 95, 111, 119, 110]⟩], .mini, false, b_l_kinds⟩
def b_l_bent : MSs := (.cons (.ite (.andE (.cons false (.isi (.var 1) true [.tuple]) (.cons false (.op .ne (.var 1) (.tup .nil)) (.cons false (.op .gt (.call 7 (.cons false (.var 0) (.cons false (.cst (.int 4)) .nil))) (.cst (.int 0))) .nil))))
 (.cons (.asg false (.slot 3) (.call 7 (.cons false (.var 0) (.cons false (.bi .len (.var 1)) .nil))))
 (.cons (.ret (.op .add (.op .add (.sl (.var 1) .none (.some (.var 3))) (.tup (.cons false (.call 15 (.cons false (.var 0) (.cons false (.ix (.var 1) (.var 3)) .nil))) .nil))) (.sl (.var 1) (.some (.op .add (.var 3) (.cst (.int 1)))) .none)))
 .nil))
 .nil)
 (.cons (.asg false (.slot 2) (.lst (.cons false (.cst (.str ⟨#[]⟩)) (.cons false (.cst (.str ⟨#[105, 100]⟩)) (.cons false (.cst (.str ⟨#[100, 101, 112, 116]⟩)) (.cons false (.cst (.str ⟨#[101, 109, 112]⟩)) (.cons false (.cst (.str ⟨#[65]⟩)) (.cons false (.cst (.str ⟨#[97, 98, 99, 100, 101, 102, 103, 104, 105]⟩)) (.cons false (.cst (.str ⟨#[112, 97, 121]⟩)) (.cons false (.tup .nil) (.cons false (.lst .nil) (.cons false (.cst .non) (.cons false (.cst (.int 0)) (.cons false (.cst (.bl true)) (.cons false (.tup (.cons false (.cst (.str ⟨#[97]⟩)) (.cons false (.cst (.str ⟨#[100, 101, 112, 116]⟩)) .nil))) (.cons false (.tup (.cons false (.cst (.str ⟨#[112, 97, 121]⟩)) (.cons false (.cst (.str ⟨#[101, 109, 112]⟩)) .nil))) .nil))))))))))))))))
 (.cons (.ite (.isi (.var 1) true [.tuple])
 (.cons (.asg false (.slot 2) (.op .add (.var 2) (.lst (.cons false (.bi .list (.var 1)) (.cons false (.sl (.var 1) (.some (.cst (.int 1))) .none) (.cons false (.op .add (.var 1) (.sl (.var 1) .none (.some (.cst (.int 1))))) (.cons false (.tup (.cons false (.var 1) .nil)) (.cons false (.rev (.var 1)) (.cons false (.sl (.var 1) .none (.some (.neg (.cst (.int 1))))) .nil)))))))))
 .nil)
 .nil)
 (.cons (.ret (.call 9 (.cons false (.var 0) (.cons false (.var 2) .nil))))
 .nil))))
def f_l_bent : FD := ⟨⟨#[95, 108, 97, 119, 95, 98, 101, 110, 116]⟩, [⟨#[95, 108, 97, 119, 95, 98, 111, 120, 95, 104, 101, 114, 101]⟩, ⟨#[95, 108, 97, 119, 95, 109, 97, 116, 116, 101, 114]⟩], [⟨#[95, 108, 97, 119, 95, 98, 111, 120, 95, 104, 101, 114, 101]⟩, ⟨#[95, 108, 97, 119, 95, 109, 97, 116, 116, 101, 114]⟩, ⟨#[95, 108, 97, 119, 95, 112, 111, 111, 108, 95, 115, 111]⟩, ⟨#[95, 108, 97, 119, 95, 107]⟩], .mini, false, b_l_bent⟩
def b_l_good : MSs := (.cons (.asg false (.tup (.cons (.slot 2) (.cons (.slot 3) .nil))) (.tup (.cons false (.tup (.cons false (.cst (.str ⟨#[100, 101, 112, 116]⟩)) (.cons false (.tup (.cons false (.cst (.str ⟨#[105, 100]⟩)) (.cons false (.cst (.str ⟨#[110, 97, 109, 101]⟩)) .nil))) (.cons false (.tup .nil) .nil)))) (.cons false (.tup (.cons false (.cst (.str ⟨#[101, 109, 112]⟩)) (.cons false (.tup (.cons false (.cst (.str ⟨#[105, 100]⟩)) (.cons false (.cst (.str ⟨#[100, 101, 112, 116]⟩)) (.cons false (.cst (.str ⟨#[112, 97, 121]⟩)) .nil)))) (.cons false (.tup (.cons false (.tup (.cons false (.cst (.str ⟨#[100, 101, 112, 116]⟩)) (.cons false (.cst (.str ⟨#[100, 101, 112, 116]⟩)) .nil))) .nil)) .nil)))) .nil))))
 (.cons (.asg false (.slot 0) (.tup (.cons false (.cst (.str ⟨#[106, 111, 98]⟩)) (.cons false (.tup (.cons false (.cst (.str ⟨#[105, 100]⟩)) (.cons false (.cst (.str ⟨#[98]⟩)) (.cons false (.cst (.str ⟨#[97]⟩)) (.cons false (.cst (.str ⟨#[112, 97, 121]⟩)) .nil))))) (.cons false (.tup (.cons false (.tup (.cons false (.cst (.str ⟨#[97]⟩)) (.cons false (.cst (.str ⟨#[100, 101, 112, 116]⟩)) .nil))) (.cons false (.tup (.cons false (.cst (.str ⟨#[98]⟩)) (.cons false (.cst (.str ⟨#[101, 109, 112]⟩)) .nil))) (.cons false (.tup (.cons false (.cst (.str ⟨#[112, 97, 121]⟩)) (.cons false (.cst (.str ⟨#[100, 101, 112, 116]⟩)) .nil))) .nil)))) .nil)))))
 (.cons (.asg false (.slot 1) (.lst (.cons false (.tup (.cons false (.var 2) .nil)) (.cons false (.tup (.cons false (.var 2) (.cons false (.var 3) .nil))) (.cons false (.tup (.cons false (.var 2) (.cons false (.var 3) (.cons false (.var 0) .nil)))) (.cons false (.tup (.cons false (.tup (.cons false (.cst (.str ⟨#[97]⟩)) (.cons false (.tup (.cons false (.cst (.str ⟨#[97]⟩)) .nil)) (.cons false (.tup .nil) .nil)))) .nil)) (.cons false (.tup (.cons false (.op .add (.sl (.var 3) .none (.some (.cst (.int 2)))) (.tup (.cons false (.tup .nil) .nil))) .nil)) .nil)))))))
 (.cons (.asg false (.slot 1) (.op .add (.var 1) (.lst (.cons false (.tup (.cons false (.tup (.cons false (.cst (.str ⟨#[97, 98, 99, 100, 101, 102, 103, 104]⟩)) (.cons false (.tup (.cons false (.cst (.str ⟨#[97, 98, 99, 100, 101, 102, 103, 104]⟩)) (.cons false (.cst (.str ⟨#[122]⟩)) .nil))) (.cons false (.tup .nil) .nil)))) .nil)) (.cons false (.tup (.cons false (.var 2) (.cons false (.tup (.cons false (.cst (.str ⟨#[101, 109, 112]⟩)) (.cons false (.tup (.cons false (.cst (.str ⟨#[100, 101, 112, 116]⟩)) (.cons false (.cst (.str ⟨#[105, 100]⟩)) .nil))) (.cons false (.tup (.cons false (.tup (.cons false (.cst (.str ⟨#[105, 100]⟩)) (.cons false (.cst (.str ⟨#[100, 101, 112, 116]⟩)) .nil))) .nil)) .nil)))) .nil))) .nil)))))
 (.cons (.ret (.tup (.cons false (.var 2) (.cons false (.var 3) (.cons false (.var 0) (.cons false (.var 1) .nil))))))
 .nil)))))
def f_l_good : FD := ⟨⟨#[95, 108, 97, 119, 95, 103, 111, 111, 100]⟩, [], [⟨#[95, 108, 97, 119, 95, 119, 105, 100, 101, 95, 115, 111]⟩, ⟨#[95, 108, 97, 119, 95, 103, 111, 111, 100, 95, 115, 111]⟩, ⟨#[95, 108, 97, 119, 95, 100, 101, 112, 116, 95, 115, 111]⟩, ⟨#[95, 108, 97, 119, 95, 101, 109, 112, 95, 115, 111]⟩], .mini, false, b_l_good⟩
def b_l_by_hand_right : MSs := (.cons (.asg false (.tup (.cons (.slot 5) (.cons (.slot 6) (.cons (.slot 7) (.cons (.slot 8) .nil))))) (.call 16 .nil))
 (.cons (.asg true (.slot 0) (.lst (.cons false (.tup .nil) (.cons false (.lst .nil) (.cons false (.lst (.cons false (.var 5) .nil)) (.cons false (.tup (.cons false (.bi .list (.var 5)) .nil)) (.cons false (.tup (.cons false (.var 6) .nil)) (.cons false (.tup (.cons false (.var 6) (.cons false (.var 5) .nil))) (.cons false (.tup (.cons false (.var 5) (.cons false (.var 5) .nil))) (.cons false (.var 5) (.cons false (.cst .non) (.cons false (.cst (.int 5)) .nil))))))))))))
 (.cons (.asg true (.slot 0) (.op .add (.bor 0) (.lst (.cons false (.cst (.str ⟨#[100, 101, 112, 116]⟩)) (.cons false (.cst (.bl true)) (.cons false (.mk 0 (.cons false (.cst (.str ⟨#[97]⟩)) .nil)) (.cons false (.tup (.cons false (.mk 0 (.cons false (.cst (.str ⟨#[97]⟩)) .nil)) .nil)) (.cons false (.tup (.cons false (.var 5) (.cons false (.var 6) (.cons false (.var 7) (.cons false (.tup (.cons false (.cst (.str ⟨#[120]⟩)) (.cons false (.tup (.cons false (.cst (.str ⟨#[105, 100]⟩)) .nil)) (.cons false (.tup .nil) .nil)))) .nil))))) .nil))))))))
 (.cons (.for_ (.slot 1) (.it (.lst (.cons false (.cst (.str ⟨#[]⟩)) (.cons false (.cst (.str ⟨#[65]⟩)) (.cons false (.cst (.str ⟨#[97, 49]⟩)) (.cons false (.cst (.str ⟨#[97, 98, 99, 100, 101, 102, 103, 104, 105]⟩)) (.cons false (.cst (.str ⟨#[97, 32, 98]⟩)) (.cons false (.cst (.str ⟨#[97, 10]⟩)) (.cons false (.cst .non) (.cons false (.cst (.int 5)) (.cons false (.tup (.cons false (.cst (.str ⟨#[97]⟩)) .nil)) (.cons false (.mk 0 (.cons false (.cst (.str ⟨#[97]⟩)) .nil)) (.cons false (.lst (.cons false (.cst (.str ⟨#[97]⟩)) .nil)) .nil))))))))))))) [1]
 (.cons (.asg true (.slot 0) (.op .add (.bor 0) (.lst (.cons false (.tup (.cons false (.tup (.cons false (.var 1) (.cons false (.tup (.cons false (.cst (.str ⟨#[105, 100]⟩)) .nil)) (.cons false (.tup .nil) .nil)))) .nil)) (.cons false (.tup (.cons false (.tup (.cons false (.cst (.str ⟨#[97]⟩)) (.cons false (.tup (.cons false (.cst (.str ⟨#[105, 100]⟩)) (.cons false (.var 1) .nil))) (.cons false (.tup .nil) .nil)))) .nil)) (.cons false (.tup (.cons false (.tup (.cons false (.cst (.str ⟨#[97]⟩)) (.cons false (.tup (.cons false (.var 1) .nil)) (.cons false (.tup .nil) .nil)))) .nil)) .nil))))))
 (.cons (.asg true (.slot 0) (.op .add (.bor 0) (.lst (.cons false (.tup (.cons false (.var 5) (.cons false (.tup (.cons false (.cst (.str ⟨#[101, 109, 112]⟩)) (.cons false (.tup (.cons false (.cst (.str ⟨#[105, 100]⟩)) (.cons false (.cst (.str ⟨#[98]⟩)) .nil))) (.cons false (.tup (.cons false (.tup (.cons false (.cst (.str ⟨#[98]⟩)) (.cons false (.var 1) .nil))) .nil)) .nil)))) .nil))) (.cons false (.tup (.cons false (.var 5) (.cons false (.tup (.cons false (.cst (.str ⟨#[101, 109, 112]⟩)) (.cons false (.tup (.cons false (.cst (.str ⟨#[105, 100]⟩)) (.cons false (.cst (.str ⟨#[98]⟩)) .nil))) (.cons false (.tup (.cons false (.tup (.cons false (.var 1) (.cons false (.cst (.str ⟨#[100, 101, 112, 116]⟩)) .nil))) .nil)) .nil)))) .nil))) .nil)))))
 .nil)))
 (.cons (.for_ (.slot 2) (.it (.lst (.cons false (.tup .nil) (.cons false (.tup (.cons false (.cst (.str ⟨#[105, 100]⟩)) (.cons false (.cst (.str ⟨#[105, 100]⟩)) .nil))) (.cons false (.tup (.cons false (.cst (.str ⟨#[105, 100]⟩)) (.cons false (.cst (.str ⟨#[97]⟩)) (.cons false (.cst (.str ⟨#[98]⟩)) (.cons false (.cst (.str ⟨#[99]⟩)) (.cons false (.cst (.str ⟨#[100]⟩)) .nil)))))) (.cons false (.lst (.cons false (.cst (.str ⟨#[105, 100]⟩)) .nil)) (.cons false (.cst (.str ⟨#[105, 100]⟩)) (.cons false (.cst .non) (.cons false (.tup (.cons false (.cst (.str ⟨#[105, 100]⟩)) (.cons false (.cst (.str ⟨#[97]⟩)) (.cons false (.cst (.str ⟨#[97]⟩)) .nil)))) .nil))))))))) [2]
 (.cons (.app 0 (.tup (.cons false (.tup (.cons false (.cst (.str ⟨#[97]⟩)) (.cons false (.var 2) (.cons false (.tup .nil) .nil)))) .nil)))
 .nil))
 (.cons (.for_ (.slot 3) (.it (.lst (.cons false (.lst .nil) (.cons false (.lst (.cons false (.tup (.cons false (.cst (.str ⟨#[98]⟩)) (.cons false (.cst (.str ⟨#[100, 101, 112, 116]⟩)) .nil))) .nil)) (.cons false (.tup (.cons false (.tup (.cons false (.cst (.str ⟨#[105, 100]⟩)) (.cons false (.cst (.str ⟨#[100, 101, 112, 116]⟩)) .nil))) .nil)) (.cons false (.tup (.cons false (.tup (.cons false (.cst (.str ⟨#[98]⟩)) (.cons false (.cst (.str ⟨#[101, 109, 112]⟩)) .nil))) .nil)) (.cons false (.tup (.cons false (.tup (.cons false (.cst (.str ⟨#[98]⟩)) (.cons false (.cst (.str ⟨#[106, 111, 98]⟩)) .nil))) .nil)) (.cons false (.tup (.cons false (.tup (.cons false (.cst (.str ⟨#[99]⟩)) (.cons false (.cst (.str ⟨#[100, 101, 112, 116]⟩)) .nil))) .nil)) (.cons false (.tup (.cons false (.cst (.str ⟨#[98]⟩)) (.cons false (.cst (.str ⟨#[100, 101, 112, 116]⟩)) .nil))) .nil))))))))) []
 (.cons (.app 0 (.tup (.cons false (.var 5) (.cons false (.tup (.cons false (.cst (.str ⟨#[101, 109, 112]⟩)) (.cons false (.tup (.cons false (.cst (.str ⟨#[105, 100]⟩)) (.cons false (.cst (.str ⟨#[98]⟩)) (.cons false (.cst (.str ⟨#[97]⟩)) .nil)))) (.cons false (.var 3) .nil)))) .nil))))
 .nil))
 (.cons (.for_ (.slot 3) (.it (.lst (.cons false (.tup (.cons false (.tup (.cons false (.cst (.str ⟨#[98]⟩)) (.cons false (.cst (.str ⟨#[100, 101, 112, 116]⟩)) .nil))) (.cons false (.tup (.cons false (.cst (.str ⟨#[97]⟩)) (.cons false (.cst (.str ⟨#[100, 101, 112, 116]⟩)) .nil))) .nil))) (.cons false (.tup (.cons false (.tup (.cons false (.cst (.str ⟨#[97]⟩)) (.cons false (.cst (.str ⟨#[100, 101, 112, 116]⟩)) .nil))) (.cons false (.tup (.cons false (.cst (.str ⟨#[97]⟩)) (.cons false (.cst (.str ⟨#[100, 101, 112, 116]⟩)) .nil))) .nil))) (.cons false (.tup (.cons false (.tup (.cons false (.cst (.str ⟨#[98]⟩)) .nil)) .nil)) (.cons false (.tup (.cons false (.tup (.cons false (.cst (.str ⟨#[98]⟩)) (.cons false (.cst (.str ⟨#[100, 101, 112, 116]⟩)) (.cons false (.cst (.int 1)) .nil)))) .nil)) (.cons false (.cst .non) .nil))))))) []
 (.cons (.app 0 (.tup (.cons false (.var 5) (.cons false (.tup (.cons false (.cst (.str ⟨#[101, 109, 112]⟩)) (.cons false (.tup (.cons false (.cst (.str ⟨#[105, 100]⟩)) (.cons false (.cst (.str ⟨#[98]⟩)) (.cons false (.cst (.str ⟨#[97]⟩)) .nil)))) (.cons false (.var 3) .nil)))) .nil))))
 .nil))
 (.cons (.asg true (.slot 0) (.op .add (.bor 0) (.lst (.cons false (.tup (.cons false (.var 5) (.cons false (.tup (.cons false (.cst (.str ⟨#[101, 109, 112]⟩)) (.cons false (.tup (.cons false (.cst (.str ⟨#[105, 100]⟩)) (.cons false (.cst (.str ⟨#[98]⟩)) .nil))) (.cons false (.tup (.cons false (.lst (.cons false (.cst (.str ⟨#[98]⟩)) (.cons false (.cst (.str ⟨#[100, 101, 112, 116]⟩)) .nil))) .nil)) .nil)))) .nil))) (.cons false (.tup (.cons false (.sl (.var 5) .none (.some (.cst (.int 2)))) .nil)) (.cons false (.tup (.cons false (.op .add (.var 5) (.tup (.cons false (.tup .nil) .nil))) .nil)) (.cons false (.tup (.cons false (.tup .nil) .nil)) .nil)))))))
 (.cons (.asg false (.slot 4) (.lst (.cons false (.comp (.call 5 (.cons false (.var 9) .nil)) (.slot 9) (.it (.var 8)) .nil [9]) (.cons false (.comp (.call 5 (.cons false (.var 9) .nil)) (.slot 9) (.it (.bor 0)) .nil [9]) (.cons false (.callK 5 .nil (.cons false (.tup (.cons false (.var 5) .nil)) .nil) [0]) .nil)))))
 (.cons (.ret (.call 10 (.cons false (.var 4) (.cons false (.lst (.cons false (.op .mul (.lst (.cons false (.cst (.bl true)) .nil)) (.cst (.int 7))) (.cons false (.op .mul (.lst (.cons false (.cst (.bl false)) .nil)) (.cst (.int 93))) (.cons false (.cst (.bl true)) .nil)))) .nil))))
 .nil))))))))))
def f_l_by_hand_right : FD := ⟨⟨#[95, 108, 97, 119, 95, 98, 121, 95, 104, 97, 110, 100, 95, 114, 105, 103, 104, 116]⟩, [], [⟨#[95, 108, 97, 119, 95, 111, 100, 100, 95, 115, 111]⟩, ⟨#[95, 108, 97, 119, 95, 116, 97, 103, 95, 115, 111]⟩, ⟨#[95, 108, 97, 119, 95, 108, 105, 110, 101, 115, 95, 115, 111]⟩, ⟨#[95, 108, 97, 119, 95, 116, 105, 101, 115, 95, 115, 111]⟩, ⟨#[95, 108, 97, 119, 95, 103, 111, 116]⟩, ⟨#[95, 108, 97, 119, 95, 100, 101, 112, 116, 95, 115, 111]⟩, ⟨#[95, 108, 97, 119, 95, 101, 109, 112, 95, 115, 111]⟩, ⟨#[95, 108, 97, 119, 95, 119, 105, 100, 101, 95, 115, 111]⟩, ⟨#[95, 108, 97, 119, 95, 103, 111, 111, 100, 95, 115, 111]⟩, ⟨#[95, 108, 97, 119, 95, 111, 119, 110]⟩], .mini, false, b_l_by_hand_right⟩
def b_l_right : MSs := (.cons (.for_ (.slot 1) (.range (.cst (.int 8))) [1, 2, 3, 4]
 (.cons (.asg false (.slot 2) (.call 14 (.cons false (.var 0) .nil)))
 (.cons (.asg true (.slot 3) (.lst (.cons false (.var 2) (.cons false (.bi .list (.var 2)) (.cons false (.rev (.var 2)) .nil)))))
 (.cons (.for_ (.slot 4) (.range (.cst (.int 12))) [4]
 (.cons (.app 3 (.call 15 (.cons false (.var 0) (.cons false (.var 2) .nil))))
 .nil))
 (.cons (.ite (.notE (.call 10 (.cons false (.comp (.call 5 (.cons false (.var 5) .nil)) (.slot 5) (.it (.bor 3)) .nil [5]) (.cons false (.comp (.call 13 (.cons false (.var 5) .nil)) (.slot 5) (.it (.bor 3)) .nil [5]) .nil))))
 (.cons (.ret (.cst (.bl false)))
 .nil)
 .nil)
 (.cons (.ite (.notE (.call 5 (.cons false (.var 2) .nil)))
 (.cons (.ret (.cst (.bl false)))
 .nil)
 .nil)
 .nil))))))
 (.cons (.ret (.cst (.bl true)))
 .nil))
def f_l_right : FD := ⟨⟨#[95, 108, 97, 119, 95, 114, 105, 103, 104, 116]⟩, [⟨#[95, 108, 97, 119, 95, 98, 111, 120, 95, 104, 101, 114, 101]⟩], [⟨#[95, 108, 97, 119, 95, 98, 111, 120, 95, 104, 101, 114, 101]⟩, ⟨#[95, 108, 97, 119, 95, 116, 117, 114, 110]⟩, ⟨#[95, 108, 97, 119, 95, 107, 105, 110, 100, 115, 95, 115, 111]⟩, ⟨#[95, 108, 97, 119, 95, 112, 111, 111, 108, 95, 115, 111]⟩, ⟨#[95, 108, 97, 119, 95, 108, 97, 112]⟩, ⟨#[95, 108, 97, 119, 95, 111, 119, 110]⟩], .mini, false, b_l_right⟩
def b_law : MSs := (.cons (.ite (.notE (.call 17 .nil))
 (.cons (.ret (.cst (.bl false)))
 .nil)
 .nil)
 (.cons (.asg false (.slot 1) (.call 8 (.cons false (.var 0) (.cons false (.cst (.int 3)) .nil))))
 (.cons (.ret (.bi .all (.comp (.boxed 18 (.call 6 (.cons false (.var 1) (.cons false (.var 2) .nil)))) (.slot 2) (.range (.bi .len (.var 1))) .nil [2])))
 .nil)))
def f_law : FD := ⟨⟨#[108, 97, 119]⟩, [⟨#[95, 108, 97, 119, 95, 115, 99, 114, 105, 112, 116]⟩], [⟨#[95, 108, 97, 119, 95, 115, 99, 114, 105, 112, 116]⟩, ⟨#[95, 108, 97, 119, 95, 99, 101, 108, 108, 115, 95, 115, 111]⟩, ⟨#[95, 108, 97, 119, 95, 107]⟩], .mini, false, b_law⟩
def prog : Prg := ⟨[f_rises, f_is_name, f_is_tuple_of, f_are_columns, f_is_kind, f_is_schema, f_l_box, f_l_take, f_l_cells, f_l_of, f_l_same, f_l_mixed, f_l_tag, f_l_is, f_l_kinds, f_l_bent, f_l_good, f_l_by_hand_right, f_l_right, f_law], [(⟨#[76, 69, 84, 84, 69, 82, 83]⟩, .str ⟨#[97, 98, 99, 100, 101, 102, 103, 104, 105, 106, 107, 108, 109, 110, 111, 112, 113, 114, 115, 116, 117, 118, 119, 120, 121, 122]⟩), (⟨#[76, 79, 78, 71, 69, 83, 84]⟩, .int 8), (⟨#[77, 79, 83, 84, 95, 75, 73, 78, 68, 83]⟩, .int 3), (⟨#[77, 79, 83, 84, 95, 67, 79, 76, 85, 77, 78, 83]⟩, .int 4), (⟨#[80, 65, 73, 82]⟩, .int 2), (⟨#[84, 82, 73, 80, 76, 69]⟩, .int 3)]⟩
def i_rises : Nat := 0
def i_is_name : Nat := 1
def i_is_tuple_of : Nat := 2
def i_are_columns : Nat := 3
def i_is_kind : Nat := 4
def i_is_schema : Nat := 5
def i_l_box : Nat := 6
def i_l_take : Nat := 7
def i_l_cells : Nat := 8
def i_l_of : Nat := 9
def i_l_same : Nat := 10
def i_l_mixed : Nat := 11
def i_l_tag : Nat := 12
def i_l_is : Nat := 13
def i_l_kinds : Nat := 14
def i_l_bent : Nat := 15
def i_l_good : Nat := 16
def i_l_by_hand_right : Nat := 17
def i_l_right : Nat := 18
def i_law : Nat := 19
abbrev RW : PySem.W.OpenLaw := PySem.Challenge.rw_columnsfelt_k01_schemas_or_none
def top (i : Nat) : Stmt := PySem.Challenge.pw_columnsfelt_k01_schemas_or_none.main.body.getD i (.Pass ⟨0, 0, 0, 0⟩)
def defName (s : Stmt) : Str := match s with
  | .FunctionDef n _ _ _ _ _ _ _ _ _ => n
  | _ => "law"
def mkD (i : Nat) : He.DefD := ⟨(defName (top i), none), defName (top i), defName (top i), defArgs (top i), defBody (top i), defScope (top i), [], []⟩
def clsPart (i k : Nat) : Stmt := match top i with
  | .ClassDef _ _ _ body _ _ _ _ _ _ _ => body.getD k (.Pass ⟨0, 0, 0, 0⟩)
  | _ => .Pass ⟨0, 0, 0, 0⟩
def clsRow (j : Nat) (me : Str) (i k : Nat) : CD := ⟨j, me, defArgs (clsPart i k), defBody (clsPart i k), defScope (clsPart i k)⟩
def fn : List He.DefD := [3, 11, 12, 13, 14, 15, 17, 18, 19, 20, 21, 22, 23, 24, 25, 26, 27, 28, 29, 30].map mkD
def free : List Str := (["LookupError", "abs", "all", "bool", "enumerate", "int", "isinstance", "len", "list", "range", "set", "sorted", "str", "super", "tuple", "zip"] : List PySem.Str)
def cs : List Nat := [0]
def cds : List CD := [clsRow 0 "self" 1 0]
abbrev fa : List He.Fa := faOf prog free
abbrev R : PySem.W.OpenRow := PySem.W.OpenLaw.row RW
def file : Str := RW.prog.main.file
theorem ck : ckAll prog free cs cds fn = true := by kernel_rfl
abbrev hk : PySem.W.Hook := hookX 5 file cs cds fa fn
def ob (s : PySem.W.SharedT) : AlX := obsXG 5 file cs cds fa fn (HandSHeadRun.getT s)
theorem ob_eq (s : PySem.W.SharedT) : ob s = hk.obs s.abs := obsXG_eq (HandSHeadRun.getT_eq s)
def names : List PySem.Str := (["NoKind", "rises", "LETTERS", "LONGEST", "MOST_KINDS", "MOST_COLUMNS", "PAIR", "TRIPLE", "is_name", "is_tuple_of", "are_columns", "is_kind", "is_schema", "_law_box", "_law_take", "_law_cells", "_law_of", "_law_same", "_law_mixed", "_law_tag", "_law_is", "_law_kinds", "_law_bent", "_law_good", "_law_by_hand_right", "_law_right"] : List PySem.Str)
theorem run_head (w : World) : HandSHeadRun.RunEq R (PySem.W.view R.prog [30]) hk ob 4000 names w := by
  intro os
  kernel_rfl
end LK
set_option maxHeartbeats 4000000
namespace LK
open PySem Mi
theorem hand (ns : List Int) (k : Nat) : run prog ns (k + 12) i_l_by_hand_right [] none = .ok (.bl true) none := by kernel_rfl
section
variable {ns : List Int} {k : Nat}
def sgOk (c : Nat) : Bool := decide (97 ≤ c) && decide (c ≤ 122)
def isNm : D → Bool
  | .str x => decide (1 ≤ x.cps.size) && decide (x.cps.size ≤ 8) && x.cps.toList.all sgOk
  | _ => false
theorem let_ok (c : Nat) : (decide (c ∈ ([97, 98, 99, 100, 101, 102, 103, 104, 105, 106, 107, 108, 109, 110, 111, 112, 113, 114, 115, 116, 117, 118, 119, 120, 121, 122] : List Nat))) = sgOk c := by
  unfold sgOk
  rw [Bool.eq_iff_iff]
  simp only [decide_eq_true_eq, Bool.and_eq_true, List.mem_cons, List.not_mem_nil, or_false]
  omega
theorem isNm_str (x : Str) : isNm (.str x) = (decide (1 ≤ x.cps.size) && decide (x.cps.size ≤ 8) && x.cps.toList.all sgOk) := rfl
theorem g0 : prog.glob 0 = some (.str "abcdefghijklmnopqrstuvwxyz") := by kernel_rfl
theorem g1 : prog.glob 1 = some (.int 8) := by kernel_rfl
theorem g2 : prog.glob 2 = some (.int 3) := by kernel_rfl
theorem g3 : prog.glob 3 = some (.int 4) := by kernel_rfl
theorem g4 : prog.glob 4 = some (.int 2) := by kernel_rfl
theorem g5 : prog.glob 5 = some (.int 3) := by kernel_rfl
theorem in_let (c : Nat) : evOp .inn (.str ⟨#[c]⟩) (.str "abcdefghijklmnopqrstuvwxyz") = some (.bl (sgOk c)) := by
  rw [← let_ok]
  have e : ("abcdefghijklmnopqrstuvwxyz" : Str).cps.toList = [97, 98, 99, 100, 101, 102, 103, 104, 105, 106, 107, 108, 109, 110, 111, 112, 113, 114, 115, 116, 117, 118, 119, 120, 121, 122] := by kernel_rfl
  show some (D.bl (xor false (decide (c ∈ ("abcdefghijklmnopqrstuvwxyz" : Str).cps.toList)))) = _
  rw [e, Bool.false_xor]
theorem is_name_eq {d : D} (h : D.py d = true) : run prog ns (k + 1) i_is_name [d] = M.ret (.bl (isNm d)) := by
  show (exSs ⟨run prog ns k, prog.glob, ns⟩ b_is_name [.vl d, .no]).bd rtM = _
  cases d <;> first | (cases h; done) | skip
  case str x =>
    by_cases h1 : (1 : Int) ≤ x.cps.size
    · by_cases h2 : (x.cps.size : Int) ≤ 8
      · simp only [exSs, exS, evE, evT, evP, evTOr, evTAnd, evAnd, evOr, evEs, evSrc, evO, evTs, tr, bd_ret, nex_ret, bd_assoc, bd_no, ofO_some, ofO_none, asB_ret, asB_no, List.getElem?_cons_zero, List.getElem?_cons_succ, anyTy, D.isTy, truth_non, truth_bl, truth_int, truth_lst, truth_tup, asB_bl, asI_int, walk_lst, walk_tup, walk_str, items_lst, items_tup, len_lst, len_tup, len_str, int_int, int_bl, abs_int, list_lst, list_tup, tuple_lst, tuple_tup, all_lst, any_lst, lt_int, le_int, gt_int, ge_int, add_int, sub_int, eq_int, ne_int, ix_lst, ix_tup, sl_lst, sl_tup, rev_tup, rev_lst, at0, at1, at2,  bindT, bindTs, setOwn, slOf_lst, slOf_tup, slOf_int, slOf_bl, slOf_str, slOf_non, slOf_f,  List.set_cons_zero, List.set_cons_succ, List.length_cons, List.length_nil, Env.kill, Env.noOw, isOw_vl, isOw_ow, isOw_no, evs_nil, List.all_cons, List.all_nil, Option.getD_some, Option.getD_none, Option.map_some, Option.map_none, rtM_rt, rtM_nx, Bool.not_true, Bool.not_false, Bool.true_and, Bool.and_true, Bool.false_and, Bool.and_false, Bool.false_eq_true, if_true, if_false, ite_true, ite_false, Nat.reduceAdd, Nat.reduceLT, Nat.reduceLeDiff, Nat.zero_lt_succ, Nat.zero_le, Bool.xor_false, Bool.false_xor, Bool.true_xor, List.map_cons, List.map_nil, b_is_name, g0, g1, decide_eq_true h1, decide_eq_true h2, strItems]
        rw [compGo_map (g := fun d => match d with | .str y => .bl (y.cps.toList.all sgOk) | _ => .non) (fun d hd => by
          obtain ⟨c, _, rfl⟩ := List.mem_map.mp hd
          simp only [exSs, exS, evE, evT, evP, evTOr, evTAnd, evAnd, evOr, evEs, evSrc, evO, evTs, tr, bd_ret, nex_ret, bd_assoc, bd_no, ofO_some, ofO_none, asB_ret, asB_no, List.getElem?_cons_zero, List.getElem?_cons_succ, anyTy, D.isTy, truth_non, truth_bl, truth_int, truth_lst, truth_tup, asB_bl, asI_int, walk_lst, walk_tup, walk_str, items_lst, items_tup, len_lst, len_tup, len_str, int_int, int_bl, abs_int, list_lst, list_tup, tuple_lst, tuple_tup, all_lst, any_lst, lt_int, le_int, gt_int, ge_int, add_int, sub_int, eq_int, ne_int, ix_lst, ix_tup, sl_lst, sl_tup, rev_tup, rev_lst, at0, at1, at2,  bindT, bindTs, setOwn, slOf_lst, slOf_tup, slOf_int, slOf_bl, slOf_str, slOf_non, slOf_f,  List.set_cons_zero, List.set_cons_succ, List.length_cons, List.length_nil, Env.kill, Env.noOw, isOw_vl, isOw_ow, isOw_no, evs_nil, List.all_cons, List.all_nil, Option.getD_some, Option.getD_none, Option.map_some, Option.map_none, rtM_rt, rtM_nx, Bool.not_true, Bool.not_false, Bool.true_and, Bool.and_true, Bool.false_and, Bool.and_false, Bool.false_eq_true, if_true, if_false, ite_true, ite_false, Nat.reduceAdd, Nat.reduceLT, Nat.reduceLeDiff, Nat.zero_lt_succ, Nat.zero_le, Bool.xor_false, Bool.false_xor, Bool.true_xor, List.map_cons, List.map_nil, in_let])]
        simp only [exSs, exS, evE, evT, evP, evTOr, evTAnd, evAnd, evOr, evEs, evSrc, evO, evTs, tr, bd_ret, nex_ret, bd_assoc, bd_no, ofO_some, ofO_none, asB_ret, asB_no, List.getElem?_cons_zero, List.getElem?_cons_succ, anyTy, D.isTy, truth_non, truth_bl, truth_int, truth_lst, truth_tup, asB_bl, asI_int, walk_lst, walk_tup, walk_str, items_lst, items_tup, len_lst, len_tup, len_str, int_int, int_bl, abs_int, list_lst, list_tup, tuple_lst, tuple_tup, all_lst, any_lst, lt_int, le_int, gt_int, ge_int, add_int, sub_int, eq_int, ne_int, ix_lst, ix_tup, sl_lst, sl_tup, rev_tup, rev_lst, at0, at1, at2,  bindT, bindTs, setOwn, slOf_lst, slOf_tup, slOf_int, slOf_bl, slOf_str, slOf_non, slOf_f,  List.set_cons_zero, List.set_cons_succ, List.length_cons, List.length_nil, Env.kill, Env.noOw, isOw_vl, isOw_ow, isOw_no, evs_nil, List.all_cons, List.all_nil, Option.getD_some, Option.getD_none, Option.map_some, Option.map_none, rtM_rt, rtM_nx, Bool.not_true, Bool.not_false, Bool.true_and, Bool.and_true, Bool.false_and, Bool.and_false, Bool.false_eq_true, if_true, if_false, ite_true, ite_false, Nat.reduceAdd, Nat.reduceLT, Nat.reduceLeDiff, Nat.zero_lt_succ, Nat.zero_le, Bool.xor_false, Bool.false_xor, Bool.true_xor, List.map_cons, List.map_nil, List.length_map, Array.length_toList]
        rw [if_pos (by unfold lineMax; omega), List.map_map]
        have e : bools (x.cps.toList.map ((fun d => match d with | .str y => D.bl (y.cps.toList.all sgOk) | _ => .non) ∘ fun c => D.str ⟨#[c]⟩)) = some (x.cps.toList.map sgOk) := by
          rw [← bools_map]
          congr 1
          apply List.map_congr_left
          intro c _
          simp
        simp only [exSs, exS, evE, evT, evP, evTOr, evTAnd, evAnd, evOr, evEs, evSrc, evO, evTs, tr, bd_ret, nex_ret, bd_assoc, bd_no, ofO_some, ofO_none, asB_ret, asB_no, List.getElem?_cons_zero, List.getElem?_cons_succ, anyTy, D.isTy, truth_non, truth_bl, truth_int, truth_lst, truth_tup, asB_bl, asI_int, walk_lst, walk_tup, walk_str, items_lst, items_tup, len_lst, len_tup, len_str, int_int, int_bl, abs_int, list_lst, list_tup, tuple_lst, tuple_tup, all_lst, any_lst, lt_int, le_int, gt_int, ge_int, add_int, sub_int, eq_int, ne_int, ix_lst, ix_tup, sl_lst, sl_tup, rev_tup, rev_lst, at0, at1, at2,  bindT, bindTs, setOwn, slOf_lst, slOf_tup, slOf_int, slOf_bl, slOf_str, slOf_non, slOf_f,  List.set_cons_zero, List.set_cons_succ, List.length_cons, List.length_nil, Env.kill, Env.noOw, isOw_vl, isOw_ow, isOw_no, evs_nil, List.all_cons, List.all_nil, Option.getD_some, Option.getD_none, Option.map_some, Option.map_none, rtM_rt, rtM_nx, Bool.not_true, Bool.not_false, Bool.true_and, Bool.and_true, Bool.false_and, Bool.and_false, Bool.false_eq_true, if_true, if_false, ite_true, ite_false, Nat.reduceAdd, Nat.reduceLT, Nat.reduceLeDiff, Nat.zero_lt_succ, Nat.zero_le, Bool.xor_false, Bool.false_xor, Bool.true_xor, List.map_cons, List.map_nil, e]
        rw [isNm_str, decide_eq_true (show 1 ≤ x.cps.size by omega), decide_eq_true (show x.cps.size ≤ 8 by omega)]
        simp [List.all_map]
      · simp only [exSs, exS, evE, evT, evP, evTOr, evTAnd, evAnd, evOr, evEs, evSrc, evO, evTs, tr, bd_ret, nex_ret, bd_assoc, bd_no, ofO_some, ofO_none, asB_ret, asB_no, List.getElem?_cons_zero, List.getElem?_cons_succ, anyTy, D.isTy, truth_non, truth_bl, truth_int, truth_lst, truth_tup, asB_bl, asI_int, walk_lst, walk_tup, walk_str, items_lst, items_tup, len_lst, len_tup, len_str, int_int, int_bl, abs_int, list_lst, list_tup, tuple_lst, tuple_tup, all_lst, any_lst, lt_int, le_int, gt_int, ge_int, add_int, sub_int, eq_int, ne_int, ix_lst, ix_tup, sl_lst, sl_tup, rev_tup, rev_lst, at0, at1, at2,  bindT, bindTs, setOwn, slOf_lst, slOf_tup, slOf_int, slOf_bl, slOf_str, slOf_non, slOf_f,  List.set_cons_zero, List.set_cons_succ, List.length_cons, List.length_nil, Env.kill, Env.noOw, isOw_vl, isOw_ow, isOw_no, evs_nil, List.all_cons, List.all_nil, Option.getD_some, Option.getD_none, Option.map_some, Option.map_none, rtM_rt, rtM_nx, Bool.not_true, Bool.not_false, Bool.true_and, Bool.and_true, Bool.false_and, Bool.and_false, Bool.false_eq_true, if_true, if_false, ite_true, ite_false, Nat.reduceAdd, Nat.reduceLT, Nat.reduceLeDiff, Nat.zero_lt_succ, Nat.zero_le, Bool.xor_false, Bool.false_xor, Bool.true_xor, List.map_cons, List.map_nil, b_is_name, g0, g1, decide_eq_true h1, decide_eq_false h2]
        rw [isNm_str, decide_eq_false (show ¬ x.cps.size ≤ 8 by omega)]
        simp
    · simp only [exSs, exS, evE, evT, evP, evTOr, evTAnd, evAnd, evOr, evEs, evSrc, evO, evTs, tr, bd_ret, nex_ret, bd_assoc, bd_no, ofO_some, ofO_none, asB_ret, asB_no, List.getElem?_cons_zero, List.getElem?_cons_succ, anyTy, D.isTy, truth_non, truth_bl, truth_int, truth_lst, truth_tup, asB_bl, asI_int, walk_lst, walk_tup, walk_str, items_lst, items_tup, len_lst, len_tup, len_str, int_int, int_bl, abs_int, list_lst, list_tup, tuple_lst, tuple_tup, all_lst, any_lst, lt_int, le_int, gt_int, ge_int, add_int, sub_int, eq_int, ne_int, ix_lst, ix_tup, sl_lst, sl_tup, rev_tup, rev_lst, at0, at1, at2,  bindT, bindTs, setOwn, slOf_lst, slOf_tup, slOf_int, slOf_bl, slOf_str, slOf_non, slOf_f,  List.set_cons_zero, List.set_cons_succ, List.length_cons, List.length_nil, Env.kill, Env.noOw, isOw_vl, isOw_ow, isOw_no, evs_nil, List.all_cons, List.all_nil, Option.getD_some, Option.getD_none, Option.map_some, Option.map_none, rtM_rt, rtM_nx, Bool.not_true, Bool.not_false, Bool.true_and, Bool.and_true, Bool.false_and, Bool.and_false, Bool.false_eq_true, if_true, if_false, ite_true, ite_false, Nat.reduceAdd, Nat.reduceLT, Nat.reduceLeDiff, Nat.zero_lt_succ, Nat.zero_le, Bool.xor_false, Bool.false_xor, Bool.true_xor, List.map_cons, List.map_nil, b_is_name, g0, g1, decide_eq_false h1]
      rw [isNm_str, decide_eq_false (show ¬ 1 ≤ x.cps.size by omega)]
      simp
  all_goals (simp only [exSs, exS, evE, evT, evP, evTOr, evTAnd, evAnd, evOr, evEs, evSrc, evO, evTs, tr, bd_ret, nex_ret, bd_assoc, bd_no, ofO_some, ofO_none, asB_ret, asB_no, List.getElem?_cons_zero, List.getElem?_cons_succ, anyTy, D.isTy, truth_non, truth_bl, truth_int, truth_lst, truth_tup, asB_bl, asI_int, walk_lst, walk_tup, walk_str, items_lst, items_tup, len_lst, len_tup, len_str, int_int, int_bl, abs_int, list_lst, list_tup, tuple_lst, tuple_tup, all_lst, any_lst, lt_int, le_int, gt_int, ge_int, add_int, sub_int, eq_int, ne_int, ix_lst, ix_tup, sl_lst, sl_tup, rev_tup, rev_lst, at0, at1, at2,  bindT, bindTs, setOwn, slOf_lst, slOf_tup, slOf_int, slOf_bl, slOf_str, slOf_non, slOf_f,  List.set_cons_zero, List.set_cons_succ, List.length_cons, List.length_nil, Env.kill, Env.noOw, isOw_vl, isOw_ow, isOw_no, evs_nil, List.all_cons, List.all_nil, Option.getD_some, Option.getD_none, Option.map_some, Option.map_none, rtM_rt, rtM_nx, Bool.not_true, Bool.not_false, Bool.true_and, Bool.and_true, Bool.false_and, Bool.and_false, Bool.false_eq_true, if_true, if_false, ite_true, ite_false, Nat.reduceAdd, Nat.reduceLT, Nat.reduceLeDiff, Nat.zero_lt_succ, Nat.zero_le, Bool.xor_false, Bool.false_xor, Bool.true_xor, List.map_cons, List.map_nil, b_is_name]; rfl)
def lenIs (n : Int) : D → Bool
  | .tup ds => ((ds.length : Int) == n)
  | _ => false
theorem lenIs_tup (n : Int) (ds : List D) : lenIs n (.tup ds) = ((ds.length : Int) == n) := rfl
theorem is_tuple_of_eq {d : D} (h : D.py d = true) (n : Int) : run prog ns (k + 1) i_is_tuple_of [d, .int n] = M.ret (.bl (lenIs n d)) := by
  show (exSs ⟨run prog ns k, prog.glob, ns⟩ b_is_tuple_of [.vl d, .vl (.int n)]).bd rtM = _
  cases d <;> first | (cases h; done) | skip
  all_goals (simp only [exSs, exS, evE, evT, evP, evTOr, evTAnd, evAnd, evOr, evEs, evSrc, evO, evTs, tr, bd_ret, nex_ret, bd_assoc, bd_no, ofO_some, ofO_none, asB_ret, asB_no, List.getElem?_cons_zero, List.getElem?_cons_succ, anyTy, D.isTy, truth_non, truth_bl, truth_int, truth_lst, truth_tup, asB_bl, asI_int, walk_lst, walk_tup, walk_str, items_lst, items_tup, len_lst, len_tup, len_str, int_int, int_bl, abs_int, list_lst, list_tup, tuple_lst, tuple_tup, all_lst, any_lst, lt_int, le_int, gt_int, ge_int, add_int, sub_int, eq_int, ne_int, ix_lst, ix_tup, sl_lst, sl_tup, rev_tup, rev_lst, at0, at1, at2,  bindT, bindTs, setOwn, slOf_lst, slOf_tup, slOf_int, slOf_bl, slOf_str, slOf_non, slOf_f,  List.set_cons_zero, List.set_cons_succ, List.length_cons, List.length_nil, Env.kill, Env.noOw, isOw_vl, isOw_ow, isOw_no, evs_nil, List.all_cons, List.all_nil, Option.getD_some, Option.getD_none, Option.map_some, Option.map_none, rtM_rt, rtM_nx, Bool.not_true, Bool.not_false, Bool.true_and, Bool.and_true, Bool.false_and, Bool.and_false, Bool.false_eq_true, if_true, if_false, ite_true, ite_false, Nat.reduceAdd, Nat.reduceLT, Nat.reduceLeDiff, Nat.zero_lt_succ, Nat.zero_le, Bool.xor_false, Bool.false_xor, Bool.true_xor, List.map_cons, List.map_nil, b_is_tuple_of]; rfl)
theorem rises_eq (xs : List Str) (hl : xs.length ≤ lineMax) : run prog ns (k + 1) i_rises [.lst (xs.map .str)] = M.ret (.bl (risesS xs)) := by
  show (exSs ⟨run prog ns k, prog.glob, ns⟩ b_rises [.vl (.lst (xs.map .str)), .no, .no]).bd rtM = _
  simp only [exSs, exS, evE, evT, evP, evTOr, evTAnd, evAnd, evOr, evEs, evSrc, evO, evTs, tr, bd_ret, nex_ret, bd_assoc, bd_no, ofO_some, ofO_none, asB_ret, asB_no, List.getElem?_cons_zero, List.getElem?_cons_succ, anyTy, D.isTy, truth_non, truth_bl, truth_int, truth_lst, truth_tup, asB_bl, asI_int, walk_lst, walk_tup, walk_str, items_lst, items_tup, len_lst, len_tup, len_str, int_int, int_bl, abs_int, list_lst, list_tup, tuple_lst, tuple_tup, all_lst, any_lst, lt_int, le_int, gt_int, ge_int, add_int, sub_int, eq_int, ne_int, ix_lst, ix_tup, sl_lst, sl_tup, rev_tup, rev_lst, at0, at1, at2,  bindT, bindTs, setOwn, slOf_lst, slOf_tup, slOf_int, slOf_bl, slOf_str, slOf_non, slOf_f,  List.set_cons_zero, List.set_cons_succ, List.length_cons, List.length_nil, Env.kill, Env.noOw, isOw_vl, isOw_ow, isOw_no, evs_nil, List.all_cons, List.all_nil, Option.getD_some, Option.getD_none, Option.map_some, Option.map_none, rtM_rt, rtM_nx, Bool.not_true, Bool.not_false, Bool.true_and, Bool.and_true, Bool.false_and, Bool.and_false, Bool.false_eq_true, if_true, if_false, ite_true, ite_false, Nat.reduceAdd, Nat.reduceLT, Nat.reduceLeDiff, Nat.zero_lt_succ, Nat.zero_le, Bool.xor_false, Bool.false_xor, Bool.true_xor, List.map_cons, List.map_nil, b_rises, zipOf, cut1]
  rw [← List.map_drop, zipD_map]
  rw [all_comp (p := fun d => match d with | .tup [.str x, .str y] => decide (x.cps.toList < y.cps.toList) | _ => false) (fun d hd => by
    obtain ⟨p, _, rfl⟩ := List.mem_map.mp hd
    simp only [exSs, exS, evE, evT, evP, evTOr, evTAnd, evAnd, evOr, evEs, evSrc, evO, evTs, tr, bd_ret, nex_ret, bd_assoc, bd_no, ofO_some, ofO_none, asB_ret, asB_no, List.getElem?_cons_zero, List.getElem?_cons_succ, anyTy, D.isTy, truth_non, truth_bl, truth_int, truth_lst, truth_tup, asB_bl, asI_int, walk_lst, walk_tup, walk_str, items_lst, items_tup, len_lst, len_tup, len_str, int_int, int_bl, abs_int, list_lst, list_tup, tuple_lst, tuple_tup, all_lst, any_lst, lt_int, le_int, gt_int, ge_int, add_int, sub_int, eq_int, ne_int, ix_lst, ix_tup, sl_lst, sl_tup, rev_tup, rev_lst, at0, at1, at2,  bindT, bindTs, setOwn, slOf_lst, slOf_tup, slOf_int, slOf_bl, slOf_str, slOf_non, slOf_f,  List.set_cons_zero, List.set_cons_succ, List.length_cons, List.length_nil, Env.kill, Env.noOw, isOw_vl, isOw_ow, isOw_no, evs_nil, List.all_cons, List.all_nil, Option.getD_some, Option.getD_none, Option.map_some, Option.map_none, rtM_rt, rtM_nx, Bool.not_true, Bool.not_false, Bool.true_and, Bool.and_true, Bool.false_and, Bool.and_false, Bool.false_eq_true, if_true, if_false, ite_true, ite_false, Nat.reduceAdd, Nat.reduceLT, Nat.reduceLeDiff, Nat.zero_lt_succ, Nat.zero_le, Bool.xor_false, Bool.false_xor, Bool.true_xor, List.map_cons, List.map_nil, lt_str]) (by rw [List.length_map, List.length_zip]; omega)]
  rw [List.all_map]
  rfl
def nmOf : D → Str
  | .str x => x
  | _ => Str.empty
theorem strs_of : ∀ {ds : List D}, ds.all isNm = true → ds = (ds.map nmOf).map .str
  | [], _ => rfl
  | d :: ds, h => by
    rw [List.all_cons, Bool.and_eq_true] at h
    rw [List.map_cons, List.map_cons, ← strs_of h.2]
    cases d <;> first | (cases h.1; done) | rfl
def isCols : D → Bool
  | .tup ds => decide (1 ≤ ds.length) && decide (ds.length ≤ 4) && ds.all isNm && decide (ds.map nmOf).Nodup
  | _ => false
theorem isCols_tup (ds : List D) : isCols (.tup ds) = (decide (1 ≤ ds.length) && decide (ds.length ≤ 4) && ds.all isNm && decide (ds.map nmOf).Nodup) := rfl
theorem py_mem {ds : List D} (h : D.pyL ds = true) {d : D} (hd : d ∈ ds) : D.py d = true := by
  induction ds with
  | nil => cases hd
  | cons x xs ih =>
    simp only [D.pyL, Bool.and_eq_true] at h
    rcases List.mem_cons.mp hd with rfl | hd
    · exact h.1
    · exact ih h.2 hd
theorem are_columns_eq {d : D} (h : D.py d = true) : run prog ns (k + 2) i_are_columns [d] = M.ret (.bl (isCols d)) := by
  show (exSs ⟨run prog ns (k + 1), prog.glob, ns⟩ b_are_columns [.vl d, .no, .no]).bd rtM = _
  cases d <;> first | (cases h; done) | skip
  case tup ds =>
    by_cases h1 : (1 : Int) ≤ ds.length
    · by_cases h2 : (ds.length : Int) ≤ 4
      · simp only [exSs, exS, evE, evT, evP, evTOr, evTAnd, evAnd, evOr, evEs, evSrc, evO, evTs, tr, bd_ret, nex_ret, bd_assoc, bd_no, ofO_some, ofO_none, asB_ret, asB_no, List.getElem?_cons_zero, List.getElem?_cons_succ, anyTy, D.isTy, truth_non, truth_bl, truth_int, truth_lst, truth_tup, asB_bl, asI_int, walk_lst, walk_tup, walk_str, items_lst, items_tup, len_lst, len_tup, len_str, int_int, int_bl, abs_int, list_lst, list_tup, tuple_lst, tuple_tup, all_lst, any_lst, lt_int, le_int, gt_int, ge_int, add_int, sub_int, eq_int, ne_int, ix_lst, ix_tup, sl_lst, sl_tup, rev_tup, rev_lst, at0, at1, at2,  bindT, bindTs, setOwn, slOf_lst, slOf_tup, slOf_int, slOf_bl, slOf_str, slOf_non, slOf_f,  List.set_cons_zero, List.set_cons_succ, List.length_cons, List.length_nil, Env.kill, Env.noOw, isOw_vl, isOw_ow, isOw_no, evs_nil, List.all_cons, List.all_nil, Option.getD_some, Option.getD_none, Option.map_some, Option.map_none, rtM_rt, rtM_nx, Bool.not_true, Bool.not_false, Bool.true_and, Bool.and_true, Bool.false_and, Bool.and_false, Bool.false_eq_true, if_true, if_false, ite_true, ite_false, Nat.reduceAdd, Nat.reduceLT, Nat.reduceLeDiff, Nat.zero_lt_succ, Nat.zero_le, Bool.xor_false, Bool.false_xor, Bool.true_xor, List.map_cons, List.map_nil, b_are_columns, g3, decide_eq_true h1, decide_eq_true h2]
        rw [all_comp (p := isNm) (fun d hd => by
          have e := is_name_eq (ns := ns) (k := k) (py_mem h hd)
          simp only [exSs, exS, evE, evT, evP, evTOr, evTAnd, evAnd, evOr, evEs, evSrc, evO, evTs, tr, bd_ret, nex_ret, bd_assoc, bd_no, ofO_some, ofO_none, asB_ret, asB_no, List.getElem?_cons_zero, List.getElem?_cons_succ, anyTy, D.isTy, truth_non, truth_bl, truth_int, truth_lst, truth_tup, asB_bl, asI_int, walk_lst, walk_tup, walk_str, items_lst, items_tup, len_lst, len_tup, len_str, int_int, int_bl, abs_int, list_lst, list_tup, tuple_lst, tuple_tup, all_lst, any_lst, lt_int, le_int, gt_int, ge_int, add_int, sub_int, eq_int, ne_int, ix_lst, ix_tup, sl_lst, sl_tup, rev_tup, rev_lst, at0, at1, at2,  bindT, bindTs, setOwn, slOf_lst, slOf_tup, slOf_int, slOf_bl, slOf_str, slOf_non, slOf_f,  List.set_cons_zero, List.set_cons_succ, List.length_cons, List.length_nil, Env.kill, Env.noOw, isOw_vl, isOw_ow, isOw_no, evs_nil, List.all_cons, List.all_nil, Option.getD_some, Option.getD_none, Option.map_some, Option.map_none, rtM_rt, rtM_nx, Bool.not_true, Bool.not_false, Bool.true_and, Bool.and_true, Bool.false_and, Bool.and_false, Bool.false_eq_true, if_true, if_false, ite_true, ite_false, Nat.reduceAdd, Nat.reduceLT, Nat.reduceLeDiff, Nat.zero_lt_succ, Nat.zero_le, Bool.xor_false, Bool.false_xor, Bool.true_xor, List.map_cons, List.map_nil, show run prog ns (k + 1) 1 [d] = M.ret (.bl (isNm d)) from e]) (by unfold lineMax; omega)]
        rw [isCols_tup, decide_eq_true (show 1 ≤ ds.length by omega), decide_eq_true (show ds.length ≤ 4 by omega)]
        cases hn : ds.all isNm with
        | false => simp only [exSs, exS, evE, evT, evP, evTOr, evTAnd, evAnd, evOr, evEs, evSrc, evO, evTs, tr, bd_ret, nex_ret, bd_assoc, bd_no, ofO_some, ofO_none, asB_ret, asB_no, List.getElem?_cons_zero, List.getElem?_cons_succ, anyTy, D.isTy, truth_non, truth_bl, truth_int, truth_lst, truth_tup, asB_bl, asI_int, walk_lst, walk_tup, walk_str, items_lst, items_tup, len_lst, len_tup, len_str, int_int, int_bl, abs_int, list_lst, list_tup, tuple_lst, tuple_tup, all_lst, any_lst, lt_int, le_int, gt_int, ge_int, add_int, sub_int, eq_int, ne_int, ix_lst, ix_tup, sl_lst, sl_tup, rev_tup, rev_lst, at0, at1, at2,  bindT, bindTs, setOwn, slOf_lst, slOf_tup, slOf_int, slOf_bl, slOf_str, slOf_non, slOf_f,  List.set_cons_zero, List.set_cons_succ, List.length_cons, List.length_nil, Env.kill, Env.noOw, isOw_vl, isOw_ow, isOw_no, evs_nil, List.all_cons, List.all_nil, Option.getD_some, Option.getD_none, Option.map_some, Option.map_none, rtM_rt, rtM_nx, Bool.not_true, Bool.not_false, Bool.true_and, Bool.and_true, Bool.false_and, Bool.and_false, Bool.false_eq_true, if_true, if_false, ite_true, ite_false, Nat.reduceAdd, Nat.reduceLT, Nat.reduceLeDiff, Nat.zero_lt_succ, Nat.zero_le, Bool.xor_false, Bool.false_xor, Bool.true_xor, List.map_cons, List.map_nil]
        | true =>
          have e := strs_of hn
          generalize hx : ds.map nmOf = xs at e
          subst e
          simp only [exSs, exS, evE, evT, evP, evTOr, evTAnd, evAnd, evOr, evEs, evSrc, evO, evTs, tr, bd_ret, nex_ret, bd_assoc, bd_no, ofO_some, ofO_none, asB_ret, asB_no, List.getElem?_cons_zero, List.getElem?_cons_succ, anyTy, D.isTy, truth_non, truth_bl, truth_int, truth_lst, truth_tup, asB_bl, asI_int, walk_lst, walk_tup, walk_str, items_lst, items_tup, len_lst, len_tup, len_str, int_int, int_bl, abs_int, list_lst, list_tup, tuple_lst, tuple_tup, all_lst, any_lst, lt_int, le_int, gt_int, ge_int, add_int, sub_int, eq_int, ne_int, ix_lst, ix_tup, sl_lst, sl_tup, rev_tup, rev_lst, at0, at1, at2,  bindT, bindTs, setOwn, slOf_lst, slOf_tup, slOf_int, slOf_bl, slOf_str, slOf_non, slOf_f,  List.set_cons_zero, List.set_cons_succ, List.length_cons, List.length_nil, Env.kill, Env.noOw, isOw_vl, isOw_ow, isOw_no, evs_nil, List.all_cons, List.all_nil, Option.getD_some, Option.getD_none, Option.map_some, Option.map_none, rtM_rt, rtM_nx, Bool.not_true, Bool.not_false, Bool.true_and, Bool.and_true, Bool.false_and, Bool.and_false, Bool.false_eq_true, if_true, if_false, ite_true, ite_false, Nat.reduceAdd, Nat.reduceLT, Nat.reduceLeDiff, Nat.zero_lt_succ, Nat.zero_le, Bool.xor_false, Bool.false_xor, Bool.true_xor, List.map_cons, List.map_nil, enumD_map]
          rw [all_comp (p := fun d => match d with | .tup [.int i, .str y] => !decide (y ∈ xs.take i.toNat) | _ => false) (fun d hd => by
            obtain ⟨p, _, rfl⟩ := List.mem_map.mp hd
            simp only [exSs, exS, evE, evT, evP, evTOr, evTAnd, evAnd, evOr, evEs, evSrc, evO, evTs, tr, bd_ret, nex_ret, bd_assoc, bd_no, ofO_some, ofO_none, asB_ret, asB_no, List.getElem?_cons_zero, List.getElem?_cons_succ, anyTy, D.isTy, truth_non, truth_bl, truth_int, truth_lst, truth_tup, asB_bl, asI_int, walk_lst, walk_tup, walk_str, items_lst, items_tup, len_lst, len_tup, len_str, int_int, int_bl, abs_int, list_lst, list_tup, tuple_lst, tuple_tup, all_lst, any_lst, lt_int, le_int, gt_int, ge_int, add_int, sub_int, eq_int, ne_int, ix_lst, ix_tup, sl_lst, sl_tup, rev_tup, rev_lst, at0, at1, at2,  bindT, bindTs, setOwn, slOf_lst, slOf_tup, slOf_int, slOf_bl, slOf_str, slOf_non, slOf_f,  List.set_cons_zero, List.set_cons_succ, List.length_cons, List.length_nil, Env.kill, Env.noOw, isOw_vl, isOw_ow, isOw_no, evs_nil, List.all_cons, List.all_nil, Option.getD_some, Option.getD_none, Option.map_some, Option.map_none, rtM_rt, rtM_nx, Bool.not_true, Bool.not_false, Bool.true_and, Bool.and_true, Bool.false_and, Bool.and_false, Bool.false_eq_true, if_true, if_false, ite_true, ite_false, Nat.reduceAdd, Nat.reduceLT, Nat.reduceLeDiff, Nat.zero_lt_succ, Nat.zero_le, Bool.xor_false, Bool.false_xor, Bool.true_xor, List.map_cons, List.map_nil, cut_to, ← List.map_take, nin_tup, Int.toNat_natCast]) (by rw [List.length_map] at h2; rw [List.length_map, List.length_zipIdx]; unfold lineMax; omega)]
          rw [List.all_map, ← nodup_idx]
          rfl
      · simp only [exSs, exS, evE, evT, evP, evTOr, evTAnd, evAnd, evOr, evEs, evSrc, evO, evTs, tr, bd_ret, nex_ret, bd_assoc, bd_no, ofO_some, ofO_none, asB_ret, asB_no, List.getElem?_cons_zero, List.getElem?_cons_succ, anyTy, D.isTy, truth_non, truth_bl, truth_int, truth_lst, truth_tup, asB_bl, asI_int, walk_lst, walk_tup, walk_str, items_lst, items_tup, len_lst, len_tup, len_str, int_int, int_bl, abs_int, list_lst, list_tup, tuple_lst, tuple_tup, all_lst, any_lst, lt_int, le_int, gt_int, ge_int, add_int, sub_int, eq_int, ne_int, ix_lst, ix_tup, sl_lst, sl_tup, rev_tup, rev_lst, at0, at1, at2,  bindT, bindTs, setOwn, slOf_lst, slOf_tup, slOf_int, slOf_bl, slOf_str, slOf_non, slOf_f,  List.set_cons_zero, List.set_cons_succ, List.length_cons, List.length_nil, Env.kill, Env.noOw, isOw_vl, isOw_ow, isOw_no, evs_nil, List.all_cons, List.all_nil, Option.getD_some, Option.getD_none, Option.map_some, Option.map_none, rtM_rt, rtM_nx, Bool.not_true, Bool.not_false, Bool.true_and, Bool.and_true, Bool.false_and, Bool.and_false, Bool.false_eq_true, if_true, if_false, ite_true, ite_false, Nat.reduceAdd, Nat.reduceLT, Nat.reduceLeDiff, Nat.zero_lt_succ, Nat.zero_le, Bool.xor_false, Bool.false_xor, Bool.true_xor, List.map_cons, List.map_nil, b_are_columns, g3, decide_eq_true h1, decide_eq_false h2]
        rw [isCols_tup, decide_eq_false (show ¬ ds.length ≤ 4 by omega)]
        simp
    · simp only [exSs, exS, evE, evT, evP, evTOr, evTAnd, evAnd, evOr, evEs, evSrc, evO, evTs, tr, bd_ret, nex_ret, bd_assoc, bd_no, ofO_some, ofO_none, asB_ret, asB_no, List.getElem?_cons_zero, List.getElem?_cons_succ, anyTy, D.isTy, truth_non, truth_bl, truth_int, truth_lst, truth_tup, asB_bl, asI_int, walk_lst, walk_tup, walk_str, items_lst, items_tup, len_lst, len_tup, len_str, int_int, int_bl, abs_int, list_lst, list_tup, tuple_lst, tuple_tup, all_lst, any_lst, lt_int, le_int, gt_int, ge_int, add_int, sub_int, eq_int, ne_int, ix_lst, ix_tup, sl_lst, sl_tup, rev_tup, rev_lst, at0, at1, at2,  bindT, bindTs, setOwn, slOf_lst, slOf_tup, slOf_int, slOf_bl, slOf_str, slOf_non, slOf_f,  List.set_cons_zero, List.set_cons_succ, List.length_cons, List.length_nil, Env.kill, Env.noOw, isOw_vl, isOw_ow, isOw_no, evs_nil, List.all_cons, List.all_nil, Option.getD_some, Option.getD_none, Option.map_some, Option.map_none, rtM_rt, rtM_nx, Bool.not_true, Bool.not_false, Bool.true_and, Bool.and_true, Bool.false_and, Bool.and_false, Bool.false_eq_true, if_true, if_false, ite_true, ite_false, Nat.reduceAdd, Nat.reduceLT, Nat.reduceLeDiff, Nat.zero_lt_succ, Nat.zero_le, Bool.xor_false, Bool.false_xor, Bool.true_xor, List.map_cons, List.map_nil, b_are_columns, g3, decide_eq_false h1]
      rw [isCols_tup, decide_eq_false (show ¬ 1 ≤ ds.length by omega)]
      simp
  all_goals (simp only [exSs, exS, evE, evT, evP, evTOr, evTAnd, evAnd, evOr, evEs, evSrc, evO, evTs, tr, bd_ret, nex_ret, bd_assoc, bd_no, ofO_some, ofO_none, asB_ret, asB_no, List.getElem?_cons_zero, List.getElem?_cons_succ, anyTy, D.isTy, truth_non, truth_bl, truth_int, truth_lst, truth_tup, asB_bl, asI_int, walk_lst, walk_tup, walk_str, items_lst, items_tup, len_lst, len_tup, len_str, int_int, int_bl, abs_int, list_lst, list_tup, tuple_lst, tuple_tup, all_lst, any_lst, lt_int, le_int, gt_int, ge_int, add_int, sub_int, eq_int, ne_int, ix_lst, ix_tup, sl_lst, sl_tup, rev_tup, rev_lst, at0, at1, at2,  bindT, bindTs, setOwn, slOf_lst, slOf_tup, slOf_int, slOf_bl, slOf_str, slOf_non, slOf_f,  List.set_cons_zero, List.set_cons_succ, List.length_cons, List.length_nil, Env.kill, Env.noOw, isOw_vl, isOw_ow, isOw_no, evs_nil, List.all_cons, List.all_nil, Option.getD_some, Option.getD_none, Option.map_some, Option.map_none, rtM_rt, rtM_nx, Bool.not_true, Bool.not_false, Bool.true_and, Bool.and_true, Bool.false_and, Bool.and_false, Bool.false_eq_true, if_true, if_false, ite_true, ite_false, Nat.reduceAdd, Nat.reduceLT, Nat.reduceLeDiff, Nat.zero_lt_succ, Nat.zero_le, Bool.xor_false, Bool.false_xor, Bool.true_xor, List.map_cons, List.map_nil, b_are_columns]; rfl)
def isPr : D → Bool
  | .tup [_, _] => true
  | _ => false
def prA : D → D
  | .tup [a, _] => a
  | _ => .non
def prB : D → D
  | .tup [_, b] => b
  | _ => .non
def nm2 (d : D) : Bool := isNm (prA d) && isNm (prB d)
def colT (d : D) : Str := nmOf (prA d)
def othT (d : D) : Str := nmOf (prB d)
def colsOf : D → List Str
  | .tup ds => ds.map nmOf
  | _ => []
theorem pr_len (d : D) : lenIs 2 d = isPr d := by
  cases d with
  | tup ds =>
    match ds with
    | [] => rfl
    | [_] => rfl
    | [_, _] => rfl
    | _ :: _ :: _ :: r =>
      show (((r.length + 3 : Nat) : Int) == 2) = false
      rw [beq_eq_false_iff_ne]
      omega
  | _ => rfl
theorem pr_eq {d : D} (h : isPr d = true) : d = .tup [prA d, prB d] := by
  cases d with
  | tup ds =>
    match ds with
    | [] => cases h
    | [_] => cases h
    | [_, _] => rfl
    | _ :: _ :: _ :: r => cases h
  | _ => cases h
theorem prs_of : ∀ {ts : List D}, ts.all isPr = true → ∀ d ∈ ts, d = .tup [prA d, prB d]
  | [], _, _, h => nomatch h
  | t :: ts, h, d, hd => by
    rw [List.all_cons, Bool.and_eq_true] at h
    rcases List.mem_cons.mp hd with rfl | hd
    · exact pr_eq h.1
    · exact prs_of h.2 d hd
def isKind (ahead : List Str) : D → Bool
  | .tup [n, cs, .tup ts] => isNm n && !decide (nmOf n ∈ ahead) && isCols cs && ts.all isPr && ts.all nm2 && risesS (ts.map colT) && ts.all fun t => decide (colT t ∈ (colsOf cs).drop 1) && decide (othT t ∈ ahead)
  | _ => false
theorem isKind_tup (ahead : List Str) (n cs : D) (ts : List D) : isKind ahead (.tup [n, cs, .tup ts]) = (isNm n && !decide (nmOf n ∈ ahead) && isCols cs && ts.all isPr && ts.all nm2 && risesS (ts.map colT) && ts.all fun t => decide (colT t ∈ (colsOf cs).drop 1) && decide (othT t ∈ ahead)) := rfl
theorem nm_eq {d : D} (h : isNm d = true) : d = .str (nmOf d) := by
  cases d <;> first | (cases h; done) | rfl
theorem c2 {d : D} (h : D.py d = true) (n : Int) : run prog ns (k + 1) 2 [d, .int n] = M.ret (.bl (lenIs n d)) := is_tuple_of_eq h n
theorem c1 {d : D} (h : D.py d = true) : run prog ns (k + 1) 1 [d] = M.ret (.bl (isNm d)) := is_name_eq h
theorem c3 {d : D} (h : D.py d = true) : run prog ns (k + 2) 3 [d] = M.ret (.bl (isCols d)) := are_columns_eq h
theorem c0 (xs : List Str) (hl : xs.length ≤ lineMax) : run prog ns (k + 1) 0 [.lst (xs.map .str)] = M.ret (.bl (risesS xs)) := rises_eq xs hl
mutual
/-- lists and tuples are not long -/
def sm : D → Bool
  | .tup xs => decide (xs.length < 3000) && smL xs
  | .lst xs => decide (xs.length < 3000) && smL xs
  | _ => true
def smL : List D → Bool
  | [] => true
  | x :: xs => sm x && smL xs
end
def okV (d : D) : Bool := D.py d && sm d
theorem ite_tt {α : Type} {a b : α} : (if true = true then a else b) = a := rfl
theorem is_kind_eq {d : D} (h : D.py d = true) (h2 : sm d = true) (ahead : List Str) : run prog ns (k + 3) i_is_kind [d, .lst (ahead.map .str)] = M.ret (.bl (isKind ahead d)) := by
  show (exSs ⟨run prog ns (k + 2), prog.glob, ns⟩ b_is_kind [.vl d, .vl (.lst (ahead.map .str)), .no, .no, .no, .no]).bd rtM = _
  have no : lenIs 3 d = false → isKind ahead d = false := by
    intro e
    unfold isKind
    split
    · cases e
    · rfl
  cases e3 : lenIs 3 d with
  | false =>
    simp only [exSs, exS, evE, evT, evP, evTOr, evTAnd, evAnd, evOr, evEs, evSrc, evO, evTs, tr, bd_ret, nex_ret, bd_assoc, bd_no, ofO_some, ofO_none, asB_ret, asB_no, List.getElem?_cons_zero, List.getElem?_cons_succ, anyTy, D.isTy, truth_non, truth_bl, truth_int, truth_lst, truth_tup, asB_bl, asI_int, walk_lst, walk_tup, walk_str, items_lst, items_tup, len_lst, len_tup, len_str, int_int, int_bl, abs_int, list_lst, list_tup, tuple_lst, tuple_tup, all_lst, any_lst, lt_int, le_int, gt_int, ge_int, add_int, sub_int, eq_int, ne_int, ix_lst, ix_tup, sl_lst, sl_tup, rev_tup, rev_lst, at0, at1, at2,  bindT, bindTs, setOwn, slOf_lst, slOf_tup, slOf_int, slOf_bl, slOf_str, slOf_non, slOf_f,  List.set_cons_zero, List.set_cons_succ, List.length_cons, List.length_nil, Env.kill, Env.noOw, isOw_vl, isOw_ow, isOw_no, evs_nil, List.all_cons, List.all_nil, Option.getD_some, Option.getD_none, Option.map_some, Option.map_none, rtM_rt, rtM_nx, Bool.not_true, Bool.not_false, Bool.true_and, Bool.and_true, Bool.false_and, Bool.and_false, Bool.false_eq_true, if_true, if_false, ite_true, ite_false, Nat.reduceAdd, Nat.reduceLT, Nat.reduceLeDiff, Nat.zero_lt_succ, Nat.zero_le, Bool.xor_false, Bool.false_xor, Bool.true_xor, List.map_cons, List.map_nil, b_is_kind, g5, c2 h, e3]
    rw [no e3]
  | true =>
    clear no
    cases d with
    | tup ds =>
      match ds, e3 with
      | [n, cs, ts], e33 =>
        simp only [D.py, D.pyL, Bool.and_eq_true, Bool.and_true] at h
        obtain ⟨p1, p2, p3⟩ := h
        have h : D.py (.tup [n, cs, ts]) = true := by simp [D.py, D.pyL, p1, p2, p3]
        simp only [sm, smL, Bool.and_eq_true, Bool.and_true] at h2
        obtain ⟨s0, s1, s2, s3⟩ := h2
        have e3 : lenIs 3 (.tup [n, cs, ts]) = true := rfl
        have z : ∀ b : Bool, b = false → isKind ahead (.tup [n, cs, ts]) = false → M.ret (D.bl false) = M.ret (D.bl (isKind ahead (.tup [n, cs, ts]))) := fun _ _ e => by rw [e]
        cases e4 : isNm n with
        | false =>
          simp only [exSs, exS, evE, evT, evP, evTOr, evTAnd, evAnd, evOr, evEs, evSrc, evO, evTs, tr, bd_ret, nex_ret, bd_assoc, bd_no, ofO_some, ofO_none, asB_ret, asB_no, List.getElem?_cons_zero, List.getElem?_cons_succ, anyTy, D.isTy, truth_non, truth_bl, truth_int, truth_lst, truth_tup, asB_bl, asI_int, walk_lst, walk_tup, walk_str, items_lst, items_tup, len_lst, len_tup, len_str, int_int, int_bl, abs_int, list_lst, list_tup, tuple_lst, tuple_tup, all_lst, any_lst, lt_int, le_int, gt_int, ge_int, add_int, sub_int, eq_int, ne_int, ix_lst, ix_tup, sl_lst, sl_tup, rev_tup, rev_lst, at0, at1, at2,  bindT, bindTs, setOwn, slOf_lst, slOf_tup, slOf_int, slOf_bl, slOf_str, slOf_non, slOf_f,  List.set_cons_zero, List.set_cons_succ, List.length_cons, List.length_nil, Env.kill, Env.noOw, isOw_vl, isOw_ow, isOw_no, evs_nil, List.all_cons, List.all_nil, Option.getD_some, Option.getD_none, Option.map_some, Option.map_none, rtM_rt, rtM_nx, Bool.not_true, Bool.not_false, Bool.true_and, Bool.and_true, Bool.false_and, Bool.and_false, Bool.false_eq_true, if_true, if_false, ite_true, ite_false, Nat.reduceAdd, Nat.reduceLT, Nat.reduceLeDiff, Nat.zero_lt_succ, Nat.zero_le, Bool.xor_false, Bool.false_xor, Bool.true_xor, List.map_cons, List.map_nil, b_is_kind, g5, c2 h, e3, c1 p1, e4]
          have : isKind ahead (.tup [n, cs, ts]) = false := by
            cases ts <;> first | rfl | (rw [isKind_tup, e4]; rfl)
          rw [this]
        | true =>
          obtain ⟨x, rfl⟩ : ∃ x, n = .str x := ⟨_, nm_eq e4⟩
          by_cases e5 : x ∈ ahead
          · simp only [exSs, exS, evE, evT, evP, evTOr, evTAnd, evAnd, evOr, evEs, evSrc, evO, evTs, tr, bd_ret, nex_ret, bd_assoc, bd_no, ofO_some, ofO_none, asB_ret, asB_no, List.getElem?_cons_zero, List.getElem?_cons_succ, anyTy, D.isTy, truth_non, truth_bl, truth_int, truth_lst, truth_tup, asB_bl, asI_int, walk_lst, walk_tup, walk_str, items_lst, items_tup, len_lst, len_tup, len_str, int_int, int_bl, abs_int, list_lst, list_tup, tuple_lst, tuple_tup, all_lst, any_lst, lt_int, le_int, gt_int, ge_int, add_int, sub_int, eq_int, ne_int, ix_lst, ix_tup, sl_lst, sl_tup, rev_tup, rev_lst, at0, at1, at2,  bindT, bindTs, setOwn, slOf_lst, slOf_tup, slOf_int, slOf_bl, slOf_str, slOf_non, slOf_f,  List.set_cons_zero, List.set_cons_succ, List.length_cons, List.length_nil, Env.kill, Env.noOw, isOw_vl, isOw_ow, isOw_no, evs_nil, List.all_cons, List.all_nil, Option.getD_some, Option.getD_none, Option.map_some, Option.map_none, rtM_rt, rtM_nx, Bool.not_true, Bool.not_false, Bool.true_and, Bool.and_true, Bool.false_and, Bool.and_false, Bool.false_eq_true, if_true, if_false, ite_true, ite_false, Nat.reduceAdd, Nat.reduceLT, Nat.reduceLeDiff, Nat.zero_lt_succ, Nat.zero_le, Bool.xor_false, Bool.false_xor, Bool.true_xor, List.map_cons, List.map_nil, b_is_kind, g5, c2 h, e3, c1 p1, e4, in_lst, decide_eq_true e5]
            have : isKind ahead (.tup [.str x, cs, ts]) = false := by
              cases ts <;> first | rfl | (rw [isKind_tup, e4, show nmOf (.str x) = x from rfl, decide_eq_true e5]; rfl)
            rw [this]
          · cases e6 : isCols cs with
            | false =>
              simp only [exSs, exS, evE, evT, evP, evTOr, evTAnd, evAnd, evOr, evEs, evSrc, evO, evTs, tr, bd_ret, nex_ret, bd_assoc, bd_no, ofO_some, ofO_none, asB_ret, asB_no, List.getElem?_cons_zero, List.getElem?_cons_succ, anyTy, D.isTy, truth_non, truth_bl, truth_int, truth_lst, truth_tup, asB_bl, asI_int, walk_lst, walk_tup, walk_str, items_lst, items_tup, len_lst, len_tup, len_str, int_int, int_bl, abs_int, list_lst, list_tup, tuple_lst, tuple_tup, all_lst, any_lst, lt_int, le_int, gt_int, ge_int, add_int, sub_int, eq_int, ne_int, ix_lst, ix_tup, sl_lst, sl_tup, rev_tup, rev_lst, at0, at1, at2,  bindT, bindTs, setOwn, slOf_lst, slOf_tup, slOf_int, slOf_bl, slOf_str, slOf_non, slOf_f,  List.set_cons_zero, List.set_cons_succ, List.length_cons, List.length_nil, Env.kill, Env.noOw, isOw_vl, isOw_ow, isOw_no, evs_nil, List.all_cons, List.all_nil, Option.getD_some, Option.getD_none, Option.map_some, Option.map_none, rtM_rt, rtM_nx, Bool.not_true, Bool.not_false, Bool.true_and, Bool.and_true, Bool.false_and, Bool.and_false, Bool.false_eq_true, if_true, if_false, ite_true, ite_false, Nat.reduceAdd, Nat.reduceLT, Nat.reduceLeDiff, Nat.zero_lt_succ, Nat.zero_le, Bool.xor_false, Bool.false_xor, Bool.true_xor, List.map_cons, List.map_nil, b_is_kind, g5, c2 h, e3, c1 p1, e4, in_lst, decide_eq_false e5, c3 p2, e6]
              have : isKind ahead (.tup [.str x, cs, ts]) = false := by
                cases ts <;> first | rfl | (rw [isKind_tup, e6]; simp)
              rw [this]
            | true =>
              cases ts <;> first | (cases p3; done) | skip
              case tup ts =>
                have hl : ts.length ≤ lineMax := by
                  simp only [sm, Bool.and_eq_true, decide_eq_true_eq] at s3
                  unfold lineMax
                  omega
                simp only [exSs, exS, evE, evT, evP, evTOr, evTAnd, evAnd, evOr, evEs, evSrc, evO, evTs, tr, bd_ret, nex_ret, bd_assoc, bd_no, ofO_some, ofO_none, asB_ret, asB_no, List.getElem?_cons_zero, List.getElem?_cons_succ, anyTy, D.isTy, truth_non, truth_bl, truth_int, truth_lst, truth_tup, asB_bl, asI_int, walk_lst, walk_tup, walk_str, items_lst, items_tup, len_lst, len_tup, len_str, int_int, int_bl, abs_int, list_lst, list_tup, tuple_lst, tuple_tup, all_lst, any_lst, lt_int, le_int, gt_int, ge_int, add_int, sub_int, eq_int, ne_int, ix_lst, ix_tup, sl_lst, sl_tup, rev_tup, rev_lst, at0, at1, at2,  bindT, bindTs, setOwn, slOf_lst, slOf_tup, slOf_int, slOf_bl, slOf_str, slOf_non, slOf_f,  List.set_cons_zero, List.set_cons_succ, List.length_cons, List.length_nil, Env.kill, Env.noOw, isOw_vl, isOw_ow, isOw_no, evs_nil, List.all_cons, List.all_nil, Option.getD_some, Option.getD_none, Option.map_some, Option.map_none, rtM_rt, rtM_nx, Bool.not_true, Bool.not_false, Bool.true_and, Bool.and_true, Bool.false_and, Bool.and_false, Bool.false_eq_true, if_true, if_false, ite_true, ite_false, Nat.reduceAdd, Nat.reduceLT, Nat.reduceLeDiff, Nat.zero_lt_succ, Nat.zero_le, Bool.xor_false, Bool.false_xor, Bool.true_xor, List.map_cons, List.map_nil, b_is_kind, g5, g4, c2 h, e3, c1 p1, e4, in_lst, decide_eq_false e5, c3 p2, e6]
                rw [all_comp (p := isPr) (fun d hd => by simp only [exSs, exS, evE, evT, evP, evTOr, evTAnd, evAnd, evOr, evEs, evSrc, evO, evTs, tr, bd_ret, nex_ret, bd_assoc, bd_no, ofO_some, ofO_none, asB_ret, asB_no, List.getElem?_cons_zero, List.getElem?_cons_succ, anyTy, D.isTy, truth_non, truth_bl, truth_int, truth_lst, truth_tup, asB_bl, asI_int, walk_lst, walk_tup, walk_str, items_lst, items_tup, len_lst, len_tup, len_str, int_int, int_bl, abs_int, list_lst, list_tup, tuple_lst, tuple_tup, all_lst, any_lst, lt_int, le_int, gt_int, ge_int, add_int, sub_int, eq_int, ne_int, ix_lst, ix_tup, sl_lst, sl_tup, rev_tup, rev_lst, at0, at1, at2,  bindT, bindTs, setOwn, slOf_lst, slOf_tup, slOf_int, slOf_bl, slOf_str, slOf_non, slOf_f,  List.set_cons_zero, List.set_cons_succ, List.length_cons, List.length_nil, Env.kill, Env.noOw, isOw_vl, isOw_ow, isOw_no, evs_nil, List.all_cons, List.all_nil, Option.getD_some, Option.getD_none, Option.map_some, Option.map_none, rtM_rt, rtM_nx, Bool.not_true, Bool.not_false, Bool.true_and, Bool.and_true, Bool.false_and, Bool.and_false, Bool.false_eq_true, if_true, if_false, ite_true, ite_false, Nat.reduceAdd, Nat.reduceLT, Nat.reduceLeDiff, Nat.zero_lt_succ, Nat.zero_le, Bool.xor_false, Bool.false_xor, Bool.true_xor, List.map_cons, List.map_nil, c2 (py_mem p3 hd), pr_len]) hl]
                cases e7 : ts.all isPr with
                | false =>
                  simp only [exSs, exS, evE, evT, evP, evTOr, evTAnd, evAnd, evOr, evEs, evSrc, evO, evTs, tr, bd_ret, nex_ret, bd_assoc, bd_no, ofO_some, ofO_none, asB_ret, asB_no, List.getElem?_cons_zero, List.getElem?_cons_succ, anyTy, D.isTy, truth_non, truth_bl, truth_int, truth_lst, truth_tup, asB_bl, asI_int, walk_lst, walk_tup, walk_str, items_lst, items_tup, len_lst, len_tup, len_str, int_int, int_bl, abs_int, list_lst, list_tup, tuple_lst, tuple_tup, all_lst, any_lst, lt_int, le_int, gt_int, ge_int, add_int, sub_int, eq_int, ne_int, ix_lst, ix_tup, sl_lst, sl_tup, rev_tup, rev_lst, at0, at1, at2,  bindT, bindTs, setOwn, slOf_lst, slOf_tup, slOf_int, slOf_bl, slOf_str, slOf_non, slOf_f,  List.set_cons_zero, List.set_cons_succ, List.length_cons, List.length_nil, Env.kill, Env.noOw, isOw_vl, isOw_ow, isOw_no, evs_nil, List.all_cons, List.all_nil, Option.getD_some, Option.getD_none, Option.map_some, Option.map_none, rtM_rt, rtM_nx, Bool.not_true, Bool.not_false, Bool.true_and, Bool.and_true, Bool.false_and, Bool.and_false, Bool.false_eq_true, if_true, if_false, ite_true, ite_false, Nat.reduceAdd, Nat.reduceLT, Nat.reduceLeDiff, Nat.zero_lt_succ, Nat.zero_le, Bool.xor_false, Bool.false_xor, Bool.true_xor, List.map_cons, List.map_nil]
                  rw [isKind_tup, e7]; simp
                | true =>
                  have hp := prs_of e7
                  have py : ∀ d ∈ ts, D.py (prA d) = true ∧ D.py (prB d) = true := fun d hd => by
                    have := py_mem p3 hd
                    rw [hp d hd] at this
                    simp only [D.py, D.pyL, Bool.and_eq_true, Bool.and_true] at this
                    exact this
                  simp only [exSs, exS, evE, evT, evP, evTOr, evTAnd, evAnd, evOr, evEs, evSrc, evO, evTs, tr, bd_ret, nex_ret, bd_assoc, bd_no, ofO_some, ofO_none, asB_ret, asB_no, List.getElem?_cons_zero, List.getElem?_cons_succ, anyTy, D.isTy, truth_non, truth_bl, truth_int, truth_lst, truth_tup, asB_bl, asI_int, walk_lst, walk_tup, walk_str, items_lst, items_tup, len_lst, len_tup, len_str, int_int, int_bl, abs_int, list_lst, list_tup, tuple_lst, tuple_tup, all_lst, any_lst, lt_int, le_int, gt_int, ge_int, add_int, sub_int, eq_int, ne_int, ix_lst, ix_tup, sl_lst, sl_tup, rev_tup, rev_lst, at0, at1, at2,  bindT, bindTs, setOwn, slOf_lst, slOf_tup, slOf_int, slOf_bl, slOf_str, slOf_non, slOf_f,  List.set_cons_zero, List.set_cons_succ, List.length_cons, List.length_nil, Env.kill, Env.noOw, isOw_vl, isOw_ow, isOw_no, evs_nil, List.all_cons, List.all_nil, Option.getD_some, Option.getD_none, Option.map_some, Option.map_none, rtM_rt, rtM_nx, Bool.not_true, Bool.not_false, Bool.true_and, Bool.and_true, Bool.false_and, Bool.and_false, Bool.false_eq_true, if_true, if_false, ite_true, ite_false, Nat.reduceAdd, Nat.reduceLT, Nat.reduceLeDiff, Nat.zero_lt_succ, Nat.zero_le, Bool.xor_false, Bool.false_xor, Bool.true_xor, List.map_cons, List.map_nil]
                  rw [all_comp (p := nm2) (fun d hd => by
                    obtain ⟨q1, q2⟩ := py d hd
                    obtain ⟨a, b, rfl⟩ : ∃ a b, d = .tup [a, b] := ⟨_, _, hp d hd⟩
                    have q1 : D.py a = true := q1
                    have q2 : D.py b = true := q2
                    show _ = M.ret (some (D.bl (isNm a && isNm b)))
                    cases e8 : isNm a <;> simp only [exSs, exS, evE, evT, evP, evTOr, evTAnd, evAnd, evOr, evEs, evSrc, evO, evTs, tr, bd_ret, nex_ret, bd_assoc, bd_no, ofO_some, ofO_none, asB_ret, asB_no, List.getElem?_cons_zero, List.getElem?_cons_succ, anyTy, D.isTy, truth_non, truth_bl, truth_int, truth_lst, truth_tup, asB_bl, asI_int, walk_lst, walk_tup, walk_str, items_lst, items_tup, len_lst, len_tup, len_str, int_int, int_bl, abs_int, list_lst, list_tup, tuple_lst, tuple_tup, all_lst, any_lst, lt_int, le_int, gt_int, ge_int, add_int, sub_int, eq_int, ne_int, ix_lst, ix_tup, sl_lst, sl_tup, rev_tup, rev_lst, at0, at1, at2,  bindT, bindTs, setOwn, slOf_lst, slOf_tup, slOf_int, slOf_bl, slOf_str, slOf_non, slOf_f,  List.set_cons_zero, List.set_cons_succ, List.length_cons, List.length_nil, Env.kill, Env.noOw, isOw_vl, isOw_ow, isOw_no, evs_nil, List.all_cons, List.all_nil, Option.getD_some, Option.getD_none, Option.map_some, Option.map_none, rtM_rt, rtM_nx, Bool.not_true, Bool.not_false, Bool.true_and, Bool.and_true, Bool.false_and, Bool.and_false, Bool.false_eq_true, if_true, if_false, ite_true, ite_false, Nat.reduceAdd, Nat.reduceLT, Nat.reduceLeDiff, Nat.zero_lt_succ, Nat.zero_le, Bool.xor_false, Bool.false_xor, Bool.true_xor, List.map_cons, List.map_nil, c1 q1, c1 q2, e8]) hl]
                  cases e8 : ts.all nm2 with
                  | false =>
                    simp only [exSs, exS, evE, evT, evP, evTOr, evTAnd, evAnd, evOr, evEs, evSrc, evO, evTs, tr, bd_ret, nex_ret, bd_assoc, bd_no, ofO_some, ofO_none, asB_ret, asB_no, List.getElem?_cons_zero, List.getElem?_cons_succ, anyTy, D.isTy, truth_non, truth_bl, truth_int, truth_lst, truth_tup, asB_bl, asI_int, walk_lst, walk_tup, walk_str, items_lst, items_tup, len_lst, len_tup, len_str, int_int, int_bl, abs_int, list_lst, list_tup, tuple_lst, tuple_tup, all_lst, any_lst, lt_int, le_int, gt_int, ge_int, add_int, sub_int, eq_int, ne_int, ix_lst, ix_tup, sl_lst, sl_tup, rev_tup, rev_lst, at0, at1, at2,  bindT, bindTs, setOwn, slOf_lst, slOf_tup, slOf_int, slOf_bl, slOf_str, slOf_non, slOf_f,  List.set_cons_zero, List.set_cons_succ, List.length_cons, List.length_nil, Env.kill, Env.noOw, isOw_vl, isOw_ow, isOw_no, evs_nil, List.all_cons, List.all_nil, Option.getD_some, Option.getD_none, Option.map_some, Option.map_none, rtM_rt, rtM_nx, Bool.not_true, Bool.not_false, Bool.true_and, Bool.and_true, Bool.false_and, Bool.and_false, Bool.false_eq_true, if_true, if_false, ite_true, ite_false, Nat.reduceAdd, Nat.reduceLT, Nat.reduceLeDiff, Nat.zero_lt_succ, Nat.zero_le, Bool.xor_false, Bool.false_xor, Bool.true_xor, List.map_cons, List.map_nil]
                    rw [isKind_tup, e8]; simp
                  | true =>
                    simp only [exSs, exS, evE, evT, evP, evTOr, evTAnd, evAnd, evOr, evEs, evSrc, evO, evTs, tr, bd_ret, nex_ret, bd_assoc, bd_no, ofO_some, ofO_none, asB_ret, asB_no, List.getElem?_cons_zero, List.getElem?_cons_succ, anyTy, D.isTy, truth_non, truth_bl, truth_int, truth_lst, truth_tup, asB_bl, asI_int, walk_lst, walk_tup, walk_str, items_lst, items_tup, len_lst, len_tup, len_str, int_int, int_bl, abs_int, list_lst, list_tup, tuple_lst, tuple_tup, all_lst, any_lst, lt_int, le_int, gt_int, ge_int, add_int, sub_int, eq_int, ne_int, ix_lst, ix_tup, sl_lst, sl_tup, rev_tup, rev_lst, at0, at1, at2,  bindT, bindTs, setOwn, slOf_lst, slOf_tup, slOf_int, slOf_bl, slOf_str, slOf_non, slOf_f,  List.set_cons_zero, List.set_cons_succ, List.length_cons, List.length_nil, Env.kill, Env.noOw, isOw_vl, isOw_ow, isOw_no, evs_nil, List.all_cons, List.all_nil, Option.getD_some, Option.getD_none, Option.map_some, Option.map_none, rtM_rt, rtM_nx, Bool.not_true, Bool.not_false, Bool.true_and, Bool.and_true, Bool.false_and, Bool.and_false, Bool.false_eq_true, if_true, if_false, ite_true, ite_false, Nat.reduceAdd, Nat.reduceLT, Nat.reduceLeDiff, Nat.zero_lt_succ, Nat.zero_le, Bool.xor_false, Bool.false_xor, Bool.true_xor, List.map_cons, List.map_nil]
                    have nm : ∀ d ∈ ts, d = .tup [.str (colT d), .str (othT d)] := fun d hd => by
                      have q := List.all_eq_true.mp e8 d hd
                      unfold nm2 at q
                      rw [Bool.and_eq_true] at q
                      have h1 := hp d hd
                      rw [nm_eq q.1, nm_eq q.2] at h1
                      exact h1
                    rw [comp_mapD (g := fun d => D.str (colT d)) (fun d hd => by
                      obtain ⟨x, y, rfl⟩ : ∃ x y, d = .tup [.str x, .str y] := ⟨_, _, nm d hd⟩
                      simp only [exSs, exS, evE, evT, evP, evTOr, evTAnd, evAnd, evOr, evEs, evSrc, evO, evTs, tr, bd_ret, nex_ret, bd_assoc, bd_no, ofO_some, ofO_none, asB_ret, asB_no, List.getElem?_cons_zero, List.getElem?_cons_succ, anyTy, D.isTy, truth_non, truth_bl, truth_int, truth_lst, truth_tup, asB_bl, asI_int, walk_lst, walk_tup, walk_str, items_lst, items_tup, len_lst, len_tup, len_str, int_int, int_bl, abs_int, list_lst, list_tup, tuple_lst, tuple_tup, all_lst, any_lst, lt_int, le_int, gt_int, ge_int, add_int, sub_int, eq_int, ne_int, ix_lst, ix_tup, sl_lst, sl_tup, rev_tup, rev_lst, at0, at1, at2,  bindT, bindTs, setOwn, slOf_lst, slOf_tup, slOf_int, slOf_bl, slOf_str, slOf_non, slOf_f,  List.set_cons_zero, List.set_cons_succ, List.length_cons, List.length_nil, Env.kill, Env.noOw, isOw_vl, isOw_ow, isOw_no, evs_nil, List.all_cons, List.all_nil, Option.getD_some, Option.getD_none, Option.map_some, Option.map_none, rtM_rt, rtM_nx, Bool.not_true, Bool.not_false, Bool.true_and, Bool.and_true, Bool.false_and, Bool.and_false, Bool.false_eq_true, if_true, if_false, ite_true, ite_false, Nat.reduceAdd, Nat.reduceLT, Nat.reduceLeDiff, Nat.zero_lt_succ, Nat.zero_le, Bool.xor_false, Bool.false_xor, Bool.true_xor, List.map_cons, List.map_nil]
                      rfl) hl]
                    have ec : ts.map (fun d => D.str (colT d)) = (ts.map colT).map .str := by rw [List.map_map]; rfl
                    rw [ec]
                    simp only [exSs, exS, evE, evT, evP, evTOr, evTAnd, evAnd, evOr, evEs, evSrc, evO, evTs, tr, bd_ret, nex_ret, bd_assoc, bd_no, ofO_some, ofO_none, asB_ret, asB_no, List.getElem?_cons_zero, List.getElem?_cons_succ, anyTy, D.isTy, truth_non, truth_bl, truth_int, truth_lst, truth_tup, asB_bl, asI_int, walk_lst, walk_tup, walk_str, items_lst, items_tup, len_lst, len_tup, len_str, int_int, int_bl, abs_int, list_lst, list_tup, tuple_lst, tuple_tup, all_lst, any_lst, lt_int, le_int, gt_int, ge_int, add_int, sub_int, eq_int, ne_int, ix_lst, ix_tup, sl_lst, sl_tup, rev_tup, rev_lst, at0, at1, at2,  bindT, bindTs, setOwn, slOf_lst, slOf_tup, slOf_int, slOf_bl, slOf_str, slOf_non, slOf_f,  List.set_cons_zero, List.set_cons_succ, List.length_cons, List.length_nil, Env.kill, Env.noOw, isOw_vl, isOw_ow, isOw_no, evs_nil, List.all_cons, List.all_nil, Option.getD_some, Option.getD_none, Option.map_some, Option.map_none, rtM_rt, rtM_nx, Bool.not_true, Bool.not_false, Bool.true_and, Bool.and_true, Bool.false_and, Bool.and_false, Bool.false_eq_true, if_true, if_false, ite_true, ite_false, Nat.reduceAdd, Nat.reduceLT, Nat.reduceLeDiff, Nat.zero_lt_succ, Nat.zero_le, Bool.xor_false, Bool.false_xor, Bool.true_xor, List.map_cons, List.map_nil, c0 (ts.map colT) (by rw [List.length_map]; exact hl)]
                    cases e9 : risesS (ts.map colT) with
                    | false =>
                      simp only [exSs, exS, evE, evT, evP, evTOr, evTAnd, evAnd, evOr, evEs, evSrc, evO, evTs, tr, bd_ret, nex_ret, bd_assoc, bd_no, ofO_some, ofO_none, asB_ret, asB_no, List.getElem?_cons_zero, List.getElem?_cons_succ, anyTy, D.isTy, truth_non, truth_bl, truth_int, truth_lst, truth_tup, asB_bl, asI_int, walk_lst, walk_tup, walk_str, items_lst, items_tup, len_lst, len_tup, len_str, int_int, int_bl, abs_int, list_lst, list_tup, tuple_lst, tuple_tup, all_lst, any_lst, lt_int, le_int, gt_int, ge_int, add_int, sub_int, eq_int, ne_int, ix_lst, ix_tup, sl_lst, sl_tup, rev_tup, rev_lst, at0, at1, at2,  bindT, bindTs, setOwn, slOf_lst, slOf_tup, slOf_int, slOf_bl, slOf_str, slOf_non, slOf_f,  List.set_cons_zero, List.set_cons_succ, List.length_cons, List.length_nil, Env.kill, Env.noOw, isOw_vl, isOw_ow, isOw_no, evs_nil, List.all_cons, List.all_nil, Option.getD_some, Option.getD_none, Option.map_some, Option.map_none, rtM_rt, rtM_nx, Bool.not_true, Bool.not_false, Bool.true_and, Bool.and_true, Bool.false_and, Bool.and_false, Bool.false_eq_true, if_true, if_false, ite_true, ite_false, Nat.reduceAdd, Nat.reduceLT, Nat.reduceLeDiff, Nat.zero_lt_succ, Nat.zero_le, Bool.xor_false, Bool.false_xor, Bool.true_xor, List.map_cons, List.map_nil]
                      rw [isKind_tup, e9]; simp
                    | true =>
                      cases cs <;> first | (cases e6; done) | skip
                      rename_i cd
                      have hcd : cd = (colsOf (.tup cd)).map .str := by
                        rw [isCols_tup, Bool.and_eq_true, Bool.and_eq_true] at e6
                        exact strs_of e6.1.2
                      generalize hcs : colsOf (.tup cd) = xs at hcd
                      have e10 : isKind ahead (.tup [.str x, .tup cd, .tup ts]) = ts.all fun t => decide (colT t ∈ xs.drop 1) && decide (othT t ∈ ahead) := by
                        rw [isKind_tup, e4, e6, e7, e8, e9, show nmOf (.str x) = x from rfl, decide_eq_false e5, hcs]
                        simp
                      rw [e10]
                      subst hcd
                      simp only [exSs, exS, evE, evT, evP, evTOr, evTAnd, evAnd, evOr, evEs, evSrc, evO, evTs, tr, bd_ret, nex_ret, bd_assoc, bd_no, ofO_some, ofO_none, asB_ret, asB_no, List.getElem?_cons_zero, List.getElem?_cons_succ, anyTy, D.isTy, truth_non, truth_bl, truth_int, truth_lst, truth_tup, asB_bl, asI_int, walk_lst, walk_tup, walk_str, items_lst, items_tup, len_lst, len_tup, len_str, int_int, int_bl, abs_int, list_lst, list_tup, tuple_lst, tuple_tup, all_lst, any_lst, lt_int, le_int, gt_int, ge_int, add_int, sub_int, eq_int, ne_int, ix_lst, ix_tup, sl_lst, sl_tup, rev_tup, rev_lst, at0, at1, at2,  bindT, bindTs, setOwn, slOf_lst, slOf_tup, slOf_int, slOf_bl, slOf_str, slOf_non, slOf_f,  List.set_cons_zero, List.set_cons_succ, List.length_cons, List.length_nil, Env.kill, Env.noOw, isOw_vl, isOw_ow, isOw_no, evs_nil, List.all_cons, List.all_nil, Option.getD_some, Option.getD_none, Option.map_some, Option.map_none, rtM_rt, rtM_nx, Bool.not_true, Bool.not_false, Bool.true_and, Bool.and_true, Bool.false_and, Bool.and_false, Bool.false_eq_true, if_true, if_false, ite_true, ite_false, Nat.reduceAdd, Nat.reduceLT, Nat.reduceLeDiff, Nat.zero_lt_succ, Nat.zero_le, Bool.xor_false, Bool.false_xor, Bool.true_xor, List.map_cons, List.map_nil, cut1, ← List.map_drop]
                      rw [all_comp (p := fun t => decide (colT t ∈ xs.drop 1) && decide (othT t ∈ ahead)) (fun d hd => by
                        obtain ⟨u, v, rfl⟩ : ∃ u v, d = .tup [.str u, .str v] := ⟨_, _, nm d hd⟩
                        show _ = M.ret (some (D.bl (decide (u ∈ xs.drop 1) && decide (v ∈ ahead))))
                        by_cases e11 : u ∈ xs.drop 1
                        · simp only [exSs, exS, evE, evT, evP, evTOr, evTAnd, evAnd, evOr, evEs, evSrc, evO, evTs, tr, bd_ret, nex_ret, bd_assoc, bd_no, ofO_some, ofO_none, asB_ret, asB_no, List.getElem?_cons_zero, List.getElem?_cons_succ, anyTy, D.isTy, truth_non, truth_bl, truth_int, truth_lst, truth_tup, asB_bl, asI_int, walk_lst, walk_tup, walk_str, items_lst, items_tup, len_lst, len_tup, len_str, int_int, int_bl, abs_int, list_lst, list_tup, tuple_lst, tuple_tup, all_lst, any_lst, lt_int, le_int, gt_int, ge_int, add_int, sub_int, eq_int, ne_int, ix_lst, ix_tup, sl_lst, sl_tup, rev_tup, rev_lst, at0, at1, at2,  bindT, bindTs, setOwn, slOf_lst, slOf_tup, slOf_int, slOf_bl, slOf_str, slOf_non, slOf_f,  List.set_cons_zero, List.set_cons_succ, List.length_cons, List.length_nil, Env.kill, Env.noOw, isOw_vl, isOw_ow, isOw_no, evs_nil, List.all_cons, List.all_nil, Option.getD_some, Option.getD_none, Option.map_some, Option.map_none, rtM_rt, rtM_nx, Bool.not_true, Bool.not_false, Bool.true_and, Bool.and_true, Bool.false_and, Bool.and_false, Bool.false_eq_true, if_true, if_false, ite_true, ite_false, Nat.reduceAdd, Nat.reduceLT, Nat.reduceLeDiff, Nat.zero_lt_succ, Nat.zero_le, Bool.xor_false, Bool.false_xor, Bool.true_xor, List.map_cons, List.map_nil, cut1, ← List.map_drop, in_tup, in_lst, decide_eq_true e11]
                        · simp only [exSs, exS, evE, evT, evP, evTOr, evTAnd, evAnd, evOr, evEs, evSrc, evO, evTs, tr, bd_ret, nex_ret, bd_assoc, bd_no, ofO_some, ofO_none, asB_ret, asB_no, List.getElem?_cons_zero, List.getElem?_cons_succ, anyTy, D.isTy, truth_non, truth_bl, truth_int, truth_lst, truth_tup, asB_bl, asI_int, walk_lst, walk_tup, walk_str, items_lst, items_tup, len_lst, len_tup, len_str, int_int, int_bl, abs_int, list_lst, list_tup, tuple_lst, tuple_tup, all_lst, any_lst, lt_int, le_int, gt_int, ge_int, add_int, sub_int, eq_int, ne_int, ix_lst, ix_tup, sl_lst, sl_tup, rev_tup, rev_lst, at0, at1, at2,  bindT, bindTs, setOwn, slOf_lst, slOf_tup, slOf_int, slOf_bl, slOf_str, slOf_non, slOf_f,  List.set_cons_zero, List.set_cons_succ, List.length_cons, List.length_nil, Env.kill, Env.noOw, isOw_vl, isOw_ow, isOw_no, evs_nil, List.all_cons, List.all_nil, Option.getD_some, Option.getD_none, Option.map_some, Option.map_none, rtM_rt, rtM_nx, Bool.not_true, Bool.not_false, Bool.true_and, Bool.and_true, Bool.false_and, Bool.and_false, Bool.false_eq_true, if_true, if_false, ite_true, ite_false, Nat.reduceAdd, Nat.reduceLT, Nat.reduceLeDiff, Nat.zero_lt_succ, Nat.zero_le, Bool.xor_false, Bool.false_xor, Bool.true_xor, List.map_cons, List.map_nil, cut1, ← List.map_drop, in_tup, in_lst, decide_eq_false e11]) hl]
              all_goals
                simp only [exSs, exS, evE, evT, evP, evTOr, evTAnd, evAnd, evOr, evEs, evSrc, evO, evTs, tr, bd_ret, nex_ret, bd_assoc, bd_no, ofO_some, ofO_none, asB_ret, asB_no, List.getElem?_cons_zero, List.getElem?_cons_succ, anyTy, D.isTy, truth_non, truth_bl, truth_int, truth_lst, truth_tup, asB_bl, asI_int, walk_lst, walk_tup, walk_str, items_lst, items_tup, len_lst, len_tup, len_str, int_int, int_bl, abs_int, list_lst, list_tup, tuple_lst, tuple_tup, all_lst, any_lst, lt_int, le_int, gt_int, ge_int, add_int, sub_int, eq_int, ne_int, ix_lst, ix_tup, sl_lst, sl_tup, rev_tup, rev_lst, at0, at1, at2,  bindT, bindTs, setOwn, slOf_lst, slOf_tup, slOf_int, slOf_bl, slOf_str, slOf_non, slOf_f,  List.set_cons_zero, List.set_cons_succ, List.length_cons, List.length_nil, Env.kill, Env.noOw, isOw_vl, isOw_ow, isOw_no, evs_nil, List.all_cons, List.all_nil, Option.getD_some, Option.getD_none, Option.map_some, Option.map_none, rtM_rt, rtM_nx, Bool.not_true, Bool.not_false, Bool.true_and, Bool.and_true, Bool.false_and, Bool.and_false, Bool.false_eq_true, if_true, if_false, ite_true, ite_false, Nat.reduceAdd, Nat.reduceLT, Nat.reduceLeDiff, Nat.zero_lt_succ, Nat.zero_le, Bool.xor_false, Bool.false_xor, Bool.true_xor, List.map_cons, List.map_nil, b_is_kind, g5, c2 h, e3, c1 p1, e4, in_lst, decide_eq_false e5, c3 p2, e6]
                rfl
    | _ => cases e3
end
end LK
namespace LK
open PySem Mi
section
variable {ns : List Int} {k : Nat}
def kn : D → Str
  | .tup (n :: _) => nmOf n
  | _ => Str.empty
def goK : List Str → List D → Bool
  | _, [] => true
  | ahead, d :: ds => isKind ahead d && goK (ahead ++ [kn d]) ds
theorem c4 {d : D} (h : D.py d = true) (h2 : sm d = true) (ahead : List Str) : run prog ns (k + 3) 4 [d, .lst (ahead.map .str)] = M.ret (.bl (isKind ahead d)) := is_kind_eq h h2 ahead
theorem kind_shape {ahead : List Str} {d : D} (h : isKind ahead d = true) : ∃ r, d = .tup (.str (kn d) :: r) := by
  cases d <;> first | (cases h; done) | skip
  rename_i ds
  match ds, h with
  | [n, cs, .tup ts], h =>
    rw [isKind_tup] at h
    simp only [Bool.and_eq_true] at h
    have := nm_eq h.1.1.1.1.1.1
    exact ⟨[cs, .tup ts], by rw [show kn (.tup [n, cs, .tup ts]) = nmOf n from rfl, ← this]⟩
def bodyK : MSs := .cons (.ite (.notE (.lend 4 (.cons false (.var 2) (.cons false (.bor 1) .nil)))) (.cons (.ret (.cst (.bl false))) .nil) .nil) (.cons (.app 1 (.ix (.var 2) (.cst (.int 0)))) .nil)
theorem loopK {F : Mi.Flow × Mi.Env → M D} (hr : ∀ v s, F (.rt v, s) = M.ret v) (hn : ∀ s, F (.nx, s) = M.ret (.bl true)) (d : D) : ∀ (ks : List D) (ahead : List Str), (∀ d ∈ ks, D.py d = true ∧ sm d = true) → ahead.length + ks.length < 1000 →
    (forGo (.slot 2) [2] (exSs ⟨run prog ns (k + 3), prog.glob, ns⟩ bodyK) ks [.vl d, .ow (.lst (ahead.map .str)), .no]).bd F = M.ret (.bl (goK ahead ks))
  | [], ahead, _, _ => by rw [forGo_nil, bd_ret, hn]; rfl
  | q :: ks, ahead, h, hl => by
    obtain ⟨h1, h2⟩ := h q (List.mem_cons_self ..)
    simp only [List.length_cons] at hl
    rw [forGo_cons, show M.ofO (bindT (.slot 2) q [.vl d, .ow (.lst (ahead.map .str)), .no]) = M.ret [.vl d, .ow (.lst (ahead.map .str)), .vl q] from rfl, bd_ret]
    cases e : isKind ahead q with
    | false =>
      have hb : exSs ⟨run prog ns (k + 3), prog.glob, ns⟩ bodyK [.vl d, .ow (.lst (ahead.map .str)), .vl q] = M.ret (.rt (.bl false), [.vl d, .ow (.lst (ahead.map .str)), .vl q]) := by
        simp only [exSs, exS, evE, evT, evP, evTOr, evTAnd, evAnd, evOr, evEs, evSrc, evO, evTs, tr, bd_ret, nex_ret, bd_assoc, bd_no, ofO_some, ofO_none, asB_ret, asB_no, List.getElem?_cons_zero, List.getElem?_cons_succ, anyTy, D.isTy, truth_non, truth_bl, truth_int, truth_lst, truth_tup, asB_bl, asI_int, walk_lst, walk_tup, walk_str, items_lst, items_tup, len_lst, len_tup, len_str, int_int, int_bl, abs_int, list_lst, list_tup, tuple_lst, tuple_tup, all_lst, any_lst, lt_int, le_int, gt_int, ge_int, add_int, sub_int, eq_int, ne_int, ix_lst, ix_tup, sl_lst, sl_tup, rev_tup, rev_lst, at0, at1, at2,  bindT, bindTs, setOwn, slOf_lst, slOf_tup, slOf_int, slOf_bl, slOf_str, slOf_non, slOf_f,  List.set_cons_zero, List.set_cons_succ, List.length_cons, List.length_nil, Env.kill, Env.noOw, isOw_vl, isOw_ow, isOw_no, evs_nil, List.all_cons, List.all_nil, Option.getD_some, Option.getD_none, Option.map_some, Option.map_none, rtM_rt, rtM_nx, Bool.not_true, Bool.not_false, Bool.true_and, Bool.and_true, Bool.false_and, Bool.and_false, Bool.false_eq_true, if_true, if_false, ite_true, ite_false, Nat.reduceAdd, Nat.reduceLT, Nat.reduceLeDiff, Nat.zero_lt_succ, Nat.zero_le, Bool.xor_false, Bool.false_xor, Bool.true_xor, List.map_cons, List.map_nil, bodyK, c4 h1 h2, e, pure_bl]
      rw [hb, bd_ret, bd_ret, hr, goK, e]
      rfl
    | true =>
      obtain ⟨r, hq⟩ := kind_shape e
      have e2 : ixM q (.int 0) = M.ret (.str (kn q)) := by
        generalize kn q = x at hq
        subst hq
        rw [ix_tup, at0]
        rfl
      have hb : exSs ⟨run prog ns (k + 3), prog.glob, ns⟩ bodyK [.vl d, .ow (.lst (ahead.map .str)), .vl q] = M.ret (.nx, [.vl d, .ow (.lst ((ahead ++ [kn q]).map .str)), .vl q]) := by
        simp only [exSs, exS, evE, evT, evP, evTOr, evTAnd, evAnd, evOr, evEs, evSrc, evO, evTs, tr, bd_ret, nex_ret, bd_assoc, bd_no, ofO_some, ofO_none, asB_ret, asB_no, List.getElem?_cons_zero, List.getElem?_cons_succ, anyTy, D.isTy, truth_non, truth_bl, truth_int, truth_lst, truth_tup, asB_bl, asI_int, walk_lst, walk_tup, walk_str, items_lst, items_tup, len_lst, len_tup, len_str, int_int, int_bl, abs_int, list_lst, list_tup, tuple_lst, tuple_tup, all_lst, any_lst, lt_int, le_int, gt_int, ge_int, add_int, sub_int, eq_int, ne_int, ix_lst, ix_tup, sl_lst, sl_tup, rev_tup, rev_lst, at0, at1, at2,  bindT, bindTs, setOwn, slOf_lst, slOf_tup, slOf_int, slOf_bl, slOf_str, slOf_non, slOf_f,  List.set_cons_zero, List.set_cons_succ, List.length_cons, List.length_nil, Env.kill, Env.noOw, isOw_vl, isOw_ow, isOw_no, evs_nil, List.all_cons, List.all_nil, Option.getD_some, Option.getD_none, Option.map_some, Option.map_none, rtM_rt, rtM_nx, Bool.not_true, Bool.not_false, Bool.true_and, Bool.and_true, Bool.false_and, Bool.and_false, Bool.false_eq_true, if_true, if_false, ite_true, ite_false, Nat.reduceAdd, Nat.reduceLT, Nat.reduceLeDiff, Nat.zero_lt_succ, Nat.zero_le, Bool.xor_false, Bool.false_xor, Bool.true_xor, List.map_cons, List.map_nil, bodyK, c4 h1 h2, e, pure_bl, e2]
        rw [if_pos (by rw [List.length_map]; unfold lineMax; omega)]
        simp [bd_ret]
      rw [hb, bd_ret]
      show (forGo (.slot 2) [2] (exSs ⟨run prog ns (k + 3), prog.glob, ns⟩ bodyK) ks [.vl d, .ow (.lst ((ahead ++ [kn q]).map .str)), .no]).bd F = _
      rw [loopK hr hn d ks (ahead ++ [kn q]) (fun d hd => h d (List.mem_cons_of_mem _ hd)) (by simp only [List.length_append, List.length_cons, List.length_nil]; omega), goK, e]
      rfl
def isSch : D → Bool
  | .tup ks => decide (1 ≤ ks.length) && decide (ks.length ≤ 3) && goK [] ks
  | _ => false
theorem isSch_tup (ks : List D) : isSch (.tup ks) = (decide (1 ≤ ks.length) && decide (ks.length ≤ 3) && goK [] ks) := rfl
theorem smL_mem {ds : List D} (h : smL ds = true) {d : D} (hd : d ∈ ds) : sm d = true := by
  induction ds with
  | nil => cases hd
  | cons x xs ih =>
    simp only [smL, Bool.and_eq_true] at h
    rcases List.mem_cons.mp hd with rfl | hd
    · exact h.1
    · exact ih h.2 hd
theorem is_schema_eq {d : D} (h : D.py d = true) (h2 : sm d = true) : run prog ns (k + 4) i_is_schema [d] = M.ret (.bl (isSch d)) := by
  show (exSs ⟨run prog ns (k + 3), prog.glob, ns⟩ b_is_schema [.vl d, .no, .no]).bd rtM = _
  cases d <;> first | (cases h; done) | skip
  case tup ds =>
    have h2' := h2
    simp only [sm, Bool.and_eq_true, decide_eq_true_eq] at h2'
    by_cases h3 : (1 : Int) ≤ ds.length
    · by_cases h4 : (ds.length : Int) ≤ 3
      · rw [isSch_tup, decide_eq_true (show 1 ≤ ds.length by omega), decide_eq_true (show ds.length ≤ 3 by omega), Bool.true_and, Bool.true_and, ← loopK (ns := ns) (k := k) (F := fun p => (match p.1 with
          | .nx => exSs ⟨run prog ns (k + 3), prog.glob, ns⟩ (.cons (.ret (.cst (.bl true))) .nil) p.2
          | _ => M.ret p).bd rtM) (fun v s => rfl) (fun s => rfl) (.tup ds) ds [] (fun d hd => ⟨py_mem h hd, smL_mem h2'.2 hd⟩) (by simp only [List.length_nil]; omega)]
        have hb : b_is_schema = .cons (.ite (.orE (.cons false (.notE (.isi (.var 0) true [.tuple])) (.cons false (.notE (.chain .le .le (.cst (.int 1)) (.bi .len (.var 0)) (.glo 2))) .nil))) (.cons (.ret (.cst (.bl false))) .nil) .nil)
          (.cons (.asg true (.slot 1) (.lst .nil)) (.cons (.for_ (.slot 2) (.it (.var 0)) [2] bodyK) (.cons (.ret (.cst (.bl true))) .nil))) := rfl
        rw [hb]
        generalize bodyK = bk
        simp only [exSs, exS, evE, evT, evP, evTOr, evTAnd, evAnd, evOr, evEs, evSrc, evO, evTs, tr, bd_ret, nex_ret, bd_assoc, bd_no, ofO_some, ofO_none, asB_ret, asB_no, List.getElem?_cons_zero, List.getElem?_cons_succ, anyTy, D.isTy, truth_non, truth_bl, truth_int, truth_lst, truth_tup, asB_bl, asI_int, walk_lst, walk_tup, walk_str, items_lst, items_tup, len_lst, len_tup, len_str, int_int, int_bl, abs_int, list_lst, list_tup, tuple_lst, tuple_tup, all_lst, any_lst, lt_int, le_int, gt_int, ge_int, add_int, sub_int, eq_int, ne_int, ix_lst, ix_tup, sl_lst, sl_tup, rev_tup, rev_lst, at0, at1, at2,  bindT, bindTs, setOwn, slOf_lst, slOf_tup, slOf_int, slOf_bl, slOf_str, slOf_non, slOf_f,  List.set_cons_zero, List.set_cons_succ, List.length_cons, List.length_nil, Env.kill, Env.noOw, isOw_vl, isOw_ow, isOw_no, evs_nil, List.all_cons, List.all_nil, Option.getD_some, Option.getD_none, Option.map_some, Option.map_none, rtM_rt, rtM_nx, Bool.not_true, Bool.not_false, Bool.true_and, Bool.and_true, Bool.false_and, Bool.and_false, Bool.false_eq_true, if_true, if_false, ite_true, ite_false, Nat.reduceAdd, Nat.reduceLT, Nat.reduceLeDiff, Nat.zero_lt_succ, Nat.zero_le, Bool.xor_false, Bool.false_xor, Bool.true_xor, List.map_cons, List.map_nil, g2, decide_eq_true h3, decide_eq_true h4]
        all_goals rfl
      · simp only [exSs, exS, evE, evT, evP, evTOr, evTAnd, evAnd, evOr, evEs, evSrc, evO, evTs, tr, bd_ret, nex_ret, bd_assoc, bd_no, ofO_some, ofO_none, asB_ret, asB_no, List.getElem?_cons_zero, List.getElem?_cons_succ, anyTy, D.isTy, truth_non, truth_bl, truth_int, truth_lst, truth_tup, asB_bl, asI_int, walk_lst, walk_tup, walk_str, items_lst, items_tup, len_lst, len_tup, len_str, int_int, int_bl, abs_int, list_lst, list_tup, tuple_lst, tuple_tup, all_lst, any_lst, lt_int, le_int, gt_int, ge_int, add_int, sub_int, eq_int, ne_int, ix_lst, ix_tup, sl_lst, sl_tup, rev_tup, rev_lst, at0, at1, at2,  bindT, bindTs, setOwn, slOf_lst, slOf_tup, slOf_int, slOf_bl, slOf_str, slOf_non, slOf_f,  List.set_cons_zero, List.set_cons_succ, List.length_cons, List.length_nil, Env.kill, Env.noOw, isOw_vl, isOw_ow, isOw_no, evs_nil, List.all_cons, List.all_nil, Option.getD_some, Option.getD_none, Option.map_some, Option.map_none, rtM_rt, rtM_nx, Bool.not_true, Bool.not_false, Bool.true_and, Bool.and_true, Bool.false_and, Bool.and_false, Bool.false_eq_true, if_true, if_false, ite_true, ite_false, Nat.reduceAdd, Nat.reduceLT, Nat.reduceLeDiff, Nat.zero_lt_succ, Nat.zero_le, Bool.xor_false, Bool.false_xor, Bool.true_xor, List.map_cons, List.map_nil, b_is_schema, g2, decide_eq_true h3, decide_eq_false h4]
        rw [isSch_tup, decide_eq_false (show ¬ ds.length ≤ 3 by omega)]
        simp
    · simp only [exSs, exS, evE, evT, evP, evTOr, evTAnd, evAnd, evOr, evEs, evSrc, evO, evTs, tr, bd_ret, nex_ret, bd_assoc, bd_no, ofO_some, ofO_none, asB_ret, asB_no, List.getElem?_cons_zero, List.getElem?_cons_succ, anyTy, D.isTy, truth_non, truth_bl, truth_int, truth_lst, truth_tup, asB_bl, asI_int, walk_lst, walk_tup, walk_str, items_lst, items_tup, len_lst, len_tup, len_str, int_int, int_bl, abs_int, list_lst, list_tup, tuple_lst, tuple_tup, all_lst, any_lst, lt_int, le_int, gt_int, ge_int, add_int, sub_int, eq_int, ne_int, ix_lst, ix_tup, sl_lst, sl_tup, rev_tup, rev_lst, at0, at1, at2,  bindT, bindTs, setOwn, slOf_lst, slOf_tup, slOf_int, slOf_bl, slOf_str, slOf_non, slOf_f,  List.set_cons_zero, List.set_cons_succ, List.length_cons, List.length_nil, Env.kill, Env.noOw, isOw_vl, isOw_ow, isOw_no, evs_nil, List.all_cons, List.all_nil, Option.getD_some, Option.getD_none, Option.map_some, Option.map_none, rtM_rt, rtM_nx, Bool.not_true, Bool.not_false, Bool.true_and, Bool.and_true, Bool.false_and, Bool.and_false, Bool.false_eq_true, if_true, if_false, ite_true, ite_false, Nat.reduceAdd, Nat.reduceLT, Nat.reduceLeDiff, Nat.zero_lt_succ, Nat.zero_le, Bool.xor_false, Bool.false_xor, Bool.true_xor, List.map_cons, List.map_nil, b_is_schema, g2, decide_eq_false h3]
      rw [isSch_tup, decide_eq_false (show ¬ 1 ≤ ds.length by omega)]
      simp
  all_goals (simp only [exSs, exS, evE, evT, evP, evTOr, evTAnd, evAnd, evOr, evEs, evSrc, evO, evTs, tr, bd_ret, nex_ret, bd_assoc, bd_no, ofO_some, ofO_none, asB_ret, asB_no, List.getElem?_cons_zero, List.getElem?_cons_succ, anyTy, D.isTy, truth_non, truth_bl, truth_int, truth_lst, truth_tup, asB_bl, asI_int, walk_lst, walk_tup, walk_str, items_lst, items_tup, len_lst, len_tup, len_str, int_int, int_bl, abs_int, list_lst, list_tup, tuple_lst, tuple_tup, all_lst, any_lst, lt_int, le_int, gt_int, ge_int, add_int, sub_int, eq_int, ne_int, ix_lst, ix_tup, sl_lst, sl_tup, rev_tup, rev_lst, at0, at1, at2,  bindT, bindTs, setOwn, slOf_lst, slOf_tup, slOf_int, slOf_bl, slOf_str, slOf_non, slOf_f,  List.set_cons_zero, List.set_cons_succ, List.length_cons, List.length_nil, Env.kill, Env.noOw, isOw_vl, isOw_ow, isOw_no, evs_nil, List.all_cons, List.all_nil, Option.getD_some, Option.getD_none, Option.map_some, Option.map_none, rtM_rt, rtM_nx, Bool.not_true, Bool.not_false, Bool.true_and, Bool.and_true, Bool.false_and, Bool.and_false, Bool.false_eq_true, if_true, if_false, ite_true, ite_false, Nat.reduceAdd, Nat.reduceLT, Nat.reduceLeDiff, Nat.zero_lt_succ, Nat.zero_le, Bool.xor_false, Bool.false_xor, Bool.true_xor, List.map_cons, List.map_nil, b_is_schema]; rfl)
end
end LK
namespace LK
open PySem Mi
section
variable {ns : List Int} {k : Nat}
theorem l_tag_eq {d : D} (h : D.py d = true) : run prog ns (k + 1) i_l_tag [d] = M.ret (.bl (isNm d)) := by
  show (exSs ⟨run prog ns k, prog.glob, ns⟩ b_l_tag [.vl d, .no]).bd rtM = _
  cases d <;> first | (cases h; done) | skip
  case str x =>
    by_cases h1 : (0 : Int) < x.cps.size
    · by_cases h2 : (x.cps.size : Int) < 9
      · simp only [exSs, exS, evE, evT, evP, evTOr, evTAnd, evAnd, evOr, evEs, evSrc, evO, evTs, tr, bd_ret, nex_ret, bd_assoc, bd_no, ofO_some, ofO_none, asB_ret, asB_no, List.getElem?_cons_zero, List.getElem?_cons_succ, anyTy, D.isTy, truth_non, truth_bl, truth_int, truth_lst, truth_tup, asB_bl, asI_int, walk_lst, walk_tup, walk_str, items_lst, items_tup, len_lst, len_tup, len_str, int_int, int_bl, abs_int, list_lst, list_tup, tuple_lst, tuple_tup, all_lst, any_lst, lt_int, le_int, gt_int, ge_int, add_int, sub_int, eq_int, ne_int, ix_lst, ix_tup, sl_lst, sl_tup, rev_tup, rev_lst, at0, at1, at2,  bindT, bindTs, setOwn, slOf_lst, slOf_tup, slOf_int, slOf_bl, slOf_str, slOf_non, slOf_f,  List.set_cons_zero, List.set_cons_succ, List.length_cons, List.length_nil, Env.kill, Env.noOw, isOw_vl, isOw_ow, isOw_no, evs_nil, List.all_cons, List.all_nil, Option.getD_some, Option.getD_none, Option.map_some, Option.map_none, rtM_rt, rtM_nx, Bool.not_true, Bool.not_false, Bool.true_and, Bool.and_true, Bool.false_and, Bool.and_false, Bool.false_eq_true, if_true, if_false, ite_true, ite_false, Nat.reduceAdd, Nat.reduceLT, Nat.reduceLeDiff, Nat.zero_lt_succ, Nat.zero_le, Bool.xor_false, Bool.false_xor, Bool.true_xor, List.map_cons, List.map_nil, b_l_tag, decide_eq_true h1, decide_eq_true h2, strItems]
        rw [comp_flt (g := fun d => match d with | .str y => if y.cps.toList.all sgOk then none else some d | _ => none) (fun d hd => by
          obtain ⟨c, _, rfl⟩ := List.mem_map.mp hd
          have e1 : (decide (([c] : List Nat) < [97])) = !decide (97 ≤ c) := by
            rw [Bool.eq_iff_iff]; simp [List.cons_lt_cons_iff]
          have e2 : (decide (([122] : List Nat) < [c])) = !decide (c ≤ 122) := by
            rw [Bool.eq_iff_iff]; simp [List.cons_lt_cons_iff]
          by_cases e3 : 97 ≤ c
          · by_cases e4 : c ≤ 122
            · simp only [exSs, exS, evE, evT, evP, evTOr, evTAnd, evAnd, evOr, evEs, evSrc, evO, evTs, tr, bd_ret, nex_ret, bd_assoc, bd_no, ofO_some, ofO_none, asB_ret, asB_no, List.getElem?_cons_zero, List.getElem?_cons_succ, anyTy, D.isTy, truth_non, truth_bl, truth_int, truth_lst, truth_tup, asB_bl, asI_int, walk_lst, walk_tup, walk_str, items_lst, items_tup, len_lst, len_tup, len_str, int_int, int_bl, abs_int, list_lst, list_tup, tuple_lst, tuple_tup, all_lst, any_lst, lt_int, le_int, gt_int, ge_int, add_int, sub_int, eq_int, ne_int, ix_lst, ix_tup, sl_lst, sl_tup, rev_tup, rev_lst, at0, at1, at2,  bindT, bindTs, setOwn, slOf_lst, slOf_tup, slOf_int, slOf_bl, slOf_str, slOf_non, slOf_f,  List.set_cons_zero, List.set_cons_succ, List.length_cons, List.length_nil, Env.kill, Env.noOw, isOw_vl, isOw_ow, isOw_no, evs_nil, List.all_cons, List.all_nil, Option.getD_some, Option.getD_none, Option.map_some, Option.map_none, rtM_rt, rtM_nx, Bool.not_true, Bool.not_false, Bool.true_and, Bool.and_true, Bool.false_and, Bool.and_false, Bool.false_eq_true, if_true, if_false, ite_true, ite_false, Nat.reduceAdd, Nat.reduceLT, Nat.reduceLeDiff, Nat.zero_lt_succ, Nat.zero_le, Bool.xor_false, Bool.false_xor, Bool.true_xor, List.map_cons, List.map_nil, le_str, e1, e2, decide_eq_true e3, decide_eq_true e4]
              simp [sgOk, e3, e4]
            · simp only [exSs, exS, evE, evT, evP, evTOr, evTAnd, evAnd, evOr, evEs, evSrc, evO, evTs, tr, bd_ret, nex_ret, bd_assoc, bd_no, ofO_some, ofO_none, asB_ret, asB_no, List.getElem?_cons_zero, List.getElem?_cons_succ, anyTy, D.isTy, truth_non, truth_bl, truth_int, truth_lst, truth_tup, asB_bl, asI_int, walk_lst, walk_tup, walk_str, items_lst, items_tup, len_lst, len_tup, len_str, int_int, int_bl, abs_int, list_lst, list_tup, tuple_lst, tuple_tup, all_lst, any_lst, lt_int, le_int, gt_int, ge_int, add_int, sub_int, eq_int, ne_int, ix_lst, ix_tup, sl_lst, sl_tup, rev_tup, rev_lst, at0, at1, at2,  bindT, bindTs, setOwn, slOf_lst, slOf_tup, slOf_int, slOf_bl, slOf_str, slOf_non, slOf_f,  List.set_cons_zero, List.set_cons_succ, List.length_cons, List.length_nil, Env.kill, Env.noOw, isOw_vl, isOw_ow, isOw_no, evs_nil, List.all_cons, List.all_nil, Option.getD_some, Option.getD_none, Option.map_some, Option.map_none, rtM_rt, rtM_nx, Bool.not_true, Bool.not_false, Bool.true_and, Bool.and_true, Bool.false_and, Bool.and_false, Bool.false_eq_true, if_true, if_false, ite_true, ite_false, Nat.reduceAdd, Nat.reduceLT, Nat.reduceLeDiff, Nat.zero_lt_succ, Nat.zero_le, Bool.xor_false, Bool.false_xor, Bool.true_xor, List.map_cons, List.map_nil, le_str, e1, e2, decide_eq_true e3, decide_eq_false e4]
              simp [sgOk, e3, e4]
          · simp only [exSs, exS, evE, evT, evP, evTOr, evTAnd, evAnd, evOr, evEs, evSrc, evO, evTs, tr, bd_ret, nex_ret, bd_assoc, bd_no, ofO_some, ofO_none, asB_ret, asB_no, List.getElem?_cons_zero, List.getElem?_cons_succ, anyTy, D.isTy, truth_non, truth_bl, truth_int, truth_lst, truth_tup, asB_bl, asI_int, walk_lst, walk_tup, walk_str, items_lst, items_tup, len_lst, len_tup, len_str, int_int, int_bl, abs_int, list_lst, list_tup, tuple_lst, tuple_tup, all_lst, any_lst, lt_int, le_int, gt_int, ge_int, add_int, sub_int, eq_int, ne_int, ix_lst, ix_tup, sl_lst, sl_tup, rev_tup, rev_lst, at0, at1, at2,  bindT, bindTs, setOwn, slOf_lst, slOf_tup, slOf_int, slOf_bl, slOf_str, slOf_non, slOf_f,  List.set_cons_zero, List.set_cons_succ, List.length_cons, List.length_nil, Env.kill, Env.noOw, isOw_vl, isOw_ow, isOw_no, evs_nil, List.all_cons, List.all_nil, Option.getD_some, Option.getD_none, Option.map_some, Option.map_none, rtM_rt, rtM_nx, Bool.not_true, Bool.not_false, Bool.true_and, Bool.and_true, Bool.false_and, Bool.and_false, Bool.false_eq_true, if_true, if_false, ite_true, ite_false, Nat.reduceAdd, Nat.reduceLT, Nat.reduceLeDiff, Nat.zero_lt_succ, Nat.zero_le, Bool.xor_false, Bool.false_xor, Bool.true_xor, List.map_cons, List.map_nil, le_str, e1, e2, decide_eq_false e3]
            simp [sgOk, e3]) (by rw [List.length_map, Array.length_toList]; unfold lineMax; omega)]
        rw [eq_nil (pyL_of fun d hd => by
          obtain ⟨q, hq, e⟩ := List.mem_filterMap.mp hd
          obtain ⟨c, _, rfl⟩ := List.mem_map.mp hq
          dsimp only at e
          split at e
          · cases e
          · cases e; rfl)]
        simp only [exSs, exS, evE, evT, evP, evTOr, evTAnd, evAnd, evOr, evEs, evSrc, evO, evTs, tr, bd_ret, nex_ret, bd_assoc, bd_no, ofO_some, ofO_none, asB_ret, asB_no, List.getElem?_cons_zero, List.getElem?_cons_succ, anyTy, D.isTy, truth_non, truth_bl, truth_int, truth_lst, truth_tup, asB_bl, asI_int, walk_lst, walk_tup, walk_str, items_lst, items_tup, len_lst, len_tup, len_str, int_int, int_bl, abs_int, list_lst, list_tup, tuple_lst, tuple_tup, all_lst, any_lst, lt_int, le_int, gt_int, ge_int, add_int, sub_int, eq_int, ne_int, ix_lst, ix_tup, sl_lst, sl_tup, rev_tup, rev_lst, at0, at1, at2,  bindT, bindTs, setOwn, slOf_lst, slOf_tup, slOf_int, slOf_bl, slOf_str, slOf_non, slOf_f,  List.set_cons_zero, List.set_cons_succ, List.length_cons, List.length_nil, Env.kill, Env.noOw, isOw_vl, isOw_ow, isOw_no, evs_nil, List.all_cons, List.all_nil, Option.getD_some, Option.getD_none, Option.map_some, Option.map_none, rtM_rt, rtM_nx, Bool.not_true, Bool.not_false, Bool.true_and, Bool.and_true, Bool.false_and, Bool.and_false, Bool.false_eq_true, if_true, if_false, ite_true, ite_false, Nat.reduceAdd, Nat.reduceLT, Nat.reduceLeDiff, Nat.zero_lt_succ, Nat.zero_le, Bool.xor_false, Bool.false_xor, Bool.true_xor, List.map_cons, List.map_nil]
        rw [isNm_str, decide_eq_true (show 1 ≤ x.cps.size by omega), decide_eq_true (show x.cps.size ≤ 8 by omega), Bool.true_and, Bool.true_and]
        congr 2
        rw [Bool.eq_iff_iff, List.isEmpty_iff, List.filterMap_eq_nil_iff, List.all_eq_true]
        constructor
        · intro hh c hc
          have := hh (.str ⟨#[c]⟩) (List.mem_map_of_mem hc)
          dsimp only at this
          split at this
          · rename_i q
            simpa using q
          · cases this
        · intro hh d hd
          obtain ⟨c, hc, rfl⟩ := List.mem_map.mp hd
          have := hh c hc
          simp [this]
      · simp only [exSs, exS, evE, evT, evP, evTOr, evTAnd, evAnd, evOr, evEs, evSrc, evO, evTs, tr, bd_ret, nex_ret, bd_assoc, bd_no, ofO_some, ofO_none, asB_ret, asB_no, List.getElem?_cons_zero, List.getElem?_cons_succ, anyTy, D.isTy, truth_non, truth_bl, truth_int, truth_lst, truth_tup, asB_bl, asI_int, walk_lst, walk_tup, walk_str, items_lst, items_tup, len_lst, len_tup, len_str, int_int, int_bl, abs_int, list_lst, list_tup, tuple_lst, tuple_tup, all_lst, any_lst, lt_int, le_int, gt_int, ge_int, add_int, sub_int, eq_int, ne_int, ix_lst, ix_tup, sl_lst, sl_tup, rev_tup, rev_lst, at0, at1, at2,  bindT, bindTs, setOwn, slOf_lst, slOf_tup, slOf_int, slOf_bl, slOf_str, slOf_non, slOf_f,  List.set_cons_zero, List.set_cons_succ, List.length_cons, List.length_nil, Env.kill, Env.noOw, isOw_vl, isOw_ow, isOw_no, evs_nil, List.all_cons, List.all_nil, Option.getD_some, Option.getD_none, Option.map_some, Option.map_none, rtM_rt, rtM_nx, Bool.not_true, Bool.not_false, Bool.true_and, Bool.and_true, Bool.false_and, Bool.and_false, Bool.false_eq_true, if_true, if_false, ite_true, ite_false, Nat.reduceAdd, Nat.reduceLT, Nat.reduceLeDiff, Nat.zero_lt_succ, Nat.zero_le, Bool.xor_false, Bool.false_xor, Bool.true_xor, List.map_cons, List.map_nil, b_l_tag, decide_eq_true h1, decide_eq_false h2]
        rw [isNm_str, decide_eq_false (show ¬ x.cps.size ≤ 8 by omega)]
        simp
    · simp only [exSs, exS, evE, evT, evP, evTOr, evTAnd, evAnd, evOr, evEs, evSrc, evO, evTs, tr, bd_ret, nex_ret, bd_assoc, bd_no, ofO_some, ofO_none, asB_ret, asB_no, List.getElem?_cons_zero, List.getElem?_cons_succ, anyTy, D.isTy, truth_non, truth_bl, truth_int, truth_lst, truth_tup, asB_bl, asI_int, walk_lst, walk_tup, walk_str, items_lst, items_tup, len_lst, len_tup, len_str, int_int, int_bl, abs_int, list_lst, list_tup, tuple_lst, tuple_tup, all_lst, any_lst, lt_int, le_int, gt_int, ge_int, add_int, sub_int, eq_int, ne_int, ix_lst, ix_tup, sl_lst, sl_tup, rev_tup, rev_lst, at0, at1, at2,  bindT, bindTs, setOwn, slOf_lst, slOf_tup, slOf_int, slOf_bl, slOf_str, slOf_non, slOf_f,  List.set_cons_zero, List.set_cons_succ, List.length_cons, List.length_nil, Env.kill, Env.noOw, isOw_vl, isOw_ow, isOw_no, evs_nil, List.all_cons, List.all_nil, Option.getD_some, Option.getD_none, Option.map_some, Option.map_none, rtM_rt, rtM_nx, Bool.not_true, Bool.not_false, Bool.true_and, Bool.and_true, Bool.false_and, Bool.and_false, Bool.false_eq_true, if_true, if_false, ite_true, ite_false, Nat.reduceAdd, Nat.reduceLT, Nat.reduceLeDiff, Nat.zero_lt_succ, Nat.zero_le, Bool.xor_false, Bool.false_xor, Bool.true_xor, List.map_cons, List.map_nil, b_l_tag, decide_eq_false h1]
      rw [isNm_str, decide_eq_false (show ¬ 1 ≤ x.cps.size by omega)]
      simp
  all_goals (simp only [exSs, exS, evE, evT, evP, evTOr, evTAnd, evAnd, evOr, evEs, evSrc, evO, evTs, tr, bd_ret, nex_ret, bd_assoc, bd_no, ofO_some, ofO_none, asB_ret, asB_no, List.getElem?_cons_zero, List.getElem?_cons_succ, anyTy, D.isTy, truth_non, truth_bl, truth_int, truth_lst, truth_tup, asB_bl, asI_int, walk_lst, walk_tup, walk_str, items_lst, items_tup, len_lst, len_tup, len_str, int_int, int_bl, abs_int, list_lst, list_tup, tuple_lst, tuple_tup, all_lst, any_lst, lt_int, le_int, gt_int, ge_int, add_int, sub_int, eq_int, ne_int, ix_lst, ix_tup, sl_lst, sl_tup, rev_tup, rev_lst, at0, at1, at2,  bindT, bindTs, setOwn, slOf_lst, slOf_tup, slOf_int, slOf_bl, slOf_str, slOf_non, slOf_f,  List.set_cons_zero, List.set_cons_succ, List.length_cons, List.length_nil, Env.kill, Env.noOw, isOw_vl, isOw_ow, isOw_no, evs_nil, List.all_cons, List.all_nil, Option.getD_some, Option.getD_none, Option.map_some, Option.map_none, rtM_rt, rtM_nx, Bool.not_true, Bool.not_false, Bool.true_and, Bool.and_true, Bool.false_and, Bool.and_false, Bool.false_eq_true, if_true, if_false, ite_true, ite_false, Nat.reduceAdd, Nat.reduceLT, Nat.reduceLeDiff, Nat.zero_lt_succ, Nat.zero_le, Bool.xor_false, Bool.false_xor, Bool.true_xor, List.map_cons, List.map_nil, b_l_tag]; rfl)
theorem c12 {d : D} (h : D.py d = true) : run prog ns (k + 1) 12 [d] = M.ret (.bl (isNm d)) := l_tag_eq h
end
end LK
namespace LK
open PySem Mi
section
variable {ns : List Int} {k : Nat}
def bodyT : MSs := (.cons (.ite (.orE (.cons false (.notE (.isi (.var 3) true [.tuple])) (.cons false (.op .ne (.bi .len (.var 3)) (.cst (.int 2))) (.cons false (.notE (.call 12 (.cons false (.ix (.var 3) (.cst (.int 0))) .nil))) (.cons false (.notE (.call 12 (.cons false (.ix (.var 3) (.cst (.int 1))) .nil))) .nil)))))
 (.cons (.ret (.cst (.bl false)))
 .nil)
 .nil)
 (.cons (.ite (.orE (.cons false (.op .nin (.ix (.var 3) (.cst (.int 0))) (.sl (.ix (.var 2) (.cst (.int 1))) (.some (.cst (.int 1))) .none)) (.cons false (.op .nin (.ix (.var 3) (.cst (.int 1))) (.bor 1)) .nil)))
 (.cons (.ret (.cst (.bl false)))
 .nil)
 .nil)
 .nil))
def restI : MSs := (.cons (.asg false (.slot 4) (.comp (.ix (.var 3) (.cst (.int 0))) (.slot 3) (.it (.ix (.var 2) (.cst (.int 2)))) .nil [3]))
 (.cons (.ite (.op .ne (.var 4) (.bi .sortSet (.var 4)))
 (.cons (.ret (.cst (.bl false)))
 .nil)
 .nil)
 (.cons (.app 1 (.ix (.var 2) (.cst (.int 0))))
 .nil)))
def bodyI : MSs := (.cons (.ite (.orE (.cons false (.notE (.isi (.var 2) true [.tuple])) (.cons false (.op .ne (.bi .len (.var 2)) (.cst (.int 3))) (.cons false (.notE (.call 12 (.cons false (.ix (.var 2) (.cst (.int 0))) .nil))) (.cons false (.op .inn (.ix (.var 2) (.cst (.int 0))) (.bor 1)) .nil)))))
 (.cons (.ret (.cst (.bl false)))
 .nil)
 .nil)
 (.cons (.ite (.orE (.cons false (.notE (.isi (.ix (.var 2) (.cst (.int 1))) true [.tuple])) (.cons false (.notE (.chain .lt .lt (.cst (.int 0)) (.bi .len (.ix (.var 2) (.cst (.int 1)))) (.cst (.int 5)))) (.cons false (.notE (.isi (.ix (.var 2) (.cst (.int 2))) true [.tuple])) .nil))))
 (.cons (.ret (.cst (.bl false)))
 .nil)
 .nil)
 (.cons (.ite (.orE (.cons false (.op .ne (.comp (.var 3) (.slot 3) (.it (.ix (.var 2) (.cst (.int 1)))) (.cons false (.notE (.call 12 (.cons false (.var 3) .nil))) .nil) [3]) (.lst .nil)) (.cons false (.op .ne (.bi .lenSet (.ix (.var 2) (.cst (.int 1)))) (.bi .len (.ix (.var 2) (.cst (.int 1))))) .nil)))
 (.cons (.ret (.cst (.bl false)))
 .nil)
 .nil)
 (.cons (.for_ (.slot 3) (.it (.ix (.var 2) (.cst (.int 2)))) [] bodyT)
 restI))))
theorem b_l_is_eq : b_l_is = (.cons (.ite (.orE (.cons false (.notE (.isi (.var 0) true [.tuple])) (.cons false (.notE (.chain .lt .lt (.cst (.int 0)) (.bi .len (.var 0)) (.cst (.int 4)))) .nil)))
 (.cons (.ret (.cst (.bl false)))
 .nil)
 .nil)
 (.cons (.asg true (.slot 1) (.lst .nil))
 (.cons (.for_ (.slot 2) (.it (.var 0)) [2, 4] bodyI)
 (.cons (.ret (.cst (.bl true)))
 .nil)))) := rfl
def goodT (xs ahead : List Str) (t : D) : Bool := isPr t && isNm (prA t) && isNm (prB t) && decide (colT t ∈ xs.drop 1) && decide (othT t ∈ ahead)
def isKind2 (ahead : List Str) : D → Bool
  | .tup [n, .tup cs, .tup ts] => isNm n && !decide (nmOf n ∈ ahead) && decide (1 ≤ cs.length) && decide (cs.length ≤ 4) && cs.all isNm && decide ((dedup (cs.map nmOf)).length = cs.length) && ts.all (goodT (cs.map nmOf) ahead) && decide (ts.map colT = (dedup (ts.map colT)).mergeSort leStr)
  | _ => false
theorem isKind2_tup (ahead : List Str) (n : D) (cs ts : List D) : isKind2 ahead (.tup [n, .tup cs, .tup ts]) = (isNm n && !decide (nmOf n ∈ ahead) && decide (1 ≤ cs.length) && decide (cs.length ≤ 4) && cs.all isNm && decide ((dedup (cs.map nmOf)).length = cs.length) && ts.all (goodT (cs.map nmOf) ahead) && decide (ts.map colT = (dedup (ts.map colT)).mergeSort leStr)) := rfl
abbrev cfK (ns : List Int) (k : Nat) : Cfg := ⟨run prog ns k, prog.glob, ns⟩
/-- a row of the third part -/
theorem bodyT_eq (d own : D) (xs ahead : List Str) (t n cs' : D) (ts : List D) (hp : D.py t = true) :
    let e : Mi.Env := [.vl d, .ow (.lst (ahead.map .str)), .vl (.tup [n, .tup (xs.map .str), cs']), .vl t, .no]
    exSs (cfK ns (k + 1)) bodyT e = M.ret (if goodT xs ahead t then (.nx, e) else (.rt (.bl false), e)) := by
  intro e
  cases h1 : isPr t with
  | false =>
    have hg : goodT xs ahead t = false := by unfold goodT; rw [h1]; rfl
    rw [hg]
    have h2 := (pr_len t).trans h1
    cases t with
    | tup ds =>
      rw [lenIs_tup] at h2
      simp only [exSs, exS, evE, evT, evP, evTOr, evTAnd, evAnd, evOr, evEs, evSrc, evO, evTs, tr, bd_ret, nex_ret, bd_assoc, bd_no, ofO_some, ofO_none, asB_ret, asB_no, List.getElem?_cons_zero, List.getElem?_cons_succ, anyTy, D.isTy, truth_non, truth_bl, truth_int, truth_lst, truth_tup, asB_bl, asI_int, walk_lst, walk_tup, walk_str, items_lst, items_tup, len_lst, len_tup, len_str, int_int, int_bl, abs_int, list_lst, list_tup, tuple_lst, tuple_tup, all_lst, any_lst, lt_int, le_int, gt_int, ge_int, add_int, sub_int, eq_int, ne_int, ix_lst, ix_tup, sl_lst, sl_tup, rev_tup, rev_lst, at0, at1, at2,  bindT, bindTs, setOwn, slOf_lst, slOf_tup, slOf_int, slOf_bl, slOf_str, slOf_non, slOf_f,  List.set_cons_zero, List.set_cons_succ, List.length_cons, List.length_nil, Env.kill, Env.noOw, isOw_vl, isOw_ow, isOw_no, evs_nil, List.all_cons, List.all_nil, Option.getD_some, Option.getD_none, Option.map_some, Option.map_none, rtM_rt, rtM_nx, Bool.not_true, Bool.not_false, Bool.true_and, Bool.and_true, Bool.false_and, Bool.and_false, Bool.false_eq_true, if_true, if_false, ite_true, ite_false, Nat.reduceAdd, Nat.reduceLT, Nat.reduceLeDiff, Nat.zero_lt_succ, Nat.zero_le, Bool.xor_false, Bool.false_xor, Bool.true_xor, List.map_cons, List.map_nil, bodyT, e, ne_int, h2]
    | _ => first | (cases hp; done) | simp only [exSs, exS, evE, evT, evP, evTOr, evTAnd, evAnd, evOr, evEs, evSrc, evO, evTs, tr, bd_ret, nex_ret, bd_assoc, bd_no, ofO_some, ofO_none, asB_ret, asB_no, List.getElem?_cons_zero, List.getElem?_cons_succ, anyTy, D.isTy, truth_non, truth_bl, truth_int, truth_lst, truth_tup, asB_bl, asI_int, walk_lst, walk_tup, walk_str, items_lst, items_tup, len_lst, len_tup, len_str, int_int, int_bl, abs_int, list_lst, list_tup, tuple_lst, tuple_tup, all_lst, any_lst, lt_int, le_int, gt_int, ge_int, add_int, sub_int, eq_int, ne_int, ix_lst, ix_tup, sl_lst, sl_tup, rev_tup, rev_lst, at0, at1, at2,  bindT, bindTs, setOwn, slOf_lst, slOf_tup, slOf_int, slOf_bl, slOf_str, slOf_non, slOf_f,  List.set_cons_zero, List.set_cons_succ, List.length_cons, List.length_nil, Env.kill, Env.noOw, isOw_vl, isOw_ow, isOw_no, evs_nil, List.all_cons, List.all_nil, Option.getD_some, Option.getD_none, Option.map_some, Option.map_none, rtM_rt, rtM_nx, Bool.not_true, Bool.not_false, Bool.true_and, Bool.and_true, Bool.false_and, Bool.and_false, Bool.false_eq_true, if_true, if_false, ite_true, ite_false, Nat.reduceAdd, Nat.reduceLT, Nat.reduceLeDiff, Nat.zero_lt_succ, Nat.zero_le, Bool.xor_false, Bool.false_xor, Bool.true_xor, List.map_cons, List.map_nil, bodyT, e]
  | true =>
    obtain ⟨a, b, rfl⟩ : ∃ a b, t = .tup [a, b] := ⟨_, _, pr_eq h1⟩
    simp only [D.py, D.pyL, Bool.and_eq_true, Bool.and_true] at hp
    obtain ⟨p1, p2⟩ := hp
    have h3 : (((2 : Nat) : Int) == 2) = true := rfl
    have hg : goodT xs ahead (.tup [a, b]) = (isNm a && isNm b && decide (nmOf a ∈ xs.drop 1) && decide (nmOf b ∈ ahead)) := rfl
    cases h4 : isNm a with
    | false =>
      rw [hg, h4]
      simp only [exSs, exS, evE, evT, evP, evTOr, evTAnd, evAnd, evOr, evEs, evSrc, evO, evTs, tr, bd_ret, nex_ret, bd_assoc, bd_no, ofO_some, ofO_none, asB_ret, asB_no, List.getElem?_cons_zero, List.getElem?_cons_succ, anyTy, D.isTy, truth_non, truth_bl, truth_int, truth_lst, truth_tup, asB_bl, asI_int, walk_lst, walk_tup, walk_str, items_lst, items_tup, len_lst, len_tup, len_str, int_int, int_bl, abs_int, list_lst, list_tup, tuple_lst, tuple_tup, all_lst, any_lst, lt_int, le_int, gt_int, ge_int, add_int, sub_int, eq_int, ne_int, ix_lst, ix_tup, sl_lst, sl_tup, rev_tup, rev_lst, at0, at1, at2,  bindT, bindTs, setOwn, slOf_lst, slOf_tup, slOf_int, slOf_bl, slOf_str, slOf_non, slOf_f,  List.set_cons_zero, List.set_cons_succ, List.length_cons, List.length_nil, Env.kill, Env.noOw, isOw_vl, isOw_ow, isOw_no, evs_nil, List.all_cons, List.all_nil, Option.getD_some, Option.getD_none, Option.map_some, Option.map_none, rtM_rt, rtM_nx, Bool.not_true, Bool.not_false, Bool.true_and, Bool.and_true, Bool.false_and, Bool.and_false, Bool.false_eq_true, if_true, if_false, ite_true, ite_false, Nat.reduceAdd, Nat.reduceLT, Nat.reduceLeDiff, Nat.zero_lt_succ, Nat.zero_le, Bool.xor_false, Bool.false_xor, Bool.true_xor, List.map_cons, List.map_nil, bodyT, e, ne_int, h3, c12 p1, h4]
    | true =>
      cases h5 : isNm b with
      | false =>
        rw [hg, h4, h5]
        simp only [exSs, exS, evE, evT, evP, evTOr, evTAnd, evAnd, evOr, evEs, evSrc, evO, evTs, tr, bd_ret, nex_ret, bd_assoc, bd_no, ofO_some, ofO_none, asB_ret, asB_no, List.getElem?_cons_zero, List.getElem?_cons_succ, anyTy, D.isTy, truth_non, truth_bl, truth_int, truth_lst, truth_tup, asB_bl, asI_int, walk_lst, walk_tup, walk_str, items_lst, items_tup, len_lst, len_tup, len_str, int_int, int_bl, abs_int, list_lst, list_tup, tuple_lst, tuple_tup, all_lst, any_lst, lt_int, le_int, gt_int, ge_int, add_int, sub_int, eq_int, ne_int, ix_lst, ix_tup, sl_lst, sl_tup, rev_tup, rev_lst, at0, at1, at2,  bindT, bindTs, setOwn, slOf_lst, slOf_tup, slOf_int, slOf_bl, slOf_str, slOf_non, slOf_f,  List.set_cons_zero, List.set_cons_succ, List.length_cons, List.length_nil, Env.kill, Env.noOw, isOw_vl, isOw_ow, isOw_no, evs_nil, List.all_cons, List.all_nil, Option.getD_some, Option.getD_none, Option.map_some, Option.map_none, rtM_rt, rtM_nx, Bool.not_true, Bool.not_false, Bool.true_and, Bool.and_true, Bool.false_and, Bool.and_false, Bool.false_eq_true, if_true, if_false, ite_true, ite_false, Nat.reduceAdd, Nat.reduceLT, Nat.reduceLeDiff, Nat.zero_lt_succ, Nat.zero_le, Bool.xor_false, Bool.false_xor, Bool.true_xor, List.map_cons, List.map_nil, bodyT, e, ne_int, h3, c12 p1, c12 p2, h4, h5]
      | true =>
        obtain ⟨x, rfl⟩ : ∃ x, a = .str x := ⟨_, nm_eq h4⟩
        obtain ⟨y, rfl⟩ : ∃ y, b = .str y := ⟨_, nm_eq h5⟩
        have q1 : nmOf (.str x) = x := rfl
        have q2 : nmOf (.str y) = y := rfl
        rw [hg, h4, h5, q1, q2]
        by_cases h6 : x ∈ xs.drop 1
        · by_cases h7 : y ∈ ahead
          · simp only [exSs, exS, evE, evT, evP, evTOr, evTAnd, evAnd, evOr, evEs, evSrc, evO, evTs, tr, bd_ret, nex_ret, bd_assoc, bd_no, ofO_some, ofO_none, asB_ret, asB_no, List.getElem?_cons_zero, List.getElem?_cons_succ, anyTy, D.isTy, truth_non, truth_bl, truth_int, truth_lst, truth_tup, asB_bl, asI_int, walk_lst, walk_tup, walk_str, items_lst, items_tup, len_lst, len_tup, len_str, int_int, int_bl, abs_int, list_lst, list_tup, tuple_lst, tuple_tup, all_lst, any_lst, lt_int, le_int, gt_int, ge_int, add_int, sub_int, eq_int, ne_int, ix_lst, ix_tup, sl_lst, sl_tup, rev_tup, rev_lst, at0, at1, at2,  bindT, bindTs, setOwn, slOf_lst, slOf_tup, slOf_int, slOf_bl, slOf_str, slOf_non, slOf_f,  List.set_cons_zero, List.set_cons_succ, List.length_cons, List.length_nil, Env.kill, Env.noOw, isOw_vl, isOw_ow, isOw_no, evs_nil, List.all_cons, List.all_nil, Option.getD_some, Option.getD_none, Option.map_some, Option.map_none, rtM_rt, rtM_nx, Bool.not_true, Bool.not_false, Bool.true_and, Bool.and_true, Bool.false_and, Bool.and_false, Bool.false_eq_true, if_true, if_false, ite_true, ite_false, Nat.reduceAdd, Nat.reduceLT, Nat.reduceLeDiff, Nat.zero_lt_succ, Nat.zero_le, Bool.xor_false, Bool.false_xor, Bool.true_xor, List.map_cons, List.map_nil, bodyT, e, ne_int, h3, c12 p1, c12 p2, h4, h5, cut1, ← List.map_drop, nin_tup, nin_lst, decide_eq_true h6, decide_eq_true h7]
          · simp only [exSs, exS, evE, evT, evP, evTOr, evTAnd, evAnd, evOr, evEs, evSrc, evO, evTs, tr, bd_ret, nex_ret, bd_assoc, bd_no, ofO_some, ofO_none, asB_ret, asB_no, List.getElem?_cons_zero, List.getElem?_cons_succ, anyTy, D.isTy, truth_non, truth_bl, truth_int, truth_lst, truth_tup, asB_bl, asI_int, walk_lst, walk_tup, walk_str, items_lst, items_tup, len_lst, len_tup, len_str, int_int, int_bl, abs_int, list_lst, list_tup, tuple_lst, tuple_tup, all_lst, any_lst, lt_int, le_int, gt_int, ge_int, add_int, sub_int, eq_int, ne_int, ix_lst, ix_tup, sl_lst, sl_tup, rev_tup, rev_lst, at0, at1, at2,  bindT, bindTs, setOwn, slOf_lst, slOf_tup, slOf_int, slOf_bl, slOf_str, slOf_non, slOf_f,  List.set_cons_zero, List.set_cons_succ, List.length_cons, List.length_nil, Env.kill, Env.noOw, isOw_vl, isOw_ow, isOw_no, evs_nil, List.all_cons, List.all_nil, Option.getD_some, Option.getD_none, Option.map_some, Option.map_none, rtM_rt, rtM_nx, Bool.not_true, Bool.not_false, Bool.true_and, Bool.and_true, Bool.false_and, Bool.and_false, Bool.false_eq_true, if_true, if_false, ite_true, ite_false, Nat.reduceAdd, Nat.reduceLT, Nat.reduceLeDiff, Nat.zero_lt_succ, Nat.zero_le, Bool.xor_false, Bool.false_xor, Bool.true_xor, List.map_cons, List.map_nil, bodyT, e, ne_int, h3, c12 p1, c12 p2, h4, h5, cut1, ← List.map_drop, nin_tup, nin_lst, decide_eq_true h6, decide_eq_false h7]
        · simp only [exSs, exS, evE, evT, evP, evTOr, evTAnd, evAnd, evOr, evEs, evSrc, evO, evTs, tr, bd_ret, nex_ret, bd_assoc, bd_no, ofO_some, ofO_none, asB_ret, asB_no, List.getElem?_cons_zero, List.getElem?_cons_succ, anyTy, D.isTy, truth_non, truth_bl, truth_int, truth_lst, truth_tup, asB_bl, asI_int, walk_lst, walk_tup, walk_str, items_lst, items_tup, len_lst, len_tup, len_str, int_int, int_bl, abs_int, list_lst, list_tup, tuple_lst, tuple_tup, all_lst, any_lst, lt_int, le_int, gt_int, ge_int, add_int, sub_int, eq_int, ne_int, ix_lst, ix_tup, sl_lst, sl_tup, rev_tup, rev_lst, at0, at1, at2,  bindT, bindTs, setOwn, slOf_lst, slOf_tup, slOf_int, slOf_bl, slOf_str, slOf_non, slOf_f,  List.set_cons_zero, List.set_cons_succ, List.length_cons, List.length_nil, Env.kill, Env.noOw, isOw_vl, isOw_ow, isOw_no, evs_nil, List.all_cons, List.all_nil, Option.getD_some, Option.getD_none, Option.map_some, Option.map_none, rtM_rt, rtM_nx, Bool.not_true, Bool.not_false, Bool.true_and, Bool.and_true, Bool.false_and, Bool.and_false, Bool.false_eq_true, if_true, if_false, ite_true, ite_false, Nat.reduceAdd, Nat.reduceLT, Nat.reduceLeDiff, Nat.zero_lt_succ, Nat.zero_le, Bool.xor_false, Bool.false_xor, Bool.true_xor, List.map_cons, List.map_nil, bodyT, e, ne_int, h3, c12 p1, c12 p2, h4, h5, cut1, ← List.map_drop, nin_tup, nin_lst, decide_eq_false h6]
/-- the rows of the third part, one after the other -/
theorem loopT {F : Mi.Flow × Mi.Env → M D} {R : M D} (hr : ∀ v s, F (.rt v, s) = M.ret v) (d : D) (xs ahead : List Str) (n cs' : D) :
    ∀ (ts : List D) (s3 : Sl), s3.isOw = false → D.pyL ts = true → (ts.all (goodT xs ahead) = true → ∀ s3 : Sl, s3.isOw = false → F (.nx, [.vl d, .ow (.lst (ahead.map .str)), .vl (.tup [n, .tup (xs.map .str), cs']), s3, .no]) = R) →
    (forGo (.slot 3) [] (exSs (cfK ns (k + 1)) bodyT) ts [.vl d, .ow (.lst (ahead.map .str)), .vl (.tup [n, .tup (xs.map .str), cs']), s3, .no]).bd F = if ts.all (goodT xs ahead) then R else M.ret (.bl false)
  | [], s3, h, _, hn => by rw [forGo_nil, bd_ret, hn rfl s3 h]; rfl
  | t :: ts, s3, h, hp, hn => by
    simp only [D.pyL, Bool.and_eq_true] at hp
    rw [forGo_cons, show M.ofO (bindT (.slot 3) t [.vl d, .ow (.lst (ahead.map .str)), .vl (.tup [n, .tup (xs.map .str), cs']), s3, .no]) = M.ret [.vl d, .ow (.lst (ahead.map .str)), .vl (.tup [n, .tup (xs.map .str), cs']), .vl t, .no] from rfl, bd_ret,
      bodyT_eq d d xs ahead t n cs' [] hp.1]
    rw [List.all_cons] at hn ⊢
    cases e : goodT xs ahead t with
    | false =>
      show (M.ret (.rt (.bl false), _)).bd F = _
      rw [bd_ret, hr]
      rfl
    | true =>
      rw [e, Bool.true_and] at hn
      show (forGo (.slot 3) [] (exSs (cfK ns (k + 1)) bodyT) ts [.vl d, .ow (.lst (ahead.map .str)), .vl (.tup [n, .tup (xs.map .str), cs']), .vl t, .no]).bd F = _
      rw [loopT hr d xs ahead n cs' ts (.vl t) rfl hp.2 hn]
      rfl
theorem all_nm {cs : List D} {ds : List D} (h : ds = cs.filterMap fun d => if !isNm d then some d else none) : ds.isEmpty = cs.all isNm := by
  subst h
  rw [Bool.eq_iff_iff, List.isEmpty_iff, List.filterMap_eq_nil_iff, List.all_eq_true]
  constructor
  · intro h d hd
    have := h d hd
    cases e : isNm d with
    | true => rfl
    | false => rw [e] at this; cases this
  · intro h d hd
    rw [h d hd]; rfl
theorem good_pr {xs ahead : List Str} {ts : List D} (h : ts.all (goodT xs ahead) = true) : ∀ d ∈ ts, d = .tup [.str (colT d), .str (othT d)] := fun d hd => by
  have q := List.all_eq_true.mp h d hd
  unfold goodT at q
  simp only [Bool.and_eq_true] at q
  have h1 := pr_eq q.1.1.1.1
  rw [nm_eq q.1.1.1.2, nm_eq q.1.1.2] at h1
  exact h1
/-- what follows the loop -/
theorem restI_eq (d : D) (xs ahead : List Str) (x : Str) (ts : List D) (s3 : Sl) (h3 : s3.isOw = false) (hg : ∀ d ∈ ts, d = .tup [.str (colT d), .str (othT d)]) (hl : ts.length < 3000) (ha : ahead.length < 1000) :
    exSs (cfK ns (k + 1)) restI [.vl d, .ow (.lst (ahead.map .str)), .vl (.tup [.str x, .tup (xs.map .str), .tup ts]), s3, .no] =
      M.ret (if ts.map colT = (dedup (ts.map colT)).mergeSort leStr then (.nx, [.vl d, .ow (.lst ((ahead ++ [x]).map .str)), .vl (.tup [.str x, .tup (xs.map .str), .tup ts]), s3, .vl (.lst ((ts.map colT).map .str))])
        else (.rt (.bl false), [.vl d, .ow (.lst (ahead.map .str)), .vl (.tup [.str x, .tup (xs.map .str), .tup ts]), s3, .vl (.lst ((ts.map colT).map .str))])) := by
  simp only [exSs, exS, evE, evT, evP, evTOr, evTAnd, evAnd, evOr, evEs, evSrc, evO, evTs, tr, bd_ret, nex_ret, bd_assoc, bd_no, ofO_some, ofO_none, asB_ret, asB_no, List.getElem?_cons_zero, List.getElem?_cons_succ, anyTy, D.isTy, truth_non, truth_bl, truth_int, truth_lst, truth_tup, asB_bl, asI_int, walk_lst, walk_tup, walk_str, items_lst, items_tup, len_lst, len_tup, len_str, int_int, int_bl, abs_int, list_lst, list_tup, tuple_lst, tuple_tup, all_lst, any_lst, lt_int, le_int, gt_int, ge_int, add_int, sub_int, eq_int, ne_int, ix_lst, ix_tup, sl_lst, sl_tup, rev_tup, rev_lst, at0, at1, at2,  bindT, bindTs, setOwn, slOf_lst, slOf_tup, slOf_int, slOf_bl, slOf_str, slOf_non, slOf_f,  List.set_cons_zero, List.set_cons_succ, List.length_cons, List.length_nil, Env.kill, Env.noOw, isOw_vl, isOw_ow, isOw_no, evs_nil, List.all_cons, List.all_nil, Option.getD_some, Option.getD_none, Option.map_some, Option.map_none, rtM_rt, rtM_nx, Bool.not_true, Bool.not_false, Bool.true_and, Bool.and_true, Bool.false_and, Bool.and_false, Bool.false_eq_true, if_true, if_false, ite_true, ite_false, Nat.reduceAdd, Nat.reduceLT, Nat.reduceLeDiff, Nat.zero_lt_succ, Nat.zero_le, Bool.xor_false, Bool.false_xor, Bool.true_xor, List.map_cons, List.map_nil, restI, h3]
  rw [comp_mapD (g := fun d => D.str (colT d)) (fun d hd => by
    obtain ⟨x, y, rfl⟩ : ∃ x y, d = .tup [.str x, .str y] := ⟨_, _, hg d hd⟩
    simp only [exSs, exS, evE, evT, evP, evTOr, evTAnd, evAnd, evOr, evEs, evSrc, evO, evTs, tr, bd_ret, nex_ret, bd_assoc, bd_no, ofO_some, ofO_none, asB_ret, asB_no, List.getElem?_cons_zero, List.getElem?_cons_succ, anyTy, D.isTy, truth_non, truth_bl, truth_int, truth_lst, truth_tup, asB_bl, asI_int, walk_lst, walk_tup, walk_str, items_lst, items_tup, len_lst, len_tup, len_str, int_int, int_bl, abs_int, list_lst, list_tup, tuple_lst, tuple_tup, all_lst, any_lst, lt_int, le_int, gt_int, ge_int, add_int, sub_int, eq_int, ne_int, ix_lst, ix_tup, sl_lst, sl_tup, rev_tup, rev_lst, at0, at1, at2,  bindT, bindTs, setOwn, slOf_lst, slOf_tup, slOf_int, slOf_bl, slOf_str, slOf_non, slOf_f,  List.set_cons_zero, List.set_cons_succ, List.length_cons, List.length_nil, Env.kill, Env.noOw, isOw_vl, isOw_ow, isOw_no, evs_nil, List.all_cons, List.all_nil, Option.getD_some, Option.getD_none, Option.map_some, Option.map_none, rtM_rt, rtM_nx, Bool.not_true, Bool.not_false, Bool.true_and, Bool.and_true, Bool.false_and, Bool.and_false, Bool.false_eq_true, if_true, if_false, ite_true, ite_false, Nat.reduceAdd, Nat.reduceLT, Nat.reduceLeDiff, Nat.zero_lt_succ, Nat.zero_le, Bool.xor_false, Bool.false_xor, Bool.true_xor, List.map_cons, List.map_nil]
    rfl) (by unfold lineMax; omega)]
  have ec : ts.map (fun d => D.str (colT d)) = (ts.map colT).map .str := by rw [List.map_map]; rfl
  rw [ec]
  simp only [exSs, exS, evE, evT, evP, evTOr, evTAnd, evAnd, evOr, evEs, evSrc, evO, evTs, tr, bd_ret, nex_ret, bd_assoc, bd_no, ofO_some, ofO_none, asB_ret, asB_no, List.getElem?_cons_zero, List.getElem?_cons_succ, anyTy, D.isTy, truth_non, truth_bl, truth_int, truth_lst, truth_tup, asB_bl, asI_int, walk_lst, walk_tup, walk_str, items_lst, items_tup, len_lst, len_tup, len_str, int_int, int_bl, abs_int, list_lst, list_tup, tuple_lst, tuple_tup, all_lst, any_lst, lt_int, le_int, gt_int, ge_int, add_int, sub_int, eq_int, ne_int, ix_lst, ix_tup, sl_lst, sl_tup, rev_tup, rev_lst, at0, at1, at2,  bindT, bindTs, setOwn, slOf_lst, slOf_tup, slOf_int, slOf_bl, slOf_str, slOf_non, slOf_f,  List.set_cons_zero, List.set_cons_succ, List.length_cons, List.length_nil, Env.kill, Env.noOw, isOw_vl, isOw_ow, isOw_no, evs_nil, List.all_cons, List.all_nil, Option.getD_some, Option.getD_none, Option.map_some, Option.map_none, rtM_rt, rtM_nx, Bool.not_true, Bool.not_false, Bool.true_and, Bool.and_true, Bool.false_and, Bool.and_false, Bool.false_eq_true, if_true, if_false, ite_true, ite_false, Nat.reduceAdd, Nat.reduceLT, Nat.reduceLeDiff, Nat.zero_lt_succ, Nat.zero_le, Bool.xor_false, Bool.false_xor, Bool.true_xor, List.map_cons, List.map_nil, sortSet_strs (show (ts.map colT).length < 4000 by rw [List.length_map]; omega), ne_strs]
  by_cases e : ts.map colT = (dedup (ts.map colT)).mergeSort leStr
  · rw [decide_eq_true e, if_pos e]
    simp only [exSs, exS, evE, evT, evP, evTOr, evTAnd, evAnd, evOr, evEs, evSrc, evO, evTs, tr, bd_ret, nex_ret, bd_assoc, bd_no, ofO_some, ofO_none, asB_ret, asB_no, List.getElem?_cons_zero, List.getElem?_cons_succ, anyTy, D.isTy, truth_non, truth_bl, truth_int, truth_lst, truth_tup, asB_bl, asI_int, walk_lst, walk_tup, walk_str, items_lst, items_tup, len_lst, len_tup, len_str, int_int, int_bl, abs_int, list_lst, list_tup, tuple_lst, tuple_tup, all_lst, any_lst, lt_int, le_int, gt_int, ge_int, add_int, sub_int, eq_int, ne_int, ix_lst, ix_tup, sl_lst, sl_tup, rev_tup, rev_lst, at0, at1, at2,  bindT, bindTs, setOwn, slOf_lst, slOf_tup, slOf_int, slOf_bl, slOf_str, slOf_non, slOf_f,  List.set_cons_zero, List.set_cons_succ, List.length_cons, List.length_nil, Env.kill, Env.noOw, isOw_vl, isOw_ow, isOw_no, evs_nil, List.all_cons, List.all_nil, Option.getD_some, Option.getD_none, Option.map_some, Option.map_none, rtM_rt, rtM_nx, Bool.not_true, Bool.not_false, Bool.true_and, Bool.and_true, Bool.false_and, Bool.and_false, Bool.false_eq_true, if_true, if_false, ite_true, ite_false, Nat.reduceAdd, Nat.reduceLT, Nat.reduceLeDiff, Nat.zero_lt_succ, Nat.zero_le, Bool.xor_false, Bool.false_xor, Bool.true_xor, List.map_cons, List.map_nil]
    rw [if_pos (by rw [List.length_map]; unfold lineMax; omega)]
    simp [bd_ret]
  · rw [decide_eq_false e, if_neg e]
    simp only [exSs, exS, evE, evT, evP, evTOr, evTAnd, evAnd, evOr, evEs, evSrc, evO, evTs, tr, bd_ret, nex_ret, bd_assoc, bd_no, ofO_some, ofO_none, asB_ret, asB_no, List.getElem?_cons_zero, List.getElem?_cons_succ, anyTy, D.isTy, truth_non, truth_bl, truth_int, truth_lst, truth_tup, asB_bl, asI_int, walk_lst, walk_tup, walk_str, items_lst, items_tup, len_lst, len_tup, len_str, int_int, int_bl, abs_int, list_lst, list_tup, tuple_lst, tuple_tup, all_lst, any_lst, lt_int, le_int, gt_int, ge_int, add_int, sub_int, eq_int, ne_int, ix_lst, ix_tup, sl_lst, sl_tup, rev_tup, rev_lst, at0, at1, at2,  bindT, bindTs, setOwn, slOf_lst, slOf_tup, slOf_int, slOf_bl, slOf_str, slOf_non, slOf_f,  List.set_cons_zero, List.set_cons_succ, List.length_cons, List.length_nil, Env.kill, Env.noOw, isOw_vl, isOw_ow, isOw_no, evs_nil, List.all_cons, List.all_nil, Option.getD_some, Option.getD_none, Option.map_some, Option.map_none, rtM_rt, rtM_nx, Bool.not_true, Bool.not_false, Bool.true_and, Bool.and_true, Bool.false_and, Bool.and_false, Bool.false_eq_true, if_true, if_false, ite_true, ite_false, Nat.reduceAdd, Nat.reduceLT, Nat.reduceLeDiff, Nat.zero_lt_succ, Nat.zero_le, Bool.xor_false, Bool.false_xor, Bool.true_xor, List.map_cons, List.map_nil]
end
end LK
namespace LK
open PySem Mi
section
variable {ns : List Int} {k : Nat}
theorem k2_shape {ahead : List Str} {q : D} (h : isKind2 ahead q = true) : ∃ n cs ts, q = .tup [n, .tup cs, .tup ts] := by
  unfold isKind2 at h
  split at h
  · exact ⟨_, _, _, rfl⟩
  · cases h
theorem k2_no {ahead : List Str} {q : D} (h : ∀ n cs ts, q ≠ .tup [n, .tup cs, .tup ts]) : isKind2 ahead q = false := by
  cases e : isKind2 ahead q with
  | false => rfl
  | true =>
    obtain ⟨n, cs, ts, rfl⟩ := k2_shape e
    exact absurd rfl (h n cs ts)
theorem tt_eq {α : Type} {a b : α} : (if (true : Bool) = true then a else b) = a := rfl
theorem ff_eq {α : Type} {a b : α} : (if (false : Bool) = true then a else b) = b := rfl
/-- a kind, looked at -/
theorem bodyI_eq {G : Mi.Flow × Mi.Env → M D} {R : M D} (hr : ∀ v s, G (.rt v, s) = M.ret v) (d : D) (ahead : List Str) (q : D) (hn : ∀ s3 l : Sl, s3.isOw = false → l.isOw = false → G (.nx, [.vl d, .ow (.lst ((ahead ++ [kn q]).map .str)), .vl q, s3, l]) = R)
    (s3 : Sl) (h3 : s3.isOw = false) (hp : D.py q = true) (hs : sm q = true) (ha : ahead.length < 1000) :
    (exSs (cfK ns (k + 1)) bodyI [.vl d, .ow (.lst (ahead.map .str)), .vl q, s3, .no]).bd G = if isKind2 ahead q then R else M.ret (.bl false) := by
  have no : isKind2 ahead q = false → M.ret (D.bl false) = if isKind2 ahead q then R else M.ret (.bl false) := fun h => by rw [h]; rfl
  cases q with
  | tup ds =>
    cases e3 : lenIs 3 (.tup ds) with
    | false =>
      rw [lenIs_tup] at e3
      simp only [exSs, exS, evE, evT, evP, evTOr, evTAnd, evAnd, evOr, evEs, evSrc, evO, evTs, tr, bd_ret, nex_ret, bd_assoc, bd_no, ofO_some, ofO_none, asB_ret, asB_no, List.getElem?_cons_zero, List.getElem?_cons_succ, anyTy, D.isTy, truth_non, truth_bl, truth_int, truth_lst, truth_tup, asB_bl, asI_int, walk_lst, walk_tup, walk_str, items_lst, items_tup, len_lst, len_tup, len_str, int_int, int_bl, abs_int, list_lst, list_tup, tuple_lst, tuple_tup, all_lst, any_lst, lt_int, le_int, gt_int, ge_int, add_int, sub_int, eq_int, ne_int, ix_lst, ix_tup, sl_lst, sl_tup, rev_tup, rev_lst, at0, at1, at2,  bindT, bindTs, setOwn, slOf_lst, slOf_tup, slOf_int, slOf_bl, slOf_str, slOf_non, slOf_f,  List.set_cons_zero, List.set_cons_succ, List.length_cons, List.length_nil, Env.kill, Env.noOw, isOw_vl, isOw_ow, isOw_no, evs_nil, List.all_cons, List.all_nil, Option.getD_some, Option.getD_none, Option.map_some, Option.map_none, rtM_rt, rtM_nx, Bool.not_true, Bool.not_false, Bool.true_and, Bool.and_true, Bool.false_and, Bool.and_false, Bool.false_eq_true, if_true, if_false, ite_true, ite_false, Nat.reduceAdd, Nat.reduceLT, Nat.reduceLeDiff, Nat.zero_lt_succ, Nat.zero_le, Bool.xor_false, Bool.false_xor, Bool.true_xor, List.map_cons, List.map_nil, bodyI, ne_int, e3, hr]
      refine no (k2_no fun n cs ts h => ?_)
      cases h
      cases e3
    | true =>
      obtain ⟨n, cs, ts, rfl⟩ : ∃ n cs ts, ds = [n, cs, ts] := by
        match ds, e3 with
        | [n, cs, ts], _ => exact ⟨_, _, _, rfl⟩
        | [], h => cases h
        | [_], h => cases h
        | [_, _], h => cases h
        | _ :: _ :: _ :: _ :: r, h =>
          exfalso
          rw [lenIs_tup, beq_iff_eq] at h
          simp only [List.length_cons] at h
          omega
      simp only [D.py, D.pyL, Bool.and_eq_true, Bool.and_true] at hp
      obtain ⟨p1, p2, p3⟩ := hp
      simp only [sm, smL, Bool.and_eq_true, Bool.and_true] at hs
      obtain ⟨s0, s1, s2, s4⟩ := hs
      have e33 : (((3 : Nat) : Int) == 3) = true := rfl
      cases e4 : isNm n with
      | false =>
        simp only [exSs, exS, evE, evT, evP, evTOr, evTAnd, evAnd, evOr, evEs, evSrc, evO, evTs, tr, bd_ret, nex_ret, bd_assoc, bd_no, ofO_some, ofO_none, asB_ret, asB_no, List.getElem?_cons_zero, List.getElem?_cons_succ, anyTy, D.isTy, truth_non, truth_bl, truth_int, truth_lst, truth_tup, asB_bl, asI_int, walk_lst, walk_tup, walk_str, items_lst, items_tup, len_lst, len_tup, len_str, int_int, int_bl, abs_int, list_lst, list_tup, tuple_lst, tuple_tup, all_lst, any_lst, lt_int, le_int, gt_int, ge_int, add_int, sub_int, eq_int, ne_int, ix_lst, ix_tup, sl_lst, sl_tup, rev_tup, rev_lst, at0, at1, at2,  bindT, bindTs, setOwn, slOf_lst, slOf_tup, slOf_int, slOf_bl, slOf_str, slOf_non, slOf_f,  List.set_cons_zero, List.set_cons_succ, List.length_cons, List.length_nil, Env.kill, Env.noOw, isOw_vl, isOw_ow, isOw_no, evs_nil, List.all_cons, List.all_nil, Option.getD_some, Option.getD_none, Option.map_some, Option.map_none, rtM_rt, rtM_nx, Bool.not_true, Bool.not_false, Bool.true_and, Bool.and_true, Bool.false_and, Bool.and_false, Bool.false_eq_true, if_true, if_false, ite_true, ite_false, Nat.reduceAdd, Nat.reduceLT, Nat.reduceLeDiff, Nat.zero_lt_succ, Nat.zero_le, Bool.xor_false, Bool.false_xor, Bool.true_xor, List.map_cons, List.map_nil, bodyI, ne_int, e33, c12 p1, e4, hr]
        refine no ?_
        cases cs <;> first | (refine k2_no ?_; intro n cs ts h; cases h; done) | skip
        cases ts <;> first | (refine k2_no ?_; intro n cs ts h; cases h; done) | skip
        rw [isKind2_tup, e4]; rfl
      | true =>
        obtain ⟨x, rfl⟩ : ∃ x, n = .str x := ⟨_, nm_eq e4⟩
        have qx : nmOf (.str x) = x := rfl
        by_cases e5 : x ∈ ahead
        · simp only [exSs, exS, evE, evT, evP, evTOr, evTAnd, evAnd, evOr, evEs, evSrc, evO, evTs, tr, bd_ret, nex_ret, bd_assoc, bd_no, ofO_some, ofO_none, asB_ret, asB_no, List.getElem?_cons_zero, List.getElem?_cons_succ, anyTy, D.isTy, truth_non, truth_bl, truth_int, truth_lst, truth_tup, asB_bl, asI_int, walk_lst, walk_tup, walk_str, items_lst, items_tup, len_lst, len_tup, len_str, int_int, int_bl, abs_int, list_lst, list_tup, tuple_lst, tuple_tup, all_lst, any_lst, lt_int, le_int, gt_int, ge_int, add_int, sub_int, eq_int, ne_int, ix_lst, ix_tup, sl_lst, sl_tup, rev_tup, rev_lst, at0, at1, at2,  bindT, bindTs, setOwn, slOf_lst, slOf_tup, slOf_int, slOf_bl, slOf_str, slOf_non, slOf_f,  List.set_cons_zero, List.set_cons_succ, List.length_cons, List.length_nil, Env.kill, Env.noOw, isOw_vl, isOw_ow, isOw_no, evs_nil, List.all_cons, List.all_nil, Option.getD_some, Option.getD_none, Option.map_some, Option.map_none, rtM_rt, rtM_nx, Bool.not_true, Bool.not_false, Bool.true_and, Bool.and_true, Bool.false_and, Bool.and_false, Bool.false_eq_true, if_true, if_false, ite_true, ite_false, Nat.reduceAdd, Nat.reduceLT, Nat.reduceLeDiff, Nat.zero_lt_succ, Nat.zero_le, Bool.xor_false, Bool.false_xor, Bool.true_xor, List.map_cons, List.map_nil, bodyI, ne_int, e33, c12 p1, e4, in_lst, decide_eq_true e5, hr]
          refine no ?_
          cases cs <;> first | (refine k2_no ?_; intro n cs ts h; cases h; done) | skip
          cases ts <;> first | (refine k2_no ?_; intro n cs ts h; cases h; done) | skip
          rw [isKind2_tup, e4, qx, decide_eq_true e5]; rfl
        · cases cs with
          | tup cs =>
            by_cases e6 : (0 : Int) < cs.length
            · by_cases e7 : (cs.length : Int) < 5
              · cases ts with
                | tup ts =>
                  have hl : ts.length < 3000 := by
                    simp only [sm, Bool.and_eq_true, decide_eq_true_eq] at s4
                    exact s4.1
                  simp only [exSs, exS, evE, evT, evP, evTOr, evTAnd, evAnd, evOr, evEs, evSrc, evO, evTs, tr, bd_ret, nex_ret, bd_assoc, bd_no, ofO_some, ofO_none, asB_ret, asB_no, List.getElem?_cons_zero, List.getElem?_cons_succ, anyTy, D.isTy, truth_non, truth_bl, truth_int, truth_lst, truth_tup, asB_bl, asI_int, walk_lst, walk_tup, walk_str, items_lst, items_tup, len_lst, len_tup, len_str, int_int, int_bl, abs_int, list_lst, list_tup, tuple_lst, tuple_tup, all_lst, any_lst, lt_int, le_int, gt_int, ge_int, add_int, sub_int, eq_int, ne_int, ix_lst, ix_tup, sl_lst, sl_tup, rev_tup, rev_lst, at0, at1, at2,  bindT, bindTs, setOwn, slOf_lst, slOf_tup, slOf_int, slOf_bl, slOf_str, slOf_non, slOf_f,  List.set_cons_zero, List.set_cons_succ, List.length_cons, List.length_nil, Env.kill, Env.noOw, isOw_vl, isOw_ow, isOw_no, evs_nil, List.all_cons, List.all_nil, Option.getD_some, Option.getD_none, Option.map_some, Option.map_none, rtM_rt, rtM_nx, Bool.not_true, Bool.not_false, Bool.true_and, Bool.and_true, Bool.false_and, Bool.and_false, Bool.false_eq_true, if_true, if_false, ite_true, ite_false, Nat.reduceAdd, Nat.reduceLT, Nat.reduceLeDiff, Nat.zero_lt_succ, Nat.zero_le, Bool.xor_false, Bool.false_xor, Bool.true_xor, List.map_cons, List.map_nil, bodyI, ne_int, e33, c12 p1, e4, in_lst, decide_eq_false e5, decide_eq_true e6, decide_eq_true e7, h3]
                  rw [comp_flt (g := fun d => if !isNm d then some d else none) (fun d hd => by
                    cases e : isNm d <;> simp only [exSs, exS, evE, evT, evP, evTOr, evTAnd, evAnd, evOr, evEs, evSrc, evO, evTs, tr, bd_ret, nex_ret, bd_assoc, bd_no, ofO_some, ofO_none, asB_ret, asB_no, List.getElem?_cons_zero, List.getElem?_cons_succ, anyTy, D.isTy, truth_non, truth_bl, truth_int, truth_lst, truth_tup, asB_bl, asI_int, walk_lst, walk_tup, walk_str, items_lst, items_tup, len_lst, len_tup, len_str, int_int, int_bl, abs_int, list_lst, list_tup, tuple_lst, tuple_tup, all_lst, any_lst, lt_int, le_int, gt_int, ge_int, add_int, sub_int, eq_int, ne_int, ix_lst, ix_tup, sl_lst, sl_tup, rev_tup, rev_lst, at0, at1, at2,  bindT, bindTs, setOwn, slOf_lst, slOf_tup, slOf_int, slOf_bl, slOf_str, slOf_non, slOf_f,  List.set_cons_zero, List.set_cons_succ, List.length_cons, List.length_nil, Env.kill, Env.noOw, isOw_vl, isOw_ow, isOw_no, evs_nil, List.all_cons, List.all_nil, Option.getD_some, Option.getD_none, Option.map_some, Option.map_none, rtM_rt, rtM_nx, Bool.not_true, Bool.not_false, Bool.true_and, Bool.and_true, Bool.false_and, Bool.and_false, Bool.false_eq_true, if_true, if_false, ite_true, ite_false, Nat.reduceAdd, Nat.reduceLT, Nat.reduceLeDiff, Nat.zero_lt_succ, Nat.zero_le, Bool.xor_false, Bool.false_xor, Bool.true_xor, List.map_cons, List.map_nil, c12 (py_mem p2 hd), e]) (by unfold lineMax; omega)]
                  rw [ne_nil (pyL_of fun d hd => by
                    obtain ⟨q, hq, e⟩ := List.mem_filterMap.mp hd
                    split at e
                    · cases e; exact py_mem p2 hq
                    · cases e), all_nm rfl]
                  cases e8 : cs.all isNm with
                  | false =>
                    simp only [exSs, exS, evE, evT, evP, evTOr, evTAnd, evAnd, evOr, evEs, evSrc, evO, evTs, tr, bd_ret, nex_ret, bd_assoc, bd_no, ofO_some, ofO_none, asB_ret, asB_no, List.getElem?_cons_zero, List.getElem?_cons_succ, anyTy, D.isTy, truth_non, truth_bl, truth_int, truth_lst, truth_tup, asB_bl, asI_int, walk_lst, walk_tup, walk_str, items_lst, items_tup, len_lst, len_tup, len_str, int_int, int_bl, abs_int, list_lst, list_tup, tuple_lst, tuple_tup, all_lst, any_lst, lt_int, le_int, gt_int, ge_int, add_int, sub_int, eq_int, ne_int, ix_lst, ix_tup, sl_lst, sl_tup, rev_tup, rev_lst, at0, at1, at2,  bindT, bindTs, setOwn, slOf_lst, slOf_tup, slOf_int, slOf_bl, slOf_str, slOf_non, slOf_f,  List.set_cons_zero, List.set_cons_succ, List.length_cons, List.length_nil, Env.kill, Env.noOw, isOw_vl, isOw_ow, isOw_no, evs_nil, List.all_cons, List.all_nil, Option.getD_some, Option.getD_none, Option.map_some, Option.map_none, rtM_rt, rtM_nx, Bool.not_true, Bool.not_false, Bool.true_and, Bool.and_true, Bool.false_and, Bool.and_false, Bool.false_eq_true, if_true, if_false, ite_true, ite_false, Nat.reduceAdd, Nat.reduceLT, Nat.reduceLeDiff, Nat.zero_lt_succ, Nat.zero_le, Bool.xor_false, Bool.false_xor, Bool.true_xor, List.map_cons, List.map_nil, hr]
                    refine no ?_
                    rw [isKind2_tup, e8]; simp
                  | true =>
                    have e9 := strs_of e8
                    generalize hx : cs.map nmOf = xs at e9
                    subst e9
                    rw [List.length_map] at e6 e7
                    simp only [exSs, exS, evE, evT, evP, evTOr, evTAnd, evAnd, evOr, evEs, evSrc, evO, evTs, tr, bd_ret, nex_ret, bd_assoc, bd_no, ofO_some, ofO_none, asB_ret, asB_no, List.getElem?_cons_zero, List.getElem?_cons_succ, anyTy, D.isTy, truth_non, truth_bl, truth_int, truth_lst, truth_tup, asB_bl, asI_int, walk_lst, walk_tup, walk_str, items_lst, items_tup, len_lst, len_tup, len_str, int_int, int_bl, abs_int, list_lst, list_tup, tuple_lst, tuple_tup, all_lst, any_lst, lt_int, le_int, gt_int, ge_int, add_int, sub_int, eq_int, ne_int, ix_lst, ix_tup, sl_lst, sl_tup, rev_tup, rev_lst, at0, at1, at2,  bindT, bindTs, setOwn, slOf_lst, slOf_tup, slOf_int, slOf_bl, slOf_str, slOf_non, slOf_f,  List.set_cons_zero, List.set_cons_succ, List.length_cons, List.length_nil, Env.kill, Env.noOw, isOw_vl, isOw_ow, isOw_no, evs_nil, List.all_cons, List.all_nil, Option.getD_some, Option.getD_none, Option.map_some, Option.map_none, rtM_rt, rtM_nx, Bool.not_true, Bool.not_false, Bool.true_and, Bool.and_true, Bool.false_and, Bool.and_false, Bool.false_eq_true, if_true, if_false, ite_true, ite_false, Nat.reduceAdd, Nat.reduceLT, Nat.reduceLeDiff, Nat.zero_lt_succ, Nat.zero_le, Bool.xor_false, Bool.false_xor, Bool.true_xor, List.map_cons, List.map_nil, lenSet_tup (show xs.length < 4000 by omega), ne_int, List.length_map]
                    by_cases e10 : (dedup xs).length = xs.length
                    · have e11 : ((((dedup xs).length : Nat) : Int) == ((xs.length : Nat) : Int)) = true := by rw [e10]; exact beq_self_eq_true _
                      simp only [exSs, exS, evE, evT, evP, evTOr, evTAnd, evAnd, evOr, evEs, evSrc, evO, evTs, tr, bd_ret, nex_ret, bd_assoc, bd_no, ofO_some, ofO_none, asB_ret, asB_no, List.getElem?_cons_zero, List.getElem?_cons_succ, anyTy, D.isTy, truth_non, truth_bl, truth_int, truth_lst, truth_tup, asB_bl, asI_int, walk_lst, walk_tup, walk_str, items_lst, items_tup, len_lst, len_tup, len_str, int_int, int_bl, abs_int, list_lst, list_tup, tuple_lst, tuple_tup, all_lst, any_lst, lt_int, le_int, gt_int, ge_int, add_int, sub_int, eq_int, ne_int, ix_lst, ix_tup, sl_lst, sl_tup, rev_tup, rev_lst, at0, at1, at2,  bindT, bindTs, setOwn, slOf_lst, slOf_tup, slOf_int, slOf_bl, slOf_str, slOf_non, slOf_f,  List.set_cons_zero, List.set_cons_succ, List.length_cons, List.length_nil, Env.kill, Env.noOw, isOw_vl, isOw_ow, isOw_no, evs_nil, List.all_cons, List.all_nil, Option.getD_some, Option.getD_none, Option.map_some, Option.map_none, rtM_rt, rtM_nx, Bool.not_true, Bool.not_false, Bool.true_and, Bool.and_true, Bool.false_and, Bool.and_false, Bool.false_eq_true, if_true, if_false, ite_true, ite_false, Nat.reduceAdd, Nat.reduceLT, Nat.reduceLeDiff, Nat.zero_lt_succ, Nat.zero_le, Bool.xor_false, Bool.false_xor, Bool.true_xor, List.map_cons, List.map_nil, e11]
                      refine (loopT (R := if ts.map colT = (dedup (ts.map colT)).mergeSort leStr then R else M.ret (.bl false)) ?_ d xs ahead (.str x) (.tup ts) ts s3 h3 p3 ?_).trans ?_
                      · intro v s
                        exact hr v s
                      · intro hg s5 h5
                        have hrest := restI_eq (ns := ns) (k := k) d xs ahead x ts s5 h5 (good_pr hg) hl ha
                        show (exSs (cfK ns (k + 1)) restI [.vl d, .ow (.lst (ahead.map .str)), .vl (.tup [.str x, .tup (xs.map .str), .tup ts]), s5, .no]).bd G = _
                        rw [hrest]
                        by_cases e12 : ts.map colT = (dedup (ts.map colT)).mergeSort leStr
                        · rw [if_pos e12, if_pos e12]
                          exact hn _ _ h5 rfl
                        · rw [if_neg e12, if_neg e12]
                          exact hr _ _
                      · rw [isKind2_tup, e4, qx, decide_eq_false e5, hx, e8, List.length_map, decide_eq_true e10, decide_eq_true (show 1 ≤ xs.length by omega), decide_eq_true (show xs.length ≤ 4 by omega)]
                        cases ts.all (goodT xs ahead) with
                        | false => rfl
                        | true =>
                          by_cases e12 : ts.map colT = (dedup (ts.map colT)).mergeSort leStr
                          · rw [if_pos e12, decide_eq_true e12]; rfl
                          · rw [if_neg e12, decide_eq_false e12]; rfl
                    · have e11 : ((((dedup xs).length : Nat) : Int) == ((xs.length : Nat) : Int)) = false := beq_eq_false_iff_ne.mpr (by omega)
                      simp only [exSs, exS, evE, evT, evP, evTOr, evTAnd, evAnd, evOr, evEs, evSrc, evO, evTs, tr, bd_ret, nex_ret, bd_assoc, bd_no, ofO_some, ofO_none, asB_ret, asB_no, List.getElem?_cons_zero, List.getElem?_cons_succ, anyTy, D.isTy, truth_non, truth_bl, truth_int, truth_lst, truth_tup, asB_bl, asI_int, walk_lst, walk_tup, walk_str, items_lst, items_tup, len_lst, len_tup, len_str, int_int, int_bl, abs_int, list_lst, list_tup, tuple_lst, tuple_tup, all_lst, any_lst, lt_int, le_int, gt_int, ge_int, add_int, sub_int, eq_int, ne_int, ix_lst, ix_tup, sl_lst, sl_tup, rev_tup, rev_lst, at0, at1, at2,  bindT, bindTs, setOwn, slOf_lst, slOf_tup, slOf_int, slOf_bl, slOf_str, slOf_non, slOf_f,  List.set_cons_zero, List.set_cons_succ, List.length_cons, List.length_nil, Env.kill, Env.noOw, isOw_vl, isOw_ow, isOw_no, evs_nil, List.all_cons, List.all_nil, Option.getD_some, Option.getD_none, Option.map_some, Option.map_none, rtM_rt, rtM_nx, Bool.not_true, Bool.not_false, Bool.true_and, Bool.and_true, Bool.false_and, Bool.and_false, Bool.false_eq_true, if_true, if_false, ite_true, ite_false, Nat.reduceAdd, Nat.reduceLT, Nat.reduceLeDiff, Nat.zero_lt_succ, Nat.zero_le, Bool.xor_false, Bool.false_xor, Bool.true_xor, List.map_cons, List.map_nil, e11, hr]
                      refine no ?_
                      rw [isKind2_tup, hx, List.length_map, decide_eq_false e10]; simp
                | _ =>
                  first
                    | (cases p3; done)
                    | (simp only [exSs, exS, evE, evT, evP, evTOr, evTAnd, evAnd, evOr, evEs, evSrc, evO, evTs, tr, bd_ret, nex_ret, bd_assoc, bd_no, ofO_some, ofO_none, asB_ret, asB_no, List.getElem?_cons_zero, List.getElem?_cons_succ, anyTy, D.isTy, truth_non, truth_bl, truth_int, truth_lst, truth_tup, asB_bl, asI_int, walk_lst, walk_tup, walk_str, items_lst, items_tup, len_lst, len_tup, len_str, int_int, int_bl, abs_int, list_lst, list_tup, tuple_lst, tuple_tup, all_lst, any_lst, lt_int, le_int, gt_int, ge_int, add_int, sub_int, eq_int, ne_int, ix_lst, ix_tup, sl_lst, sl_tup, rev_tup, rev_lst, at0, at1, at2,  bindT, bindTs, setOwn, slOf_lst, slOf_tup, slOf_int, slOf_bl, slOf_str, slOf_non, slOf_f,  List.set_cons_zero, List.set_cons_succ, List.length_cons, List.length_nil, Env.kill, Env.noOw, isOw_vl, isOw_ow, isOw_no, evs_nil, List.all_cons, List.all_nil, Option.getD_some, Option.getD_none, Option.map_some, Option.map_none, rtM_rt, rtM_nx, Bool.not_true, Bool.not_false, Bool.true_and, Bool.and_true, Bool.false_and, Bool.and_false, Bool.false_eq_true, if_true, if_false, ite_true, ite_false, Nat.reduceAdd, Nat.reduceLT, Nat.reduceLeDiff, Nat.zero_lt_succ, Nat.zero_le, Bool.xor_false, Bool.false_xor, Bool.true_xor, List.map_cons, List.map_nil, bodyI, ne_int, e33, c12 p1, e4, in_lst, decide_eq_false e5, decide_eq_true e6, decide_eq_true e7, hr]
                       refine no (k2_no ?_); intro n cs ts h; cases h)
              · simp only [exSs, exS, evE, evT, evP, evTOr, evTAnd, evAnd, evOr, evEs, evSrc, evO, evTs, tr, bd_ret, nex_ret, bd_assoc, bd_no, ofO_some, ofO_none, asB_ret, asB_no, List.getElem?_cons_zero, List.getElem?_cons_succ, anyTy, D.isTy, truth_non, truth_bl, truth_int, truth_lst, truth_tup, asB_bl, asI_int, walk_lst, walk_tup, walk_str, items_lst, items_tup, len_lst, len_tup, len_str, int_int, int_bl, abs_int, list_lst, list_tup, tuple_lst, tuple_tup, all_lst, any_lst, lt_int, le_int, gt_int, ge_int, add_int, sub_int, eq_int, ne_int, ix_lst, ix_tup, sl_lst, sl_tup, rev_tup, rev_lst, at0, at1, at2,  bindT, bindTs, setOwn, slOf_lst, slOf_tup, slOf_int, slOf_bl, slOf_str, slOf_non, slOf_f,  List.set_cons_zero, List.set_cons_succ, List.length_cons, List.length_nil, Env.kill, Env.noOw, isOw_vl, isOw_ow, isOw_no, evs_nil, List.all_cons, List.all_nil, Option.getD_some, Option.getD_none, Option.map_some, Option.map_none, rtM_rt, rtM_nx, Bool.not_true, Bool.not_false, Bool.true_and, Bool.and_true, Bool.false_and, Bool.and_false, Bool.false_eq_true, if_true, if_false, ite_true, ite_false, Nat.reduceAdd, Nat.reduceLT, Nat.reduceLeDiff, Nat.zero_lt_succ, Nat.zero_le, Bool.xor_false, Bool.false_xor, Bool.true_xor, List.map_cons, List.map_nil, bodyI, ne_int, e33, c12 p1, e4, in_lst, decide_eq_false e5, decide_eq_true e6, decide_eq_false e7, hr]
                refine no ?_
                cases ts <;> first | (refine k2_no ?_; intro n cs ts h; cases h; done) | skip
                rw [isKind2_tup, decide_eq_false (show ¬ cs.length ≤ 4 by omega)]; simp
            · simp only [exSs, exS, evE, evT, evP, evTOr, evTAnd, evAnd, evOr, evEs, evSrc, evO, evTs, tr, bd_ret, nex_ret, bd_assoc, bd_no, ofO_some, ofO_none, asB_ret, asB_no, List.getElem?_cons_zero, List.getElem?_cons_succ, anyTy, D.isTy, truth_non, truth_bl, truth_int, truth_lst, truth_tup, asB_bl, asI_int, walk_lst, walk_tup, walk_str, items_lst, items_tup, len_lst, len_tup, len_str, int_int, int_bl, abs_int, list_lst, list_tup, tuple_lst, tuple_tup, all_lst, any_lst, lt_int, le_int, gt_int, ge_int, add_int, sub_int, eq_int, ne_int, ix_lst, ix_tup, sl_lst, sl_tup, rev_tup, rev_lst, at0, at1, at2,  bindT, bindTs, setOwn, slOf_lst, slOf_tup, slOf_int, slOf_bl, slOf_str, slOf_non, slOf_f,  List.set_cons_zero, List.set_cons_succ, List.length_cons, List.length_nil, Env.kill, Env.noOw, isOw_vl, isOw_ow, isOw_no, evs_nil, List.all_cons, List.all_nil, Option.getD_some, Option.getD_none, Option.map_some, Option.map_none, rtM_rt, rtM_nx, Bool.not_true, Bool.not_false, Bool.true_and, Bool.and_true, Bool.false_and, Bool.and_false, Bool.false_eq_true, if_true, if_false, ite_true, ite_false, Nat.reduceAdd, Nat.reduceLT, Nat.reduceLeDiff, Nat.zero_lt_succ, Nat.zero_le, Bool.xor_false, Bool.false_xor, Bool.true_xor, List.map_cons, List.map_nil, bodyI, ne_int, e33, c12 p1, e4, in_lst, decide_eq_false e5, decide_eq_false e6, hr]
              refine no ?_
              cases ts <;> first | (refine k2_no ?_; intro n cs ts h; cases h; done) | skip
              rw [isKind2_tup, decide_eq_false (show ¬ 1 ≤ cs.length by omega)]; simp
          | _ =>
            first
              | (cases p2; done)
              | (simp only [exSs, exS, evE, evT, evP, evTOr, evTAnd, evAnd, evOr, evEs, evSrc, evO, evTs, tr, bd_ret, nex_ret, bd_assoc, bd_no, ofO_some, ofO_none, asB_ret, asB_no, List.getElem?_cons_zero, List.getElem?_cons_succ, anyTy, D.isTy, truth_non, truth_bl, truth_int, truth_lst, truth_tup, asB_bl, asI_int, walk_lst, walk_tup, walk_str, items_lst, items_tup, len_lst, len_tup, len_str, int_int, int_bl, abs_int, list_lst, list_tup, tuple_lst, tuple_tup, all_lst, any_lst, lt_int, le_int, gt_int, ge_int, add_int, sub_int, eq_int, ne_int, ix_lst, ix_tup, sl_lst, sl_tup, rev_tup, rev_lst, at0, at1, at2,  bindT, bindTs, setOwn, slOf_lst, slOf_tup, slOf_int, slOf_bl, slOf_str, slOf_non, slOf_f,  List.set_cons_zero, List.set_cons_succ, List.length_cons, List.length_nil, Env.kill, Env.noOw, isOw_vl, isOw_ow, isOw_no, evs_nil, List.all_cons, List.all_nil, Option.getD_some, Option.getD_none, Option.map_some, Option.map_none, rtM_rt, rtM_nx, Bool.not_true, Bool.not_false, Bool.true_and, Bool.and_true, Bool.false_and, Bool.and_false, Bool.false_eq_true, if_true, if_false, ite_true, ite_false, Nat.reduceAdd, Nat.reduceLT, Nat.reduceLeDiff, Nat.zero_lt_succ, Nat.zero_le, Bool.xor_false, Bool.false_xor, Bool.true_xor, List.map_cons, List.map_nil, bodyI, ne_int, e33, c12 p1, e4, in_lst, decide_eq_false e5, hr]
                 refine no (k2_no ?_); intro n cs ts h; cases h)
  | _ => first | (cases hp; done) | (simp only [exSs, exS, evE, evT, evP, evTOr, evTAnd, evAnd, evOr, evEs, evSrc, evO, evTs, tr, bd_ret, nex_ret, bd_assoc, bd_no, ofO_some, ofO_none, asB_ret, asB_no, List.getElem?_cons_zero, List.getElem?_cons_succ, anyTy, D.isTy, truth_non, truth_bl, truth_int, truth_lst, truth_tup, asB_bl, asI_int, walk_lst, walk_tup, walk_str, items_lst, items_tup, len_lst, len_tup, len_str, int_int, int_bl, abs_int, list_lst, list_tup, tuple_lst, tuple_tup, all_lst, any_lst, lt_int, le_int, gt_int, ge_int, add_int, sub_int, eq_int, ne_int, ix_lst, ix_tup, sl_lst, sl_tup, rev_tup, rev_lst, at0, at1, at2,  bindT, bindTs, setOwn, slOf_lst, slOf_tup, slOf_int, slOf_bl, slOf_str, slOf_non, slOf_f,  List.set_cons_zero, List.set_cons_succ, List.length_cons, List.length_nil, Env.kill, Env.noOw, isOw_vl, isOw_ow, isOw_no, evs_nil, List.all_cons, List.all_nil, Option.getD_some, Option.getD_none, Option.map_some, Option.map_none, rtM_rt, rtM_nx, Bool.not_true, Bool.not_false, Bool.true_and, Bool.and_true, Bool.false_and, Bool.and_false, Bool.false_eq_true, if_true, if_false, ite_true, ite_false, Nat.reduceAdd, Nat.reduceLT, Nat.reduceLeDiff, Nat.zero_lt_succ, Nat.zero_le, Bool.xor_false, Bool.false_xor, Bool.true_xor, List.map_cons, List.map_nil, bodyI, hr]; refine no (k2_no ?_); intro n cs ts h; cases h)
end
end LK
namespace LK
open PySem Mi
section
variable {ns : List Int} {k : Nat}
theorem good_all (xs ahead : List Str) : ∀ ts : List D, ts.all (goodT xs ahead) = (ts.all isPr && ts.all nm2 && ts.all fun t => decide (colT t ∈ xs.drop 1) && decide (othT t ∈ ahead))
  | [] => rfl
  | t :: ts => by
    simp only [List.all_cons, good_all xs ahead ts, goodT, nm2]
    cases isPr t <;> cases isNm (prA t) <;> cases isNm (prB t) <;> cases decide (colT t ∈ xs.drop 1) <;> cases decide (othT t ∈ ahead) <;> simp
theorem kinds_same (ahead : List Str) (q : D) : isKind2 ahead q = isKind ahead q := by
  by_cases h : ∃ n cs ts, q = .tup [n, .tup cs, .tup ts]
  · obtain ⟨n, cs, ts, rfl⟩ := h
    rw [isKind2_tup, isKind_tup, isCols_tup, good_all, rises_sort, show colsOf (.tup cs) = cs.map nmOf from rfl]
    have e : decide ((dedup (cs.map nmOf)).length = cs.length) = decide (cs.map nmOf).Nodup := by
      rw [← dedup_len, List.length_map]
    rw [e]
    simp only [Bool.and_assoc]
    cases isNm n <;> cases decide (nmOf n ∈ ahead) <;> cases decide (1 ≤ cs.length) <;> cases decide (cs.length ≤ 4) <;> cases cs.all isNm <;> cases decide (cs.map nmOf).Nodup <;> cases ts.all isPr <;> cases ts.all nm2 <;> simp only [Bool.true_and, Bool.false_and, Bool.not_true, Bool.not_false]
    rw [Bool.and_comm]
  · have h1 : isKind2 ahead q = false := k2_no fun n cs ts e => h ⟨n, cs, ts, e⟩
    rw [h1]
    unfold isKind
    split
    · rename_i n cs ts
      have : isCols cs = false := by
        cases cs <;> first | rfl | exact absurd ⟨_, _, _, rfl⟩ h
      rw [this]
      simp
    · rfl
def goK2 : List Str → List D → Bool
  | _, [] => true
  | ahead, d :: ds => isKind2 ahead d && goK2 (ahead ++ [kn d]) ds
theorem goK_same : ∀ (ks : List D) (ahead : List Str), goK2 ahead ks = goK ahead ks
  | [], _ => rfl
  | d :: ds, ahead => by rw [goK2, goK, kinds_same, goK_same ds]
theorem loopI {F : Mi.Flow × Mi.Env → M D} (hr : ∀ v s, F (.rt v, s) = M.ret v) (hn : ∀ s, F (.nx, s) = M.ret (.bl true)) (d : D) : ∀ (ks : List D) (ahead : List Str) (s3 : Sl), s3.isOw = false → (∀ d ∈ ks, D.py d = true ∧ sm d = true) → ahead.length + ks.length < 1000 →
    (forGo (.slot 2) [2, 4] (exSs (cfK ns (k + 1)) bodyI) ks [.vl d, .ow (.lst (ahead.map .str)), .no, s3, .no]).bd F = M.ret (.bl (goK2 ahead ks))
  | [], ahead, s3, _, _, _ => by rw [forGo_nil, bd_ret, hn]; rfl
  | q :: ks, ahead, s3, h3, h, hl => by
    obtain ⟨h1, h2⟩ := h q (List.mem_cons_self ..)
    simp only [List.length_cons] at hl
    rw [forGo_cons, show M.ofO (bindT (.slot 2) q [.vl d, .ow (.lst (ahead.map .str)), .no, s3, .no]) = M.ret [.vl d, .ow (.lst (ahead.map .str)), .vl q, s3, .no] from rfl, bd_ret, bd_assoc]
    rw [bodyI_eq (R := M.ret (.bl (goK2 (ahead ++ [kn q]) ks))) (fun v s => by
      show (M.ret (Mi.Flow.rt v, s)).bd F = _
      rw [bd_ret, hr]) d ahead q (fun s5 l h5 hl5 => by
      show (forGo (.slot 2) [2, 4] (exSs (cfK ns (k + 1)) bodyI) ks [.vl d, .ow (.lst ((ahead ++ [kn q]).map .str)), .no, s5, .no]).bd F = _
      exact loopI hr hn d ks (ahead ++ [kn q]) s5 h5 (fun d hd => h d (List.mem_cons_of_mem _ hd)) (by simp only [List.length_append, List.length_cons, List.length_nil]; omega)) s3 h3 h1 h2 (by omega), goK2]
    cases isKind2 ahead q <;> rfl
theorem l_is_run {d : D} (h : D.py d = true) (h2 : sm d = true) : run prog ns (k + 2) i_l_is [d] = M.ret (.bl (isSch d)) := by
  show (exSs (cfK ns (k + 1)) b_l_is [.vl d, .no, .no, .no, .no]).bd rtM = _
  rw [b_l_is_eq]
  cases d <;> first | (cases h; done) | skip
  case tup ds =>
    have h2' := h2
    simp only [sm, Bool.and_eq_true, decide_eq_true_eq] at h2'
    by_cases h3 : (0 : Int) < ds.length
    · by_cases h4 : (ds.length : Int) < 4
      · rw [isSch_tup, decide_eq_true (show 1 ≤ ds.length by omega), decide_eq_true (show ds.length ≤ 3 by omega), Bool.true_and, Bool.true_and, ← goK_same, ← loopI (ns := ns) (k := k) (F := fun p => (match p.1 with
          | .nx => exSs (cfK ns (k + 1)) (.cons (.ret (.cst (.bl true))) .nil) p.2
          | _ => M.ret p).bd rtM) (fun v s => rfl) (fun s => rfl) (.tup ds) ds [] .no rfl (fun d hd => ⟨py_mem h hd, smL_mem h2'.2 hd⟩) (by simp only [List.length_nil]; omega)]
        generalize bodyI = bk
        simp only [exSs, exS, evE, evT, evP, evTOr, evTAnd, evAnd, evOr, evEs, evSrc, evO, evTs, tr, bd_ret, nex_ret, bd_assoc, bd_no, ofO_some, ofO_none, asB_ret, asB_no, List.getElem?_cons_zero, List.getElem?_cons_succ, anyTy, D.isTy, truth_non, truth_bl, truth_int, truth_lst, truth_tup, asB_bl, asI_int, walk_lst, walk_tup, walk_str, items_lst, items_tup, len_lst, len_tup, len_str, int_int, int_bl, abs_int, list_lst, list_tup, tuple_lst, tuple_tup, all_lst, any_lst, lt_int, le_int, gt_int, ge_int, add_int, sub_int, eq_int, ne_int, ix_lst, ix_tup, sl_lst, sl_tup, rev_tup, rev_lst, at0, at1, at2,  bindT, bindTs, setOwn, slOf_lst, slOf_tup, slOf_int, slOf_bl, slOf_str, slOf_non, slOf_f,  List.set_cons_zero, List.set_cons_succ, List.length_cons, List.length_nil, Env.kill, Env.noOw, isOw_vl, isOw_ow, isOw_no, evs_nil, List.all_cons, List.all_nil, Option.getD_some, Option.getD_none, Option.map_some, Option.map_none, rtM_rt, rtM_nx, Bool.not_true, Bool.not_false, Bool.true_and, Bool.and_true, Bool.false_and, Bool.and_false, Bool.false_eq_true, if_true, if_false, ite_true, ite_false, Nat.reduceAdd, Nat.reduceLT, Nat.reduceLeDiff, Nat.zero_lt_succ, Nat.zero_le, Bool.xor_false, Bool.false_xor, Bool.true_xor, List.map_cons, List.map_nil, decide_eq_true h3, decide_eq_true h4]
        all_goals rfl
      · simp only [exSs, exS, evE, evT, evP, evTOr, evTAnd, evAnd, evOr, evEs, evSrc, evO, evTs, tr, bd_ret, nex_ret, bd_assoc, bd_no, ofO_some, ofO_none, asB_ret, asB_no, List.getElem?_cons_zero, List.getElem?_cons_succ, anyTy, D.isTy, truth_non, truth_bl, truth_int, truth_lst, truth_tup, asB_bl, asI_int, walk_lst, walk_tup, walk_str, items_lst, items_tup, len_lst, len_tup, len_str, int_int, int_bl, abs_int, list_lst, list_tup, tuple_lst, tuple_tup, all_lst, any_lst, lt_int, le_int, gt_int, ge_int, add_int, sub_int, eq_int, ne_int, ix_lst, ix_tup, sl_lst, sl_tup, rev_tup, rev_lst, at0, at1, at2,  bindT, bindTs, setOwn, slOf_lst, slOf_tup, slOf_int, slOf_bl, slOf_str, slOf_non, slOf_f,  List.set_cons_zero, List.set_cons_succ, List.length_cons, List.length_nil, Env.kill, Env.noOw, isOw_vl, isOw_ow, isOw_no, evs_nil, List.all_cons, List.all_nil, Option.getD_some, Option.getD_none, Option.map_some, Option.map_none, rtM_rt, rtM_nx, Bool.not_true, Bool.not_false, Bool.true_and, Bool.and_true, Bool.false_and, Bool.and_false, Bool.false_eq_true, if_true, if_false, ite_true, ite_false, Nat.reduceAdd, Nat.reduceLT, Nat.reduceLeDiff, Nat.zero_lt_succ, Nat.zero_le, Bool.xor_false, Bool.false_xor, Bool.true_xor, List.map_cons, List.map_nil, decide_eq_true h3, decide_eq_false h4]
        rw [isSch_tup, decide_eq_false (show ¬ ds.length ≤ 3 by omega)]
        simp
    · simp only [exSs, exS, evE, evT, evP, evTOr, evTAnd, evAnd, evOr, evEs, evSrc, evO, evTs, tr, bd_ret, nex_ret, bd_assoc, bd_no, ofO_some, ofO_none, asB_ret, asB_no, List.getElem?_cons_zero, List.getElem?_cons_succ, anyTy, D.isTy, truth_non, truth_bl, truth_int, truth_lst, truth_tup, asB_bl, asI_int, walk_lst, walk_tup, walk_str, items_lst, items_tup, len_lst, len_tup, len_str, int_int, int_bl, abs_int, list_lst, list_tup, tuple_lst, tuple_tup, all_lst, any_lst, lt_int, le_int, gt_int, ge_int, add_int, sub_int, eq_int, ne_int, ix_lst, ix_tup, sl_lst, sl_tup, rev_tup, rev_lst, at0, at1, at2,  bindT, bindTs, setOwn, slOf_lst, slOf_tup, slOf_int, slOf_bl, slOf_str, slOf_non, slOf_f,  List.set_cons_zero, List.set_cons_succ, List.length_cons, List.length_nil, Env.kill, Env.noOw, isOw_vl, isOw_ow, isOw_no, evs_nil, List.all_cons, List.all_nil, Option.getD_some, Option.getD_none, Option.map_some, Option.map_none, rtM_rt, rtM_nx, Bool.not_true, Bool.not_false, Bool.true_and, Bool.and_true, Bool.false_and, Bool.and_false, Bool.false_eq_true, if_true, if_false, ite_true, ite_false, Nat.reduceAdd, Nat.reduceLT, Nat.reduceLeDiff, Nat.zero_lt_succ, Nat.zero_le, Bool.xor_false, Bool.false_xor, Bool.true_xor, List.map_cons, List.map_nil, decide_eq_false h3]
      rw [isSch_tup, decide_eq_false (show ¬ 1 ≤ ds.length by omega)]
      simp
  all_goals (simp only [exSs, exS, evE, evT, evP, evTOr, evTAnd, evAnd, evOr, evEs, evSrc, evO, evTs, tr, bd_ret, nex_ret, bd_assoc, bd_no, ofO_some, ofO_none, asB_ret, asB_no, List.getElem?_cons_zero, List.getElem?_cons_succ, anyTy, D.isTy, truth_non, truth_bl, truth_int, truth_lst, truth_tup, asB_bl, asI_int, walk_lst, walk_tup, walk_str, items_lst, items_tup, len_lst, len_tup, len_str, int_int, int_bl, abs_int, list_lst, list_tup, tuple_lst, tuple_tup, all_lst, any_lst, lt_int, le_int, gt_int, ge_int, add_int, sub_int, eq_int, ne_int, ix_lst, ix_tup, sl_lst, sl_tup, rev_tup, rev_lst, at0, at1, at2,  bindT, bindTs, setOwn, slOf_lst, slOf_tup, slOf_int, slOf_bl, slOf_str, slOf_non, slOf_f,  List.set_cons_zero, List.set_cons_succ, List.length_cons, List.length_nil, Env.kill, Env.noOw, isOw_vl, isOw_ow, isOw_no, evs_nil, List.all_cons, List.all_nil, Option.getD_some, Option.getD_none, Option.map_some, Option.map_none, rtM_rt, rtM_nx, Bool.not_true, Bool.not_false, Bool.true_and, Bool.and_true, Bool.false_and, Bool.and_false, Bool.false_eq_true, if_true, if_false, ite_true, ite_false, Nat.reduceAdd, Nat.reduceLT, Nat.reduceLeDiff, Nat.zero_lt_succ, Nat.zero_le, Bool.xor_false, Bool.false_xor, Bool.true_xor, List.map_cons, List.map_nil]; rfl)
end
end LK
namespace LK
open PySem Mi
section
variable {ns : List Int} {k : Nat}
theorem take_dr {N : Int} (h1 : 0 < N) (h2 : N < 1073741824) : Dr 1 (run prog ns (k + 1) i_l_take [.box, .int N]) fun v => ∃ i : Int, v = .int i ∧ 0 ≤ i ∧ i < N := by
  intro M b ⟨g, m, c, e, c0, c1⟩
  subst e
  have c2 : c + 1 ≤ 2 ^ 60 := by omega
  show WP ((exSs ⟨run prog ns k, prog.glob, ns⟩ b_l_take [.vl .box, .vl (.int N), .no, .no, .no, .no]).bd rtM) _ _
  rw [b_l_take]
  by_cases hg : 0 < g
  · rw [sq_ite]
    simp only [evE, evT, evP, evTOr, evTAnd, evAnd, evOr, evEs, evSrc, evO, evTs, tr, bd_ret, nex_ret, bd_assoc, bd_no, ofO_some, ofO_none, asB_ret, asB_no, List.getElem?_cons_zero, List.getElem?_cons_succ, anyTy, D.isTy, truth_non, truth_bl, truth_int, truth_lst, truth_tup, asB_bl, asI_int, walk_lst, walk_tup, walk_str, items_lst, items_tup, len_lst, len_tup, len_str, int_int, int_bl, abs_int, list_lst, list_tup, tuple_lst, tuple_tup, all_lst, any_lst, lt_int, le_int, gt_int, ge_int, add_int, sub_int, eq_int, ne_int, ix_lst, ix_tup, sl_lst, sl_tup, rev_tup, rev_lst, at0, at1, at2,  bindT, bindTs, setOwn, slOf_lst, slOf_tup, slOf_int, slOf_bl, slOf_str, slOf_non, slOf_f,  List.set_cons_zero, List.set_cons_succ, List.length_cons, List.length_nil, Env.kill, Env.noOw, isOw_vl, isOw_ow, isOw_no, evs_nil, List.all_cons, List.all_nil, Option.getD_some, Option.getD_none, Option.map_some, Option.map_none, rtM_rt, rtM_nx, Bool.not_true, Bool.not_false, Bool.true_and, Bool.and_true, Bool.false_and, Bool.and_false, Bool.false_eq_true, if_true, if_false, ite_true, ite_false, Nat.reduceAdd, Nat.reduceLT, Nat.reduceLeDiff, Nat.zero_lt_succ, Nat.zero_le, Bool.xor_false, Bool.false_xor, Bool.true_xor, List.map_cons, List.map_nil, WP_bd, WP_ret, WP_ix0, WP_ofO, decide_eq_true hg]
    rw [sq_asg (lenlt rfl)]
    simp only [evE, evT, evP, evTOr, evTAnd, evAnd, evOr, evEs, evSrc, evO, evTs, tr, bd_ret, nex_ret, bd_assoc, bd_no, ofO_some, ofO_none, asB_ret, asB_no, List.getElem?_cons_zero, List.getElem?_cons_succ, anyTy, D.isTy, truth_non, truth_bl, truth_int, truth_lst, truth_tup, asB_bl, asI_int, walk_lst, walk_tup, walk_str, items_lst, items_tup, len_lst, len_tup, len_str, int_int, int_bl, abs_int, list_lst, list_tup, tuple_lst, tuple_tup, all_lst, any_lst, lt_int, le_int, gt_int, ge_int, add_int, sub_int, eq_int, ne_int, ix_lst, ix_tup, sl_lst, sl_tup, rev_tup, rev_lst, at0, at1, at2,  bindT, bindTs, setOwn, slOf_lst, slOf_tup, slOf_int, slOf_bl, slOf_str, slOf_non, slOf_f,  List.set_cons_zero, List.set_cons_succ, List.length_cons, List.length_nil, Env.kill, Env.noOw, isOw_vl, isOw_ow, isOw_no, evs_nil, List.all_cons, List.all_nil, Option.getD_some, Option.getD_none, Option.map_some, Option.map_none, rtM_rt, rtM_nx, Bool.not_true, Bool.not_false, Bool.true_and, Bool.and_true, Bool.false_and, Bool.and_false, Bool.false_eq_true, if_true, if_false, ite_true, ite_false, Nat.reduceAdd, Nat.reduceLT, Nat.reduceLeDiff, Nat.zero_lt_succ, Nat.zero_le, Bool.xor_false, Bool.false_xor, Bool.true_xor, List.map_cons, List.map_nil, WP_bd, WP_ret, WP_ix0, WP_ofO, mod_int h1]
    rw [sq_bset rfl]
    simp only [evE, evT, evP, evTOr, evTAnd, evAnd, evOr, evEs, evSrc, evO, evTs, tr, bd_ret, nex_ret, bd_assoc, bd_no, ofO_some, ofO_none, asB_ret, asB_no, List.getElem?_cons_zero, List.getElem?_cons_succ, anyTy, D.isTy, truth_non, truth_bl, truth_int, truth_lst, truth_tup, asB_bl, asI_int, walk_lst, walk_tup, walk_str, items_lst, items_tup, len_lst, len_tup, len_str, int_int, int_bl, abs_int, list_lst, list_tup, tuple_lst, tuple_tup, all_lst, any_lst, lt_int, le_int, gt_int, ge_int, add_int, sub_int, eq_int, ne_int, ix_lst, ix_tup, sl_lst, sl_tup, rev_tup, rev_lst, at0, at1, at2,  bindT, bindTs, setOwn, slOf_lst, slOf_tup, slOf_int, slOf_bl, slOf_str, slOf_non, slOf_f,  List.set_cons_zero, List.set_cons_succ, List.length_cons, List.length_nil, Env.kill, Env.noOw, isOw_vl, isOw_ow, isOw_no, evs_nil, List.all_cons, List.all_nil, Option.getD_some, Option.getD_none, Option.map_some, Option.map_none, rtM_rt, rtM_nx, Bool.not_true, Bool.not_false, Bool.true_and, Bool.and_true, Bool.false_and, Bool.and_false, Bool.false_eq_true, if_true, if_false, ite_true, ite_false, Nat.reduceAdd, Nat.reduceLT, Nat.reduceLeDiff, Nat.zero_lt_succ, Nat.zero_le, Bool.xor_false, Bool.false_xor, Bool.true_xor, List.map_cons, List.map_nil, WP_bd, WP_ret, WP_ix0, WP_set0, WP_ofO, fdiv_int h1 h2]
    rw [sq_ret]
    simp only [evE, evT, evP, evTOr, evTAnd, evAnd, evOr, evEs, evSrc, evO, evTs, tr, bd_ret, nex_ret, bd_assoc, bd_no, ofO_some, ofO_none, asB_ret, asB_no, List.getElem?_cons_zero, List.getElem?_cons_succ, anyTy, D.isTy, truth_non, truth_bl, truth_int, truth_lst, truth_tup, asB_bl, asI_int, walk_lst, walk_tup, walk_str, items_lst, items_tup, len_lst, len_tup, len_str, int_int, int_bl, abs_int, list_lst, list_tup, tuple_lst, tuple_tup, all_lst, any_lst, lt_int, le_int, gt_int, ge_int, add_int, sub_int, eq_int, ne_int, ix_lst, ix_tup, sl_lst, sl_tup, rev_tup, rev_lst, at0, at1, at2,  bindT, bindTs, setOwn, slOf_lst, slOf_tup, slOf_int, slOf_bl, slOf_str, slOf_non, slOf_f,  List.set_cons_zero, List.set_cons_succ, List.length_cons, List.length_nil, Env.kill, Env.noOw, isOw_vl, isOw_ow, isOw_no, evs_nil, List.all_cons, List.all_nil, Option.getD_some, Option.getD_none, Option.map_some, Option.map_none, rtM_rt, rtM_nx, Bool.not_true, Bool.not_false, Bool.true_and, Bool.and_true, Bool.false_and, Bool.and_false, Bool.false_eq_true, if_true, if_false, ite_true, ite_false, Nat.reduceAdd, Nat.reduceLT, Nat.reduceLeDiff, Nat.zero_lt_succ, Nat.zero_le, Bool.xor_false, Bool.false_xor, Bool.true_xor, List.map_cons, List.map_nil, WP_bd, WP_ret, WP_ofO]
    exact ⟨⟨_, rfl, Int.emod_nonneg _ (by omega), Int.emod_lt_of_pos _ h1⟩, _, _, _, rfl, c0, by omega⟩
  · have s1 : small64 48271 = true := by decide
    have s2 : small64 (39373 + (c + 1)) = true := small_of (by omega) (by omega)
    have s3 : ∀ x : Int, small64 (x % 40009 + 7) = true := fun x => small_of (by have := Int.emod_nonneg x (show (40009 : Int) ≠ 0 by decide); omega) (by have := Int.emod_lt_of_pos x (show (0 : Int) < 40009 by decide); omega)
    rw [sq_ite]
    simp only [evE, evT, evP, evTOr, evTAnd, evAnd, evOr, evEs, evSrc, evO, evTs, tr, bd_ret, nex_ret, bd_assoc, bd_no, ofO_some, ofO_none, asB_ret, asB_no, List.getElem?_cons_zero, List.getElem?_cons_succ, anyTy, D.isTy, truth_non, truth_bl, truth_int, truth_lst, truth_tup, asB_bl, asI_int, walk_lst, walk_tup, walk_str, items_lst, items_tup, len_lst, len_tup, len_str, int_int, int_bl, abs_int, list_lst, list_tup, tuple_lst, tuple_tup, all_lst, any_lst, lt_int, le_int, gt_int, ge_int, add_int, sub_int, eq_int, ne_int, ix_lst, ix_tup, sl_lst, sl_tup, rev_tup, rev_lst, at0, at1, at2,  bindT, bindTs, setOwn, slOf_lst, slOf_tup, slOf_int, slOf_bl, slOf_str, slOf_non, slOf_f,  List.set_cons_zero, List.set_cons_succ, List.length_cons, List.length_nil, Env.kill, Env.noOw, isOw_vl, isOw_ow, isOw_no, evs_nil, List.all_cons, List.all_nil, Option.getD_some, Option.getD_none, Option.map_some, Option.map_none, rtM_rt, rtM_nx, Bool.not_true, Bool.not_false, Bool.true_and, Bool.and_true, Bool.false_and, Bool.and_false, Bool.false_eq_true, if_true, if_false, ite_true, ite_false, Nat.reduceAdd, Nat.reduceLT, Nat.reduceLeDiff, Nat.zero_lt_succ, Nat.zero_le, Bool.xor_false, Bool.false_xor, Bool.true_xor, List.map_cons, List.map_nil, WP_bd, WP_ret, WP_ix0, WP_ofO, decide_eq_false hg, sq_nil]
    rw [sq_bset rfl]
    simp only [evE, evT, evP, evTOr, evTAnd, evAnd, evOr, evEs, evSrc, evO, evTs, tr, bd_ret, nex_ret, bd_assoc, bd_no, ofO_some, ofO_none, asB_ret, asB_no, List.getElem?_cons_zero, List.getElem?_cons_succ, anyTy, D.isTy, truth_non, truth_bl, truth_int, truth_lst, truth_tup, asB_bl, asI_int, walk_lst, walk_tup, walk_str, items_lst, items_tup, len_lst, len_tup, len_str, int_int, int_bl, abs_int, list_lst, list_tup, tuple_lst, tuple_tup, all_lst, any_lst, lt_int, le_int, gt_int, ge_int, add_int, sub_int, eq_int, ne_int, ix_lst, ix_tup, sl_lst, sl_tup, rev_tup, rev_lst, at0, at1, at2,  bindT, bindTs, setOwn, slOf_lst, slOf_tup, slOf_int, slOf_bl, slOf_str, slOf_non, slOf_f,  List.set_cons_zero, List.set_cons_succ, List.length_cons, List.length_nil, Env.kill, Env.noOw, isOw_vl, isOw_ow, isOw_no, evs_nil, List.all_cons, List.all_nil, Option.getD_some, Option.getD_none, Option.map_some, Option.map_none, rtM_rt, rtM_nx, Bool.not_true, Bool.not_false, Bool.true_and, Bool.and_true, Bool.false_and, Bool.and_false, Bool.false_eq_true, if_true, if_false, ite_true, ite_false, Nat.reduceAdd, Nat.reduceLT, Nat.reduceLeDiff, Nat.zero_lt_succ, Nat.zero_le, Bool.xor_false, Bool.false_xor, Bool.true_xor, List.map_cons, List.map_nil, WP_bd, WP_ret, WP_ix0, WP_ix2, WP_set2, WP_ofO]
    generalize hc : c + 1 = c' at s2 ⊢
    rw [sq_asg (lenlt rfl)]
    simp only [evE, evT, evP, evTOr, evTAnd, evAnd, evOr, evEs, evSrc, evO, evTs, tr, bd_ret, nex_ret, bd_assoc, bd_no, ofO_some, ofO_none, asB_ret, asB_no, List.getElem?_cons_zero, List.getElem?_cons_succ, anyTy, D.isTy, truth_non, truth_bl, truth_int, truth_lst, truth_tup, asB_bl, asI_int, walk_lst, walk_tup, walk_str, items_lst, items_tup, len_lst, len_tup, len_str, int_int, int_bl, abs_int, list_lst, list_tup, tuple_lst, tuple_tup, all_lst, any_lst, lt_int, le_int, gt_int, ge_int, add_int, sub_int, eq_int, ne_int, ix_lst, ix_tup, sl_lst, sl_tup, rev_tup, rev_lst, at0, at1, at2,  bindT, bindTs, setOwn, slOf_lst, slOf_tup, slOf_int, slOf_bl, slOf_str, slOf_non, slOf_f,  List.set_cons_zero, List.set_cons_succ, List.length_cons, List.length_nil, Env.kill, Env.noOw, isOw_vl, isOw_ow, isOw_no, evs_nil, List.all_cons, List.all_nil, Option.getD_some, Option.getD_none, Option.map_some, Option.map_none, rtM_rt, rtM_nx, Bool.not_true, Bool.not_false, Bool.true_and, Bool.and_true, Bool.false_and, Bool.and_false, Bool.false_eq_true, if_true, if_false, ite_true, ite_false, Nat.reduceAdd, Nat.reduceLT, Nat.reduceLeDiff, Nat.zero_lt_succ, Nat.zero_le, Bool.xor_false, Bool.false_xor, Bool.true_xor, List.map_cons, List.map_nil, WP_bd, WP_ret, WP_ix1, WP_ix2, WP_ofO, mulL s1, mulR s2, mod_int (show (0 : Int) < 2147483647 by omega)]
    generalize ((m + 48271 * c') * (39373 + c')) % 2147483647 = once
    rw [sq_asg (lenlt rfl)]
    simp only [evE, evT, evP, evTOr, evTAnd, evAnd, evOr, evEs, evSrc, evO, evTs, tr, bd_ret, nex_ret, bd_assoc, bd_no, ofO_some, ofO_none, asB_ret, asB_no, List.getElem?_cons_zero, List.getElem?_cons_succ, anyTy, D.isTy, truth_non, truth_bl, truth_int, truth_lst, truth_tup, asB_bl, asI_int, walk_lst, walk_tup, walk_str, items_lst, items_tup, len_lst, len_tup, len_str, int_int, int_bl, abs_int, list_lst, list_tup, tuple_lst, tuple_tup, all_lst, any_lst, lt_int, le_int, gt_int, ge_int, add_int, sub_int, eq_int, ne_int, ix_lst, ix_tup, sl_lst, sl_tup, rev_tup, rev_lst, at0, at1, at2,  bindT, bindTs, setOwn, slOf_lst, slOf_tup, slOf_int, slOf_bl, slOf_str, slOf_non, slOf_f,  List.set_cons_zero, List.set_cons_succ, List.length_cons, List.length_nil, Env.kill, Env.noOw, isOw_vl, isOw_ow, isOw_no, evs_nil, List.all_cons, List.all_nil, Option.getD_some, Option.getD_none, Option.map_some, Option.map_none, rtM_rt, rtM_nx, Bool.not_true, Bool.not_false, Bool.true_and, Bool.and_true, Bool.false_and, Bool.and_false, Bool.false_eq_true, if_true, if_false, ite_true, ite_false, Nat.reduceAdd, Nat.reduceLT, Nat.reduceLeDiff, Nat.zero_lt_succ, Nat.zero_le, Bool.xor_false, Bool.false_xor, Bool.true_xor, List.map_cons, List.map_nil, WP_bd, WP_ret, WP_ix1, WP_ix2, WP_ofO, mod_int (show (0 : Int) < 40009 by omega)]
    have s4 := s3 once
    generalize once % 40009 + 7 = far at s4 ⊢
    rw [sq_asg (lenlt rfl)]
    simp only [evE, evT, evP, evTOr, evTAnd, evAnd, evOr, evEs, evSrc, evO, evTs, tr, bd_ret, nex_ret, bd_assoc, bd_no, ofO_some, ofO_none, asB_ret, asB_no, List.getElem?_cons_zero, List.getElem?_cons_succ, anyTy, D.isTy, truth_non, truth_bl, truth_int, truth_lst, truth_tup, asB_bl, asI_int, walk_lst, walk_tup, walk_str, items_lst, items_tup, len_lst, len_tup, len_str, int_int, int_bl, abs_int, list_lst, list_tup, tuple_lst, tuple_tup, all_lst, any_lst, lt_int, le_int, gt_int, ge_int, add_int, sub_int, eq_int, ne_int, ix_lst, ix_tup, sl_lst, sl_tup, rev_tup, rev_lst, at0, at1, at2,  bindT, bindTs, setOwn, slOf_lst, slOf_tup, slOf_int, slOf_bl, slOf_str, slOf_non, slOf_f,  List.set_cons_zero, List.set_cons_succ, List.length_cons, List.length_nil, Env.kill, Env.noOw, isOw_vl, isOw_ow, isOw_no, evs_nil, List.all_cons, List.all_nil, Option.getD_some, Option.getD_none, Option.map_some, Option.map_none, rtM_rt, rtM_nx, Bool.not_true, Bool.not_false, Bool.true_and, Bool.and_true, Bool.false_and, Bool.and_false, Bool.false_eq_true, if_true, if_false, ite_true, ite_false, Nat.reduceAdd, Nat.reduceLT, Nat.reduceLeDiff, Nat.zero_lt_succ, Nat.zero_le, Bool.xor_false, Bool.false_xor, Bool.true_xor, List.map_cons, List.map_nil, WP_bd, WP_ret, WP_ix1, WP_ix2, WP_ofO, fdiv_int (show (0 : Int) < 1000003 by omega) (show (1000003 : Int) < 1073741824 by omega), mulR s4, mod_int (show (0 : Int) < 2147483629 by omega)]
    generalize ((once + c' + m / 1000003) * far) % 2147483629 = twice
    rw [sq_ret]
    simp only [evE, evT, evP, evTOr, evTAnd, evAnd, evOr, evEs, evSrc, evO, evTs, tr, bd_ret, nex_ret, bd_assoc, bd_no, ofO_some, ofO_none, asB_ret, asB_no, List.getElem?_cons_zero, List.getElem?_cons_succ, anyTy, D.isTy, truth_non, truth_bl, truth_int, truth_lst, truth_tup, asB_bl, asI_int, walk_lst, walk_tup, walk_str, items_lst, items_tup, len_lst, len_tup, len_str, int_int, int_bl, abs_int, list_lst, list_tup, tuple_lst, tuple_tup, all_lst, any_lst, lt_int, le_int, gt_int, ge_int, add_int, sub_int, eq_int, ne_int, ix_lst, ix_tup, sl_lst, sl_tup, rev_tup, rev_lst, at0, at1, at2,  bindT, bindTs, setOwn, slOf_lst, slOf_tup, slOf_int, slOf_bl, slOf_str, slOf_non, slOf_f,  List.set_cons_zero, List.set_cons_succ, List.length_cons, List.length_nil, Env.kill, Env.noOw, isOw_vl, isOw_ow, isOw_no, evs_nil, List.all_cons, List.all_nil, Option.getD_some, Option.getD_none, Option.map_some, Option.map_none, rtM_rt, rtM_nx, Bool.not_true, Bool.not_false, Bool.true_and, Bool.and_true, Bool.false_and, Bool.and_false, Bool.false_eq_true, if_true, if_false, ite_true, ite_false, Nat.reduceAdd, Nat.reduceLT, Nat.reduceLeDiff, Nat.zero_lt_succ, Nat.zero_le, Bool.xor_false, Bool.false_xor, Bool.true_xor, List.map_cons, List.map_nil, WP_bd, WP_ret, WP_ofO, mulR s1, mod_int (show (0 : Int) < 2147483587 by omega), fdiv_int (show (0 : Int) < 64 by omega) (show (64 : Int) < 1073741824 by omega), mod_int h1]
    exact ⟨⟨_, rfl, Int.emod_nonneg _ (by omega), Int.emod_lt_of_pos _ h1⟩, _, _, _, rfl, by omega, by omega⟩
theorem c7 {N : Int} (h1 : 0 < N) (h2 : N < 1073741824) : Dr 1 (run prog ns (k + 1) 7 [.box, .int N]) fun v => ∃ i : Int, v = .int i ∧ 0 ≤ i ∧ i < N := take_dr h1 h2
theorem of_dr {xs : List D} (h : xs ≠ []) (hl : xs.length < 1000000000) : Dr 1 (run prog ns (k + 2) i_l_of [.box, .lst xs]) fun v => v ∈ xs := by
  show Dr 1 ((exSs ⟨run prog ns (k + 1), prog.glob, ns⟩ b_l_of [.vl .box, .vl (.lst xs)]).bd rtM) _
  have h0 : 0 < xs.length := List.length_pos_iff.mpr h
  simp only [exSs, exS, evE, evT, evP, evTOr, evTAnd, evAnd, evOr, evEs, evSrc, evO, evTs, tr, bd_ret, nex_ret, bd_assoc, bd_no, ofO_some, ofO_none, asB_ret, asB_no, List.getElem?_cons_zero, List.getElem?_cons_succ, anyTy, D.isTy, truth_non, truth_bl, truth_int, truth_lst, truth_tup, asB_bl, asI_int, walk_lst, walk_tup, walk_str, items_lst, items_tup, len_lst, len_tup, len_str, int_int, int_bl, abs_int, list_lst, list_tup, tuple_lst, tuple_tup, all_lst, any_lst, lt_int, le_int, gt_int, ge_int, add_int, sub_int, eq_int, ne_int, ix_lst, ix_tup, sl_lst, sl_tup, rev_tup, rev_lst, at0, at1, at2,  bindT, bindTs, setOwn, slOf_lst, slOf_tup, slOf_int, slOf_bl, slOf_str, slOf_non, slOf_f,  List.set_cons_zero, List.set_cons_succ, List.length_cons, List.length_nil, Env.kill, Env.noOw, isOw_vl, isOw_ow, isOw_no, evs_nil, List.all_cons, List.all_nil, Option.getD_some, Option.getD_none, Option.map_some, Option.map_none, rtM_rt, rtM_nx, Bool.not_true, Bool.not_false, Bool.true_and, Bool.and_true, Bool.false_and, Bool.and_false, Bool.false_eq_true, if_true, if_false, ite_true, ite_false, Nat.reduceAdd, Nat.reduceLT, Nat.reduceLeDiff, Nat.zero_lt_succ, Nat.zero_le, Bool.xor_false, Bool.false_xor, Bool.true_xor, List.map_cons, List.map_nil, b_l_of]
  refine Dr.rt (c7 (ns := ns) (k := k) (show (0 : Int) < xs.length by omega) (by omega)) fun v ⟨i, hv, i0, i1⟩ => ?_
  subst hv
  obtain ⟨j, rfl⟩ : ∃ j : Nat, i = j := ⟨i.toNat, by omega⟩
  simp only [exSs, exS, evE, evT, evP, evTOr, evTAnd, evAnd, evOr, evEs, evSrc, evO, evTs, tr, bd_ret, nex_ret, bd_assoc, bd_no, ofO_some, ofO_none, asB_ret, asB_no, List.getElem?_cons_zero, List.getElem?_cons_succ, anyTy, D.isTy, truth_non, truth_bl, truth_int, truth_lst, truth_tup, asB_bl, asI_int, walk_lst, walk_tup, walk_str, items_lst, items_tup, len_lst, len_tup, len_str, int_int, int_bl, abs_int, list_lst, list_tup, tuple_lst, tuple_tup, all_lst, any_lst, lt_int, le_int, gt_int, ge_int, add_int, sub_int, eq_int, ne_int, ix_lst, ix_tup, sl_lst, sl_tup, rev_tup, rev_lst, at0, at1, at2,  bindT, bindTs, setOwn, slOf_lst, slOf_tup, slOf_int, slOf_bl, slOf_str, slOf_non, slOf_f,  List.set_cons_zero, List.set_cons_succ, List.length_cons, List.length_nil, Env.kill, Env.noOw, isOw_vl, isOw_ow, isOw_no, evs_nil, List.all_cons, List.all_nil, Option.getD_some, Option.getD_none, Option.map_some, Option.map_none, rtM_rt, rtM_nx, Bool.not_true, Bool.not_false, Bool.true_and, Bool.and_true, Bool.false_and, Bool.and_false, Bool.false_eq_true, if_true, if_false, ite_true, ite_false, Nat.reduceAdd, Nat.reduceLT, Nat.reduceLeDiff, Nat.zero_lt_succ, Nat.zero_le, Bool.xor_false, Bool.false_xor, Bool.true_xor, List.map_cons, List.map_nil]
  rw [atI_nat, List.getElem?_eq_getElem (by omega), ofO_some]
  exact Dr.ret (List.getElem_mem _)
theorem c9 {xs : List D} (h : xs ≠ []) (hl : xs.length < 1000000000) : Dr 1 (run prog ns (k + 2) 9 [.box, .lst xs]) fun v => v ∈ xs := of_dr h hl
end
end LK
namespace LK
open PySem Mi
section
variable {ns : List Int} {k : Nat}
def bodyM : MSs := (.cons (.asg false (.slot 5) (.call 7 (.cons false (.var 0) (.cons false (.bi .len (.var 3)) .nil))))
 (.cons (.app 4 (.ix (.var 3) (.var 5)))
 (.cons (.asg false (.slot 3) (.op .add (.sl (.var 3) .none (.some (.var 5))) (.sl (.var 3) (.some (.op .add (.var 5) (.cst (.int 1)))) .none)))
 .nil)))
def tailM : MSs := .cons (.share 4) (.cons (.ret (.var 4)) .nil)
theorem b_l_mixed_eq : b_l_mixed = (.cons (.par 3 4 false true (.bi .list (.var 1)) (.lst .nil))
 (.cons (.for_ (.slot 2) (.range (.bi .len (.var 1))) [2, 5] bodyM)
 tailM)) := rfl
def InvM (rows ds : List D) (s : Mi.Env) : Prop := ∃ rest found, s = [.vl .box, .vl (.lst rows), .no, .vl (.lst rest), .ow (.lst found), .no] ∧ rest.length = ds.length ∧ (found ++ rest).Perm rows
theorem bodyM_dr {rows : List D} (hl : rows.length < 1000) (d : D) (ds : List D) (s : Mi.Env) (h : InvM rows (d :: ds) s) : ∃ s1, bindT (.slot 2) d s = some s1 ∧ Dr 1 (exSs (cfK ns (k + 1)) bodyM s1) fun p => p.1 = .nx ∧ InvM rows ds (p.2.kill [2, 5]) := by
  obtain ⟨rest, found, rfl, h1, h2⟩ := h
  simp only [List.length_cons] at h1
  have hlen := h2.length_eq
  rw [List.length_append] at hlen
  refine ⟨[.vl .box, .vl (.lst rows), .vl d, .vl (.lst rest), .ow (.lst found), .no], rfl, ?_⟩
  rw [bodyM, sq_asg (lenlt rfl)]
  (generalize hq : exSs (cfK ns (k + 1)) = q; simp only [evE, evT, evP, evTOr, evTAnd, evAnd, evOr, evEs, evSrc, evO, evTs, tr, bd_ret, nex_ret, bd_assoc, bd_no, ofO_some, ofO_none, asB_ret, asB_no, List.getElem?_cons_zero, List.getElem?_cons_succ, anyTy, D.isTy, truth_non, truth_bl, truth_int, truth_lst, truth_tup, asB_bl, asI_int, walk_lst, walk_tup, walk_str, items_lst, items_tup, len_lst, len_tup, len_str, int_int, int_bl, abs_int, list_lst, list_tup, tuple_lst, tuple_tup, all_lst, any_lst, lt_int, le_int, gt_int, ge_int, add_int, sub_int, eq_int, ne_int, ix_lst, ix_tup, sl_lst, sl_tup, rev_tup, rev_lst, at0, at1, at2,  bindT, bindTs, setOwn, slOf_lst, slOf_tup, slOf_int, slOf_bl, slOf_str, slOf_non, slOf_f,  List.set_cons_zero, List.set_cons_succ, List.length_cons, List.length_nil, Env.kill, Env.noOw, isOw_vl, isOw_ow, isOw_no, evs_nil, List.all_cons, List.all_nil, Option.getD_some, Option.getD_none, Option.map_some, Option.map_none, rtM_rt, rtM_nx, Bool.not_true, Bool.not_false, Bool.true_and, Bool.and_true, Bool.false_and, Bool.and_false, Bool.false_eq_true, if_true, if_false, ite_true, ite_false, Nat.reduceAdd, Nat.reduceLT, Nat.reduceLeDiff, Nat.zero_lt_succ, Nat.zero_le, Bool.xor_false, Bool.false_xor, Bool.true_xor, List.map_cons, List.map_nil]; subst hq)
  refine Dr.rt (c7 (ns := ns) (k := k) (show (0 : Int) < rest.length by omega) (by omega)) fun v ⟨i, hv, i0, i1⟩ => ?_
  subst hv
  obtain ⟨j, rfl⟩ : ∃ j : Nat, i = j := ⟨i.toNat, by omega⟩
  have hj : j < rest.length := by omega
  rw [sq_app rfl]
  (generalize hq : exSs (cfK ns (k + 1)) = q; simp only [evE, evT, evP, evTOr, evTAnd, evAnd, evOr, evEs, evSrc, evO, evTs, tr, bd_ret, nex_ret, bd_assoc, bd_no, ofO_some, ofO_none, asB_ret, asB_no, List.getElem?_cons_zero, List.getElem?_cons_succ, anyTy, D.isTy, truth_non, truth_bl, truth_int, truth_lst, truth_tup, asB_bl, asI_int, walk_lst, walk_tup, walk_str, items_lst, items_tup, len_lst, len_tup, len_str, int_int, int_bl, abs_int, list_lst, list_tup, tuple_lst, tuple_tup, all_lst, any_lst, lt_int, le_int, gt_int, ge_int, add_int, sub_int, eq_int, ne_int, ix_lst, ix_tup, sl_lst, sl_tup, rev_tup, rev_lst, at0, at1, at2,  bindT, bindTs, setOwn, slOf_lst, slOf_tup, slOf_int, slOf_bl, slOf_str, slOf_non, slOf_f,  List.set_cons_zero, List.set_cons_succ, List.length_cons, List.length_nil, Env.kill, Env.noOw, isOw_vl, isOw_ow, isOw_no, evs_nil, List.all_cons, List.all_nil, Option.getD_some, Option.getD_none, Option.map_some, Option.map_none, rtM_rt, rtM_nx, Bool.not_true, Bool.not_false, Bool.true_and, Bool.and_true, Bool.false_and, Bool.and_false, Bool.false_eq_true, if_true, if_false, ite_true, ite_false, Nat.reduceAdd, Nat.reduceLT, Nat.reduceLeDiff, Nat.zero_lt_succ, Nat.zero_le, Bool.xor_false, Bool.false_xor, Bool.true_xor, List.map_cons, List.map_nil]; subst hq)
  rw [atI_nat, List.getElem?_eq_getElem hj, ofO_some, bd_ret, if_pos (by unfold lineMax; omega), sq_asg (lenlt rfl)]
  have ej : ((j : Int) + 1) = ((j + 1 : Nat) : Int) := by omega
  (generalize hq : exSs (cfK ns (k + 1)) = q; simp only [evE, evT, evP, evTOr, evTAnd, evAnd, evOr, evEs, evSrc, evO, evTs, tr, bd_ret, nex_ret, bd_assoc, bd_no, ofO_some, ofO_none, asB_ret, asB_no, List.getElem?_cons_zero, List.getElem?_cons_succ, anyTy, D.isTy, truth_non, truth_bl, truth_int, truth_lst, truth_tup, asB_bl, asI_int, walk_lst, walk_tup, walk_str, items_lst, items_tup, len_lst, len_tup, len_str, int_int, int_bl, abs_int, list_lst, list_tup, tuple_lst, tuple_tup, all_lst, any_lst, lt_int, le_int, gt_int, ge_int, add_int, sub_int, eq_int, ne_int, ix_lst, ix_tup, sl_lst, sl_tup, rev_tup, rev_lst, at0, at1, at2,  bindT, bindTs, setOwn, slOf_lst, slOf_tup, slOf_int, slOf_bl, slOf_str, slOf_non, slOf_f,  List.set_cons_zero, List.set_cons_succ, List.length_cons, List.length_nil, Env.kill, Env.noOw, isOw_vl, isOw_ow, isOw_no, evs_nil, List.all_cons, List.all_nil, Option.getD_some, Option.getD_none, Option.map_some, Option.map_none, rtM_rt, rtM_nx, Bool.not_true, Bool.not_false, Bool.true_and, Bool.and_true, Bool.false_and, Bool.and_false, Bool.false_eq_true, if_true, if_false, ite_true, ite_false, Nat.reduceAdd, Nat.reduceLT, Nat.reduceLeDiff, Nat.zero_lt_succ, Nat.zero_le, Bool.xor_false, Bool.false_xor, Bool.true_xor, List.map_cons, List.map_nil, ej, cut_to, cut_from]; subst hq)
  rw [add_lst (by rw [List.length_take, List.length_drop]; unfold lineMax; omega), ofO_some, bd_ret, sq_nil]
  refine Dr.ret ⟨rfl, rest.take j ++ rest.drop (j + 1), found ++ [rest[j]], rfl, ?_, ?_⟩
  · rw [List.length_append, List.length_take, List.length_drop]; omega
  · rw [List.append_assoc]
    refine List.Perm.trans (List.Perm.append_left found ?_) h2
    have e : rest.take j ++ rest[j] :: rest.drop (j + 1) = rest := by
      rw [List.getElem_cons_drop, List.take_append_drop]
    have p : ([rest[j]] ++ (rest.take j ++ rest.drop (j + 1))).Perm (rest.take j ++ rest[j] :: rest.drop (j + 1)) := by
      show (rest[j] :: (rest.take j ++ rest.drop (j + 1))).Perm _
      exact List.perm_middle.symm
    rw [e] at p
    exact p
abbrev envM (rows : List D) : Mi.Env := [.vl .box, .vl (.lst rows), .no, .no, .no, .no]
theorem mx1 (rows : List D) : evE (cfK ns (k + 1)) (.bi .list (.var 1)) (envM rows) = M.ret (.lst rows) := by simp only [evE, evT, evP, evTOr, evTAnd, evAnd, evOr, evEs, evSrc, evO, evTs, tr, bd_ret, nex_ret, bd_assoc, bd_no, ofO_some, ofO_none, asB_ret, asB_no, List.getElem?_cons_zero, List.getElem?_cons_succ, anyTy, D.isTy, truth_non, truth_bl, truth_int, truth_lst, truth_tup, asB_bl, asI_int, walk_lst, walk_tup, walk_str, items_lst, items_tup, len_lst, len_tup, len_str, int_int, int_bl, abs_int, list_lst, list_tup, tuple_lst, tuple_tup, all_lst, any_lst, lt_int, le_int, gt_int, ge_int, add_int, sub_int, eq_int, ne_int, ix_lst, ix_tup, sl_lst, sl_tup, rev_tup, rev_lst, at0, at1, at2,  bindT, bindTs, setOwn, slOf_lst, slOf_tup, slOf_int, slOf_bl, slOf_str, slOf_non, slOf_f,  List.set_cons_zero, List.set_cons_succ, List.length_cons, List.length_nil, Env.kill, Env.noOw, isOw_vl, isOw_ow, isOw_no, evs_nil, List.all_cons, List.all_nil, Option.getD_some, Option.getD_none, Option.map_some, Option.map_none, rtM_rt, rtM_nx, Bool.not_true, Bool.not_false, Bool.true_and, Bool.and_true, Bool.false_and, Bool.and_false, Bool.false_eq_true, if_true, if_false, ite_true, ite_false, Nat.reduceAdd, Nat.reduceLT, Nat.reduceLeDiff, Nat.zero_lt_succ, Nat.zero_le, Bool.xor_false, Bool.false_xor, Bool.true_xor, List.map_cons, List.map_nil]
theorem mx2 (rows : List D) : evE (cfK ns (k + 1)) (.lst .nil) (envM rows) = M.ret (.lst []) := by simp only [evE, evT, evP, evTOr, evTAnd, evAnd, evOr, evEs, evSrc, evO, evTs, tr, bd_ret, nex_ret, bd_assoc, bd_no, ofO_some, ofO_none, asB_ret, asB_no, List.getElem?_cons_zero, List.getElem?_cons_succ, anyTy, D.isTy, truth_non, truth_bl, truth_int, truth_lst, truth_tup, asB_bl, asI_int, walk_lst, walk_tup, walk_str, items_lst, items_tup, len_lst, len_tup, len_str, int_int, int_bl, abs_int, list_lst, list_tup, tuple_lst, tuple_tup, all_lst, any_lst, lt_int, le_int, gt_int, ge_int, add_int, sub_int, eq_int, ne_int, ix_lst, ix_tup, sl_lst, sl_tup, rev_tup, rev_lst, at0, at1, at2,  bindT, bindTs, setOwn, slOf_lst, slOf_tup, slOf_int, slOf_bl, slOf_str, slOf_non, slOf_f,  List.set_cons_zero, List.set_cons_succ, List.length_cons, List.length_nil, Env.kill, Env.noOw, isOw_vl, isOw_ow, isOw_no, evs_nil, List.all_cons, List.all_nil, Option.getD_some, Option.getD_none, Option.map_some, Option.map_none, rtM_rt, rtM_nx, Bool.not_true, Bool.not_false, Bool.true_and, Bool.and_true, Bool.false_and, Bool.and_false, Bool.false_eq_true, if_true, if_false, ite_true, ite_false, Nat.reduceAdd, Nat.reduceLT, Nat.reduceLeDiff, Nat.zero_lt_succ, Nat.zero_le, Bool.xor_false, Bool.false_xor, Bool.true_xor, List.map_cons, List.map_nil]
abbrev envM2 (rows : List D) : Mi.Env := ((envM rows).set 3 (slOf false (.lst rows))).set 4 (slOf true (.lst []))
theorem mx3 (rows : List D) : evE (cfK ns (k + 1)) (.bi .len (.var 1)) (envM2 rows) = M.ret (.int rows.length) := by simp only [evE, evT, evP, evTOr, evTAnd, evAnd, evOr, evEs, evSrc, evO, evTs, tr, bd_ret, nex_ret, bd_assoc, bd_no, ofO_some, ofO_none, asB_ret, asB_no, List.getElem?_cons_zero, List.getElem?_cons_succ, anyTy, D.isTy, truth_non, truth_bl, truth_int, truth_lst, truth_tup, asB_bl, asI_int, walk_lst, walk_tup, walk_str, items_lst, items_tup, len_lst, len_tup, len_str, int_int, int_bl, abs_int, list_lst, list_tup, tuple_lst, tuple_tup, all_lst, any_lst, lt_int, le_int, gt_int, ge_int, add_int, sub_int, eq_int, ne_int, ix_lst, ix_tup, sl_lst, sl_tup, rev_tup, rev_lst, at0, at1, at2,  bindT, bindTs, setOwn, slOf_lst, slOf_tup, slOf_int, slOf_bl, slOf_str, slOf_non, slOf_f,  List.set_cons_zero, List.set_cons_succ, List.length_cons, List.length_nil, Env.kill, Env.noOw, isOw_vl, isOw_ow, isOw_no, evs_nil, List.all_cons, List.all_nil, Option.getD_some, Option.getD_none, Option.map_some, Option.map_none, rtM_rt, rtM_nx, Bool.not_true, Bool.not_false, Bool.true_and, Bool.and_true, Bool.false_and, Bool.and_false, Bool.false_eq_true, if_true, if_false, ite_true, ite_false, Nat.reduceAdd, Nat.reduceLT, Nat.reduceLeDiff, Nat.zero_lt_succ, Nat.zero_le, Bool.xor_false, Bool.false_xor, Bool.true_xor, List.map_cons, List.map_nil, envM2, envM]
theorem mx4 (rows : List D) : run prog ns (k + 2) 11 [.box, .lst rows] = (exSs (cfK ns (k + 1)) b_l_mixed (envM rows)).bd rtM := rfl
theorem tailM_eq (rows found : List D) : (exSs (cfK ns (k + 1)) tailM [.vl .box, .vl (.lst rows), .no, .vl (.lst []), .ow (.lst found), .no]) = M.ret (.rt (.lst found), [.vl .box, .vl (.lst rows), .no, .vl (.lst []), .vl (.lst found), .no]) := by
  rw [tailM, sq_share rfl, sq_ret]
  simp only [evE, evT, evP, evTOr, evTAnd, evAnd, evOr, evEs, evSrc, evO, evTs, tr, bd_ret, nex_ret, bd_assoc, bd_no, ofO_some, ofO_none, asB_ret, asB_no, List.getElem?_cons_zero, List.getElem?_cons_succ, anyTy, D.isTy, truth_non, truth_bl, truth_int, truth_lst, truth_tup, asB_bl, asI_int, walk_lst, walk_tup, walk_str, items_lst, items_tup, len_lst, len_tup, len_str, int_int, int_bl, abs_int, list_lst, list_tup, tuple_lst, tuple_tup, all_lst, any_lst, lt_int, le_int, gt_int, ge_int, add_int, sub_int, eq_int, ne_int, ix_lst, ix_tup, sl_lst, sl_tup, rev_tup, rev_lst, at0, at1, at2,  bindT, bindTs, setOwn, slOf_lst, slOf_tup, slOf_int, slOf_bl, slOf_str, slOf_non, slOf_f,  List.set_cons_zero, List.set_cons_succ, List.length_cons, List.length_nil, Env.kill, Env.noOw, isOw_vl, isOw_ow, isOw_no, evs_nil, List.all_cons, List.all_nil, Option.getD_some, Option.getD_none, Option.map_some, Option.map_none, rtM_rt, rtM_nx, Bool.not_true, Bool.not_false, Bool.true_and, Bool.and_true, Bool.false_and, Bool.and_false, Bool.false_eq_true, if_true, if_false, ite_true, ite_false, Nat.reduceAdd, Nat.reduceLT, Nat.reduceLeDiff, Nat.zero_lt_succ, Nat.zero_le, Bool.xor_false, Bool.false_xor, Bool.true_xor, List.map_cons, List.map_nil]
theorem c11 {rows : List D} (hl : rows.length < 1000) : Dr rows.length (run prog ns (k + 2) 11 [.box, .lst rows]) fun v => ∃ xs : List D, v = .lst xs ∧ xs.Perm rows := by
  rw [mx4, b_l_mixed_eq, sq_par (lenlt rfl) (lenlt rfl), mx1, bd_ret, mx2, bd_ret, sq_forA, srcR (n := rows.length) (mx3 rows) (by omega), bd_ret, bd_assoc]
  refine (Dr.rt (forGo_dr (c := 1) (InvM rows) (bodyM_dr (ns := ns) (k := k) hl) (Mi.upTo 0 rows.length) (envM2 rows) ⟨rows, [], rfl, (upTo_len _).symm, List.Perm.refl _⟩) fun p hp => ?_).more (by rw [upTo_len]; omega)
  obtain ⟨fl, e⟩ := p
  obtain ⟨rfl, rest, found, rfl, h1, h2⟩ := hp
  have h1 : rest = [] := List.eq_nil_of_length_eq_zero h1
  subst h1
  rw [List.append_nil] at h2
  rw [aft_nx, tailM_eq, bd_ret, rtM_rt]
  exact Dr.ret ⟨found, rfl, h2⟩
end
end LK
namespace LK
open PySem Mi
section
variable {ns : List Int} {k : Nat}
def srcKd : MSrc := (.it (.sl (.lst (.cons false (.cst (.str ⟨#[100, 101, 112, 116]⟩)) (.cons false (.cst (.str ⟨#[101, 109, 112]⟩)) (.cons false (.cst (.str ⟨#[106, 111, 98]⟩)) .nil)))) .none (.some (.op .add (.cst (.int 1)) (.call 7 (.cons false (.var 0) (.cons false (.cst (.int 3)) .nil)))))))
def colE : ME := (.bi .tuple (.op .add (.lst (.cons false (.cst (.str ⟨#[105, 100]⟩)) .nil)) (.sl (.call 11 (.cons false (.var 0) (.cons false (.lst (.cons false (.cst (.str ⟨#[97]⟩)) (.cons false (.cst (.str ⟨#[98]⟩)) (.cons false (.cst (.str ⟨#[112, 97, 121]⟩)) .nil)))) .nil))) .none (.some (.call 7 (.cons false (.var 0) (.cons false (.cst (.int 4)) .nil)))))))
def bodyTi : MSs := (.cons (.ite (.andE (.cons false (.op .ne (.var 4) (.lst .nil)) (.cons false (.op .eq (.call 7 (.cons false (.var 0) (.cons false (.cst (.int 2)) .nil))) (.cst (.int 0))) .nil)))
 (.cons (.app 5 (.tup (.cons false (.var 6) (.cons false (.call 9 (.cons false (.var 0) (.cons false (.var 4) .nil))) .nil))))
 .nil)
 .nil)
 .nil)
def restKd : MSs := (.cons (.app 1 (.tup (.cons false (.var 2) (.cons false (.var 3) (.cons false (.bi .tuple (.bi .sort (.bor 5))) .nil)))))
 .nil)
def bodyKd : MSs := (.cons (.asg false (.slot 3) colE)
 (.cons (.asg false (.slot 4) (.comp (.ix (.var 6) (.cst (.int 0))) (.slot 6) (.it (.bor 1)) .nil [6]))
 (.cons (.asg true (.slot 5) (.lst .nil))
 (.cons (.for_ (.slot 6) (.it (.sl (.var 3) (.some (.cst (.int 1))) .none)) [] bodyTi)
 restKd))))
def tailKd : MSs := .cons (.ret (.bi .tuple (.bor 1))) .nil
theorem b_l_kinds_eq : b_l_kinds = (.cons (.asg true (.slot 1) (.lst .nil))
 (.cons (.for_ (.slot 2) srcKd [2, 3, 4, 5] bodyKd)
 tailKd)) := rfl
def tags : List Str := [⟨#[100, 101, 112, 116]⟩, ⟨#[101, 109, 112]⟩, ⟨#[106, 111, 98]⟩]
def cA : Str := ⟨#[97]⟩
def cB : Str := ⟨#[98]⟩
def cP : Str := ⟨#[112, 97, 121]⟩
def cI : Str := ⟨#[105, 100]⟩
def perms3 : List (List Str) := [[cA, cB, cP], [cA, cP, cB], [cB, cA, cP], [cB, cP, cA], [cP, cA, cB], [cP, cB, cA]]
def colsAll : List (List Str) := perms3.flatMap fun p => [[cI], cI :: p.take 1, cI :: p.take 2, cI :: p]
theorem perm3 {A B C : D} (h1 : A ≠ B) (h2 : A ≠ C) (h3 : B ≠ C) {xs : List D} (h : xs.Perm [A, B, C]) : xs = [A, B, C] ∨ xs = [A, C, B] ∨ xs = [B, A, C] ∨ xs = [B, C, A] ∨ xs = [C, A, B] ∨ xs = [C, B, A] := by
  have hl := h.length_eq
  have nd : xs.Nodup := h.nodup_iff.mpr (by simp [h1, h2, h3])
  match xs, hl with
  | [x, y, z], _ =>
    have hx : x ∈ [A, B, C] := h.mem_iff.mp (by simp)
    have hy : y ∈ [A, B, C] := h.mem_iff.mp (by simp)
    have hz : z ∈ [A, B, C] := h.mem_iff.mp (by simp)
    simp only [List.mem_cons, List.not_mem_nil, or_false] at hx hy hz
    simp only [List.nodup_cons, List.mem_cons, List.not_mem_nil, or_false, not_or, not_false_eq_true, List.nodup_nil, and_true] at nd
    obtain ⟨⟨n1, n2⟩, n3⟩ := nd
    rcases hx with rfl | rfl | rfl <;> rcases hy with rfl | rfl | rfl <;> rcases hz with rfl | rfl | rfl <;> simp_all
/-- how many kinds -/
theorem src_dr (s : Mi.Env) : Dr 1 (evSrc (cfK ns (k + 3)) srcKd (.vl .box :: s)) fun ds => ∃ m : Nat, 1 ≤ m ∧ m ≤ 3 ∧ ds = (tags.take m).map .str := by
  rw [srcKd]
  simp only [evE, evT, evP, evTOr, evTAnd, evAnd, evOr, evEs, evSrc, evO, evTs, tr, bd_ret, nex_ret, bd_assoc, bd_no, ofO_some, ofO_none, asB_ret, asB_no, List.getElem?_cons_zero, List.getElem?_cons_succ, anyTy, D.isTy, truth_non, truth_bl, truth_int, truth_lst, truth_tup, asB_bl, asI_int, walk_lst, walk_tup, walk_str, items_lst, items_tup, len_lst, len_tup, len_str, int_int, int_bl, abs_int, list_lst, list_tup, tuple_lst, tuple_tup, all_lst, any_lst, lt_int, le_int, gt_int, ge_int, add_int, sub_int, eq_int, ne_int, ix_lst, ix_tup, sl_lst, sl_tup, rev_tup, rev_lst, at0, at1, at2,  bindT, bindTs, setOwn, slOf_lst, slOf_tup, slOf_int, slOf_bl, slOf_str, slOf_non, slOf_f,  List.set_cons_zero, List.set_cons_succ, List.length_cons, List.length_nil, Env.kill, Env.noOw, isOw_vl, isOw_ow, isOw_no, evs_nil, List.all_cons, List.all_nil, Option.getD_some, Option.getD_none, Option.map_some, Option.map_none, rtM_rt, rtM_nx, Bool.not_true, Bool.not_false, Bool.true_and, Bool.and_true, Bool.false_and, Bool.and_false, Bool.false_eq_true, if_true, if_false, ite_true, ite_false, Nat.reduceAdd, Nat.reduceLT, Nat.reduceLeDiff, Nat.zero_lt_succ, Nat.zero_le, Bool.xor_false, Bool.false_xor, Bool.true_xor, List.map_cons, List.map_nil]
  rw [if_pos (show 3 ≤ lineMax by unfold lineMax; omega), bd_ret]
  refine Dr.rt (c7 (ns := ns) (k := k + 2) (show (0 : Int) < 3 by omega) (by omega)) fun v ⟨i, hv, i0, i1⟩ => ?_
  subst hv
  obtain ⟨j, rfl⟩ : ∃ j : Nat, i = j := ⟨i.toNat, by omega⟩
  have ej : (1 + (j : Int)) = ((j + 1 : Nat) : Int) := by omega
  simp only [evE, evT, evP, evTOr, evTAnd, evAnd, evOr, evEs, evSrc, evO, evTs, tr, bd_ret, nex_ret, bd_assoc, bd_no, ofO_some, ofO_none, asB_ret, asB_no, List.getElem?_cons_zero, List.getElem?_cons_succ, anyTy, D.isTy, truth_non, truth_bl, truth_int, truth_lst, truth_tup, asB_bl, asI_int, walk_lst, walk_tup, walk_str, items_lst, items_tup, len_lst, len_tup, len_str, int_int, int_bl, abs_int, list_lst, list_tup, tuple_lst, tuple_tup, all_lst, any_lst, lt_int, le_int, gt_int, ge_int, add_int, sub_int, eq_int, ne_int, ix_lst, ix_tup, sl_lst, sl_tup, rev_tup, rev_lst, at0, at1, at2,  bindT, bindTs, setOwn, slOf_lst, slOf_tup, slOf_int, slOf_bl, slOf_str, slOf_non, slOf_f,  List.set_cons_zero, List.set_cons_succ, List.length_cons, List.length_nil, Env.kill, Env.noOw, isOw_vl, isOw_ow, isOw_no, evs_nil, List.all_cons, List.all_nil, Option.getD_some, Option.getD_none, Option.map_some, Option.map_none, rtM_rt, rtM_nx, Bool.not_true, Bool.not_false, Bool.true_and, Bool.and_true, Bool.false_and, Bool.and_false, Bool.false_eq_true, if_true, if_false, ite_true, ite_false, Nat.reduceAdd, Nat.reduceLT, Nat.reduceLeDiff, Nat.zero_lt_succ, Nat.zero_le, Bool.xor_false, Bool.false_xor, Bool.true_xor, List.map_cons, List.map_nil, ej, cut_to]
  refine Dr.ret ⟨j + 1, by omega, by omega, ?_⟩
  rw [List.map_take]
  rfl
theorem col_dr (s : Mi.Env) : Dr 4 (evE (cfK ns (k + 3)) colE (.vl .box :: s)) fun v => ∃ cols ∈ colsAll, v = .tup (cols.map .str) := by
  rw [colE]
  simp only [evE, evT, evP, evTOr, evTAnd, evAnd, evOr, evEs, evSrc, evO, evTs, tr, bd_ret, nex_ret, bd_assoc, bd_no, ofO_some, ofO_none, asB_ret, asB_no, List.getElem?_cons_zero, List.getElem?_cons_succ, anyTy, D.isTy, truth_non, truth_bl, truth_int, truth_lst, truth_tup, asB_bl, asI_int, walk_lst, walk_tup, walk_str, items_lst, items_tup, len_lst, len_tup, len_str, int_int, int_bl, abs_int, list_lst, list_tup, tuple_lst, tuple_tup, all_lst, any_lst, lt_int, le_int, gt_int, ge_int, add_int, sub_int, eq_int, ne_int, ix_lst, ix_tup, sl_lst, sl_tup, rev_tup, rev_lst, at0, at1, at2,  bindT, bindTs, setOwn, slOf_lst, slOf_tup, slOf_int, slOf_bl, slOf_str, slOf_non, slOf_f,  List.set_cons_zero, List.set_cons_succ, List.length_cons, List.length_nil, Env.kill, Env.noOw, isOw_vl, isOw_ow, isOw_no, evs_nil, List.all_cons, List.all_nil, Option.getD_some, Option.getD_none, Option.map_some, Option.map_none, rtM_rt, rtM_nx, Bool.not_true, Bool.not_false, Bool.true_and, Bool.and_true, Bool.false_and, Bool.and_false, Bool.false_eq_true, if_true, if_false, ite_true, ite_false, Nat.reduceAdd, Nat.reduceLT, Nat.reduceLeDiff, Nat.zero_lt_succ, Nat.zero_le, Bool.xor_false, Bool.false_xor, Bool.true_xor, List.map_cons, List.map_nil]
  rw [if_pos (show 1 ≤ lineMax by unfold lineMax; omega), bd_ret, if_pos (show 3 ≤ lineMax by unfold lineMax; omega), bd_ret]
  refine (Dr.bd (c11 (ns := ns) (k := k + 1) (rows := [.str ⟨#[97]⟩, .str ⟨#[98]⟩, .str ⟨#[112, 97, 121]⟩]) (by simp only [List.length_cons, List.length_nil]; omega)) fun v ⟨xs, hv, hp⟩ => ?_).more (n := 3 + 1) (by omega)
  subst hv
  refine Dr.rt (c7 (ns := ns) (k := k + 2) (show (0 : Int) < 4 by omega) (by omega)) fun v ⟨i, hv, i0, i1⟩ => ?_
  subst hv
  obtain ⟨j, rfl⟩ : ∃ j : Nat, i = j := ⟨i.toNat, by omega⟩
  have hj : j < 4 := by omega
  have hl := hp.length_eq
  simp only [List.length_cons, List.length_nil] at hl
  simp only [evE, evT, evP, evTOr, evTAnd, evAnd, evOr, evEs, evSrc, evO, evTs, tr, bd_ret, nex_ret, bd_assoc, bd_no, ofO_some, ofO_none, asB_ret, asB_no, List.getElem?_cons_zero, List.getElem?_cons_succ, anyTy, D.isTy, truth_non, truth_bl, truth_int, truth_lst, truth_tup, asB_bl, asI_int, walk_lst, walk_tup, walk_str, items_lst, items_tup, len_lst, len_tup, len_str, int_int, int_bl, abs_int, list_lst, list_tup, tuple_lst, tuple_tup, all_lst, any_lst, lt_int, le_int, gt_int, ge_int, add_int, sub_int, eq_int, ne_int, ix_lst, ix_tup, sl_lst, sl_tup, rev_tup, rev_lst, at0, at1, at2,  bindT, bindTs, setOwn, slOf_lst, slOf_tup, slOf_int, slOf_bl, slOf_str, slOf_non, slOf_f,  List.set_cons_zero, List.set_cons_succ, List.length_cons, List.length_nil, Env.kill, Env.noOw, isOw_vl, isOw_ow, isOw_no, evs_nil, List.all_cons, List.all_nil, Option.getD_some, Option.getD_none, Option.map_some, Option.map_none, rtM_rt, rtM_nx, Bool.not_true, Bool.not_false, Bool.true_and, Bool.and_true, Bool.false_and, Bool.and_false, Bool.false_eq_true, if_true, if_false, ite_true, ite_false, Nat.reduceAdd, Nat.reduceLT, Nat.reduceLeDiff, Nat.zero_lt_succ, Nat.zero_le, Bool.xor_false, Bool.false_xor, Bool.true_xor, List.map_cons, List.map_nil, cut_to]
  rw [add_lst (by rw [List.length_take]; simp only [List.length_cons, List.length_nil]; unfold lineMax; omega)]
  simp only [evE, evT, evP, evTOr, evTAnd, evAnd, evOr, evEs, evSrc, evO, evTs, tr, bd_ret, nex_ret, bd_assoc, bd_no, ofO_some, ofO_none, asB_ret, asB_no, List.getElem?_cons_zero, List.getElem?_cons_succ, anyTy, D.isTy, truth_non, truth_bl, truth_int, truth_lst, truth_tup, asB_bl, asI_int, walk_lst, walk_tup, walk_str, items_lst, items_tup, len_lst, len_tup, len_str, int_int, int_bl, abs_int, list_lst, list_tup, tuple_lst, tuple_tup, all_lst, any_lst, lt_int, le_int, gt_int, ge_int, add_int, sub_int, eq_int, ne_int, ix_lst, ix_tup, sl_lst, sl_tup, rev_tup, rev_lst, at0, at1, at2,  bindT, bindTs, setOwn, slOf_lst, slOf_tup, slOf_int, slOf_bl, slOf_str, slOf_non, slOf_f,  List.set_cons_zero, List.set_cons_succ, List.length_cons, List.length_nil, Env.kill, Env.noOw, isOw_vl, isOw_ow, isOw_no, evs_nil, List.all_cons, List.all_nil, Option.getD_some, Option.getD_none, Option.map_some, Option.map_none, rtM_rt, rtM_nx, Bool.not_true, Bool.not_false, Bool.true_and, Bool.and_true, Bool.false_and, Bool.and_false, Bool.false_eq_true, if_true, if_false, ite_true, ite_false, Nat.reduceAdd, Nat.reduceLT, Nat.reduceLeDiff, Nat.zero_lt_succ, Nat.zero_le, Bool.xor_false, Bool.false_xor, Bool.true_xor, List.map_cons, List.map_nil]
  refine Dr.ret ?_
  have dA : (D.str ⟨#[97]⟩) ≠ D.str ⟨#[98]⟩ := fun h => by injection h with h; revert h; decide
  have dB : (D.str ⟨#[97]⟩) ≠ D.str ⟨#[112, 97, 121]⟩ := fun h => by injection h with h; revert h; decide
  have dC : (D.str ⟨#[98]⟩) ≠ D.str ⟨#[112, 97, 121]⟩ := fun h => by injection h with h; revert h; decide
  have main : ∀ p ∈ perms3, ∀ j, j < 4 → cI :: p.take j ∈ colsAll ∧ D.tup ([D.str ⟨#[105, 100]⟩] ++ (p.map D.str).take j) = .tup ((cI :: p.take j).map .str) := by
    intro p hp j hj
    refine ⟨?_, by rw [List.map_cons, List.map_take]; rfl⟩
    have hlen : p.length = 3 := by
      have : ∀ p ∈ perms3, p.length = 3 := by decide
      exact this p hp
    refine List.mem_flatMap.mpr ⟨p, hp, ?_⟩
    match j, hj with
    | 0, _ => simp
    | 1, _ => simp
    | 2, _ => simp
    | 3, _ =>
      have e : p.take 3 = p := List.take_of_length_le (by omega)
      simp [e]
  have fin : ∀ p ∈ perms3, xs = p.map .str → ∃ cols ∈ colsAll, D.tup ([D.str ⟨#[105, 100]⟩] ++ xs.take j) = .tup (cols.map .str) := fun p hm e => by
    subst e
    exact ⟨_, main p hm j hj⟩
  rcases perm3 dA dB dC hp with h | h | h | h | h | h
  · exact fin [cA, cB, cP] (by decide) h
  · exact fin [cA, cP, cB] (by decide) h
  · exact fin [cB, cA, cP] (by decide) h
  · exact fin [cB, cP, cA] (by decide) h
  · exact fin [cP, cA, cB] (by decide) h
  · exact fin [cP, cB, cA] (by decide) h
def tieD (p : Str × Str) : D := .tup [.str p.1, .str p.2]
def tiesAll (ahead done : List Str) : List (List (Str × Str)) := done.foldl (fun acc c => acc ++ acc.flatMap fun r => ahead.map fun x => r ++ [(c, x)]) [[]]
theorem ties_snoc (ahead done : List Str) (c : Str) : tiesAll ahead (done ++ [c]) = tiesAll ahead done ++ (tiesAll ahead done).flatMap fun r => ahead.map fun x => r ++ [(c, x)] := by
  unfold tiesAll
  rw [List.foldl_append]
  rfl
structure InvT (tag : Str) (cols ahead : List Str) (ks : List D) (ds : List D) (s : Mi.Env) : Prop where
  ex : ∃ (done rest : List Str) (ties : List (Str × Str)) (s6 : Sl), s = [.vl .box, .ow (.lst ks), .vl (.str tag), .vl (.tup (cols.map .str)), .vl (.lst (ahead.map .str)), .ow (.lst (ties.map tieD)), s6] ∧ done ++ rest = cols.drop 1 ∧ ds = rest.map .str ∧ ties ∈ tiesAll ahead done ∧ ties.length ≤ done.length ∧ s6.isOw = false
theorem tst_dr (ahead : List Str) (s0 s1 s2 s3 s5 s6 : Sl) : Dr 1 (evT (cfK ns (k + 3)) (.andE (.cons false (.op .ne (.var 4) (.lst .nil)) (.cons false (.op .eq (.call 7 (.cons false (.var 0) (.cons false (.cst (.int 2)) .nil))) (.cst (.int 0))) .nil))) [.vl .box, s1, s2, s3, .vl (.lst (ahead.map .str)), s5, s6]) fun b => b = true → ahead ≠ [] := by
  simp only [evE, evT, evP, evTOr, evTAnd, evAnd, evOr, evEs, evSrc, evO, evTs, tr, bd_ret, nex_ret, bd_assoc, bd_no, ofO_some, ofO_none, asB_ret, asB_no, List.getElem?_cons_zero, List.getElem?_cons_succ, anyTy, D.isTy, truth_non, truth_bl, truth_int, truth_lst, truth_tup, asB_bl, asI_int, walk_lst, walk_tup, walk_str, items_lst, items_tup, len_lst, len_tup, len_str, int_int, int_bl, abs_int, list_lst, list_tup, tuple_lst, tuple_tup, all_lst, any_lst, lt_int, le_int, gt_int, ge_int, add_int, sub_int, eq_int, ne_int, ix_lst, ix_tup, sl_lst, sl_tup, rev_tup, rev_lst, at0, at1, at2,  bindT, bindTs, setOwn, slOf_lst, slOf_tup, slOf_int, slOf_bl, slOf_str, slOf_non, slOf_f,  List.set_cons_zero, List.set_cons_succ, List.length_cons, List.length_nil, Env.kill, Env.noOw, isOw_vl, isOw_ow, isOw_no, evs_nil, List.all_cons, List.all_nil, Option.getD_some, Option.getD_none, Option.map_some, Option.map_none, rtM_rt, rtM_nx, Bool.not_true, Bool.not_false, Bool.true_and, Bool.and_true, Bool.false_and, Bool.and_false, Bool.false_eq_true, if_true, if_false, ite_true, ite_false, Nat.reduceAdd, Nat.reduceLT, Nat.reduceLeDiff, Nat.zero_lt_succ, Nat.zero_le, Bool.xor_false, Bool.false_xor, Bool.true_xor, List.map_cons, List.map_nil]
  rw [ne_nil (pyL_strs ahead), ofO_some, bd_ret]
  cases ahead with
  | nil =>
    simp only [evE, evT, evP, evTOr, evTAnd, evAnd, evOr, evEs, evSrc, evO, evTs, tr, bd_ret, nex_ret, bd_assoc, bd_no, ofO_some, ofO_none, asB_ret, asB_no, List.getElem?_cons_zero, List.getElem?_cons_succ, anyTy, D.isTy, truth_non, truth_bl, truth_int, truth_lst, truth_tup, asB_bl, asI_int, walk_lst, walk_tup, walk_str, items_lst, items_tup, len_lst, len_tup, len_str, int_int, int_bl, abs_int, list_lst, list_tup, tuple_lst, tuple_tup, all_lst, any_lst, lt_int, le_int, gt_int, ge_int, add_int, sub_int, eq_int, ne_int, ix_lst, ix_tup, sl_lst, sl_tup, rev_tup, rev_lst, at0, at1, at2,  bindT, bindTs, setOwn, slOf_lst, slOf_tup, slOf_int, slOf_bl, slOf_str, slOf_non, slOf_f,  List.set_cons_zero, List.set_cons_succ, List.length_cons, List.length_nil, Env.kill, Env.noOw, isOw_vl, isOw_ow, isOw_no, evs_nil, List.all_cons, List.all_nil, Option.getD_some, Option.getD_none, Option.map_some, Option.map_none, rtM_rt, rtM_nx, Bool.not_true, Bool.not_false, Bool.true_and, Bool.and_true, Bool.false_and, Bool.and_false, Bool.false_eq_true, if_true, if_false, ite_true, ite_false, Nat.reduceAdd, Nat.reduceLT, Nat.reduceLeDiff, Nat.zero_lt_succ, Nat.zero_le, Bool.xor_false, Bool.false_xor, Bool.true_xor, List.map_cons, List.map_nil, List.isEmpty_nil]
    exact (Dr.ret (fun h => nomatch h)).more (Nat.zero_le _)
  | cons a r =>
    simp only [evE, evT, evP, evTOr, evTAnd, evAnd, evOr, evEs, evSrc, evO, evTs, tr, bd_ret, nex_ret, bd_assoc, bd_no, ofO_some, ofO_none, asB_ret, asB_no, List.getElem?_cons_zero, List.getElem?_cons_succ, anyTy, D.isTy, truth_non, truth_bl, truth_int, truth_lst, truth_tup, asB_bl, asI_int, walk_lst, walk_tup, walk_str, items_lst, items_tup, len_lst, len_tup, len_str, int_int, int_bl, abs_int, list_lst, list_tup, tuple_lst, tuple_tup, all_lst, any_lst, lt_int, le_int, gt_int, ge_int, add_int, sub_int, eq_int, ne_int, ix_lst, ix_tup, sl_lst, sl_tup, rev_tup, rev_lst, at0, at1, at2,  bindT, bindTs, setOwn, slOf_lst, slOf_tup, slOf_int, slOf_bl, slOf_str, slOf_non, slOf_f,  List.set_cons_zero, List.set_cons_succ, List.length_cons, List.length_nil, Env.kill, Env.noOw, isOw_vl, isOw_ow, isOw_no, evs_nil, List.all_cons, List.all_nil, Option.getD_some, Option.getD_none, Option.map_some, Option.map_none, rtM_rt, rtM_nx, Bool.not_true, Bool.not_false, Bool.true_and, Bool.and_true, Bool.false_and, Bool.and_false, Bool.false_eq_true, if_true, if_false, ite_true, ite_false, Nat.reduceAdd, Nat.reduceLT, Nat.reduceLeDiff, Nat.zero_lt_succ, Nat.zero_le, Bool.xor_false, Bool.false_xor, Bool.true_xor, List.map_cons, List.map_nil, List.isEmpty_cons]
    refine Dr.rt (c7 (ns := ns) (k := k + 2) (show (0 : Int) < 2 by omega) (by omega)) fun v ⟨i, hv, i0, i1⟩ => ?_
    subst hv
    simp only [evE, evT, evP, evTOr, evTAnd, evAnd, evOr, evEs, evSrc, evO, evTs, tr, bd_ret, nex_ret, bd_assoc, bd_no, ofO_some, ofO_none, asB_ret, asB_no, List.getElem?_cons_zero, List.getElem?_cons_succ, anyTy, D.isTy, truth_non, truth_bl, truth_int, truth_lst, truth_tup, asB_bl, asI_int, walk_lst, walk_tup, walk_str, items_lst, items_tup, len_lst, len_tup, len_str, int_int, int_bl, abs_int, list_lst, list_tup, tuple_lst, tuple_tup, all_lst, any_lst, lt_int, le_int, gt_int, ge_int, add_int, sub_int, eq_int, ne_int, ix_lst, ix_tup, sl_lst, sl_tup, rev_tup, rev_lst, at0, at1, at2,  bindT, bindTs, setOwn, slOf_lst, slOf_tup, slOf_int, slOf_bl, slOf_str, slOf_non, slOf_f,  List.set_cons_zero, List.set_cons_succ, List.length_cons, List.length_nil, Env.kill, Env.noOw, isOw_vl, isOw_ow, isOw_no, evs_nil, List.all_cons, List.all_nil, Option.getD_some, Option.getD_none, Option.map_some, Option.map_none, rtM_rt, rtM_nx, Bool.not_true, Bool.not_false, Bool.true_and, Bool.and_true, Bool.false_and, Bool.and_false, Bool.false_eq_true, if_true, if_false, ite_true, ite_false, Nat.reduceAdd, Nat.reduceLT, Nat.reduceLeDiff, Nat.zero_lt_succ, Nat.zero_le, Bool.xor_false, Bool.false_xor, Bool.true_xor, List.map_cons, List.map_nil]
    cases (i == 0)
    · exact Dr.ret (fun h => nomatch h)
    · exact Dr.ret (fun _ h => nomatch h)
theorem tie_dr (ahead : List Str) (c : Str) (hne : ahead ≠ []) (hla : ahead.length ≤ 3) (s1 s2 s3 s5 : Sl) : Dr 1 (evE (cfK ns (k + 3)) (.tup (.cons false (.var 6) (.cons false (.call 9 (.cons false (.var 0) (.cons false (.var 4) .nil))) .nil))) [.vl .box, s1, s2, s3, .vl (.lst (ahead.map .str)), s5, .vl (.str c)]) fun v => ∃ x ∈ ahead, v = tieD (c, x) := by
  simp only [evE, evT, evP, evTOr, evTAnd, evAnd, evOr, evEs, evSrc, evO, evTs, tr, bd_ret, nex_ret, bd_assoc, bd_no, ofO_some, ofO_none, asB_ret, asB_no, List.getElem?_cons_zero, List.getElem?_cons_succ, anyTy, D.isTy, truth_non, truth_bl, truth_int, truth_lst, truth_tup, asB_bl, asI_int, walk_lst, walk_tup, walk_str, items_lst, items_tup, len_lst, len_tup, len_str, int_int, int_bl, abs_int, list_lst, list_tup, tuple_lst, tuple_tup, all_lst, any_lst, lt_int, le_int, gt_int, ge_int, add_int, sub_int, eq_int, ne_int, ix_lst, ix_tup, sl_lst, sl_tup, rev_tup, rev_lst, at0, at1, at2,  bindT, bindTs, setOwn, slOf_lst, slOf_tup, slOf_int, slOf_bl, slOf_str, slOf_non, slOf_f,  List.set_cons_zero, List.set_cons_succ, List.length_cons, List.length_nil, Env.kill, Env.noOw, isOw_vl, isOw_ow, isOw_no, evs_nil, List.all_cons, List.all_nil, Option.getD_some, Option.getD_none, Option.map_some, Option.map_none, rtM_rt, rtM_nx, Bool.not_true, Bool.not_false, Bool.true_and, Bool.and_true, Bool.false_and, Bool.and_false, Bool.false_eq_true, if_true, if_false, ite_true, ite_false, Nat.reduceAdd, Nat.reduceLT, Nat.reduceLeDiff, Nat.zero_lt_succ, Nat.zero_le, Bool.xor_false, Bool.false_xor, Bool.true_xor, List.map_cons, List.map_nil]
  refine Dr.rt (c9 (ns := ns) (k := k + 1) (xs := ahead.map .str) (by simp [hne]) (by rw [List.length_map]; omega)) fun v hv => ?_
  obtain ⟨x, hx, rfl⟩ := List.mem_map.mp hv
  rw [if_pos (show 2 ≤ lineMax by unfold lineMax; omega)]
  exact Dr.ret ⟨x, hx, rfl⟩
theorem bodyTi_dr {tag : Str} {cols ahead : List Str} {ks : List D} (hla : ahead.length ≤ 3) (hlc : cols.length ≤ 4) (d : D) (ds : List D) (s : Mi.Env) (h : InvT tag cols ahead ks (d :: ds) s) : ∃ s1, bindT (.slot 6) d s = some s1 ∧ Dr 2 (exSs (cfK ns (k + 3)) bodyTi s1) fun p => p.1 = .nx ∧ InvT tag cols ahead ks ds (p.2.kill []) := by
  obtain ⟨done, rest, ties, s6, rfl, h1, h2, h3, h4, h5⟩ := h.ex
  cases rest with
  | nil => cases h2
  | cons c rest =>
    rw [List.map_cons] at h2
    injection h2 with h2 h2'
    subst h2
    subst h2'
    have hdl : done.length ≤ 4 := by
      have := congrArg List.length h1
      rw [List.length_append, List.length_drop] at this
      omega
    have e1 : (done ++ [c]) ++ rest = cols.drop 1 := by rw [← h1, List.append_assoc]; rfl
    refine ⟨[.vl .box, .ow (.lst ks), .vl (.str tag), .vl (.tup (cols.map .str)), .vl (.lst (ahead.map .str)), .ow (.lst (ties.map tieD)), .vl (.str c)], rfl, ?_⟩
    rw [bodyTi, sq_iteA]
    refine (Dr.bd (tst_dr (ns := ns) (k := k) ahead .no _ _ _ _ _) fun b hb => ?_).more (n := 1 + 1) (by omega)
    cases b with
    | false =>
      rw [ff_eq, sq_nil, bd_ret, aft_nx, sq_nil]
      refine (Dr.ret ⟨rfl, ⟨done ++ [c], rest, ties, .vl (.str c), rfl, e1, rfl, ?_, ?_, rfl⟩⟩).more (Nat.zero_le _)
      · rw [ties_snoc]; exact List.mem_append_left _ h3
      · rw [List.length_append]; omega
    | true =>
      rw [tt_eq, sq_app rfl, bd_assoc]
      refine Dr.rt (tie_dr (ns := ns) (k := k) ahead c (hb rfl) hla _ _ _ _) fun v ⟨x, hx, hv⟩ => ?_
      subst hv
      rw [if_pos (by rw [List.length_map]; unfold lineMax; omega), sq_nil, bd_ret, aft_nx, sq_nil]
      refine Dr.ret ⟨rfl, ⟨done ++ [c], rest, ties ++ [(c, x)], .vl (.str c), ?_, e1, rfl, ?_, ?_, rfl⟩⟩
      · rw [List.map_append]; rfl
      · rw [ties_snoc]
        exact List.mem_append_right _ (List.mem_flatMap.mpr ⟨ties, h3, List.mem_map.mpr ⟨x, hx, rfl⟩⟩)
      · rw [List.length_append, List.length_append]; simp only [List.length_cons, List.length_nil]; omega
mutual
/-- no list or tuple in it is longer than n -/
def sz (n : Nat) : D → Bool
  | .tup xs => decide (xs.length ≤ n) && szL n xs
  | .lst xs => decide (xs.length ≤ n) && szL n xs
  | _ => true
def szL (n : Nat) : List D → Bool
  | [] => true
  | x :: xs => sz n x && szL n xs
end
def kindOf (tag : Str) (cols : List Str) (ties : List (Str × Str)) : D := .tup [.str tag, .tup (cols.map .str), .tup (sortD (ties.map tieD))]
def kindChk (ahead : List Str) (tag : Str) (cols : List Str) (ties : List (Str × Str)) : Bool :=
  sortOk (ties.map tieD) && isKind ahead (kindOf tag cols ties) && D.py (kindOf tag cols ties) && sz 4 (kindOf tag cols ties) && decide (D.dep (kindOf tag cols ties) ≤ 3)
theorem all_kinds : ([0, 1, 2].all fun j => colsAll.all fun cols => (tiesAll (tags.take j) (cols.drop 1)).all fun ties => kindChk (tags.take j) (tags.getD j Str.empty) cols ties) = true := by kernel_rfl
theorem kind_chk {j : Nat} (hj : j < 3) {cols : List Str} (hc : cols ∈ colsAll) {ties : List (Str × Str)} (ht : ties ∈ tiesAll (tags.take j) (cols.drop 1)) : kindChk (tags.take j) (tags.getD j Str.empty) cols ties = true := by
  have h1 := List.all_eq_true.mp all_kinds j (by simp only [List.mem_cons, List.not_mem_nil, or_false]; omega)
  have h2 := List.all_eq_true.mp h1 cols hc
  exact List.all_eq_true.mp h2 ties ht
theorem goK_snoc : ∀ (ks : List D) (ahead : List Str) (q : D), goK ahead (ks ++ [q]) = (goK ahead ks && isKind (ahead ++ ks.map kn) q)
  | [], ahead, q => by simp [goK]
  | d :: ds, ahead, q => by
    rw [List.cons_append, goK, goK_snoc ds, goK, List.map_cons, Bool.and_assoc, List.append_assoc]
    rfl
theorem goK_shape : ∀ {ks : List D} {ahead : List Str}, goK ahead ks = true → ∀ q ∈ ks, ∃ r, q = .tup (.str (kn q) :: r)
  | [], _, _, _, h => nomatch h
  | d :: ds, ahead, h, q, hq => by
    rw [goK, Bool.and_eq_true] at h
    rcases List.mem_cons.mp hq with rfl | hq
    · exact kind_shape h.1
    · exact goK_shape h.2 q hq
theorem set7_3 (a b c d e f g v : Sl) : [a, b, c, d, e, f, g].set 3 v = [a, b, c, v, e, f, g] := rfl
theorem set7_4 (a b c d e f g v : Sl) : [a, b, c, d, e, f, g].set 4 v = [a, b, c, d, v, f, g] := rfl
theorem set7_5 (a b c d e f g v : Sl) : [a, b, c, d, e, f, g].set 5 v = [a, b, c, d, e, v, g] := rfl
theorem set7_1 (a b c d e f g v : Sl) : [a, b, c, d, e, f, g].set 1 v = [a, v, c, d, e, f, g] := rfl
theorem slOf_own (xs : List D) : slOf true (.lst xs) = .ow (.lst xs) := rfl
theorem lst_nil (c : Cfg) (s : Mi.Env) : evE c (.lst .nil) s = M.ret (.lst []) := by simp only [evE, evT, evP, evTOr, evTAnd, evAnd, evOr, evEs, evSrc, evO, evTs, tr, bd_ret, nex_ret, bd_assoc, bd_no, ofO_some, ofO_none, asB_ret, asB_no, List.getElem?_cons_zero, List.getElem?_cons_succ, anyTy, D.isTy, truth_non, truth_bl, truth_int, truth_lst, truth_tup, asB_bl, asI_int, walk_lst, walk_tup, walk_str, items_lst, items_tup, len_lst, len_tup, len_str, int_int, int_bl, abs_int, list_lst, list_tup, tuple_lst, tuple_tup, all_lst, any_lst, lt_int, le_int, gt_int, ge_int, add_int, sub_int, eq_int, ne_int, ix_lst, ix_tup, sl_lst, sl_tup, rev_tup, rev_lst, at0, at1, at2,  bindT, bindTs, setOwn, slOf_lst, slOf_tup, slOf_int, slOf_bl, slOf_str, slOf_non, slOf_f,  List.set_cons_zero, List.set_cons_succ, List.length_cons, List.length_nil, Env.kill, Env.noOw, isOw_vl, isOw_ow, isOw_no, evs_nil, List.all_cons, List.all_nil, Option.getD_some, Option.getD_none, Option.map_some, Option.map_none, rtM_rt, rtM_nx, Bool.not_true, Bool.not_false, Bool.true_and, Bool.and_true, Bool.false_and, Bool.and_false, Bool.false_eq_true, if_true, if_false, ite_true, ite_false, Nat.reduceAdd, Nat.reduceLT, Nat.reduceLeDiff, Nat.zero_lt_succ, Nat.zero_le, Bool.xor_false, Bool.false_xor, Bool.true_xor, List.map_cons, List.map_nil]
theorem ahead_val {ks : List D} (h : goK [] ks = true) (hl : ks.length ≤ 3) {s0 s2 s3 s4 s5 s6 : Sl} (h6 : s6.isOw = false) (c : Cfg) : evE c (.comp (.ix (.var 6) (.cst (.int 0))) (.slot 6) (.it (.bor 1)) .nil [6]) [s0, .ow (.lst ks), s2, s3, s4, s5, s6] = M.ret (.lst ((ks.map kn).map .str)) := by
  simp only [evE, evT, evP, evTOr, evTAnd, evAnd, evOr, evEs, evSrc, evO, evTs, tr, bd_ret, nex_ret, bd_assoc, bd_no, ofO_some, ofO_none, asB_ret, asB_no, List.getElem?_cons_zero, List.getElem?_cons_succ, anyTy, D.isTy, truth_non, truth_bl, truth_int, truth_lst, truth_tup, asB_bl, asI_int, walk_lst, walk_tup, walk_str, items_lst, items_tup, len_lst, len_tup, len_str, int_int, int_bl, abs_int, list_lst, list_tup, tuple_lst, tuple_tup, all_lst, any_lst, lt_int, le_int, gt_int, ge_int, add_int, sub_int, eq_int, ne_int, ix_lst, ix_tup, sl_lst, sl_tup, rev_tup, rev_lst, at0, at1, at2,  bindT, bindTs, setOwn, slOf_lst, slOf_tup, slOf_int, slOf_bl, slOf_str, slOf_non, slOf_f,  List.set_cons_zero, List.set_cons_succ, List.length_cons, List.length_nil, Env.kill, Env.noOw, isOw_vl, isOw_ow, isOw_no, evs_nil, List.all_cons, List.all_nil, Option.getD_some, Option.getD_none, Option.map_some, Option.map_none, rtM_rt, rtM_nx, Bool.not_true, Bool.not_false, Bool.true_and, Bool.and_true, Bool.false_and, Bool.and_false, Bool.false_eq_true, if_true, if_false, ite_true, ite_false, Nat.reduceAdd, Nat.reduceLT, Nat.reduceLeDiff, Nat.zero_lt_succ, Nat.zero_le, Bool.xor_false, Bool.false_xor, Bool.true_xor, List.map_cons, List.map_nil, h6]
  have := comp_mapD (K := M.ret) (f := fun d => ((ixM d (D.int 0)).bd fun x => M.ret (some x))) (g := fun d => D.str (kn d)) (ds := ks) (fun d hd => by
    obtain ⟨r, e⟩ := goK_shape h d hd
    generalize kn d = x at e
    subst e
    rw [ix_tup, at0]
    rfl) (by unfold lineMax; omega)
  simp only [bd_id] at this
  exact this.trans (by rw [List.map_map]; rfl)
theorem cols_val {cols : List Str} {s0 s1 s2 s4 s5 s6 : Sl} (c : Cfg) : evSrc c (.it (.sl (.var 3) (.some (.cst (.int 1))) .none)) [s0, s1, s2, .vl (.tup (cols.map .str)), s4, s5, s6] = M.ret ((cols.drop 1).map .str) := by
  simp only [evE, evT, evP, evTOr, evTAnd, evAnd, evOr, evEs, evSrc, evO, evTs, tr, bd_ret, nex_ret, bd_assoc, bd_no, ofO_some, ofO_none, asB_ret, asB_no, List.getElem?_cons_zero, List.getElem?_cons_succ, anyTy, D.isTy, truth_non, truth_bl, truth_int, truth_lst, truth_tup, asB_bl, asI_int, walk_lst, walk_tup, walk_str, items_lst, items_tup, len_lst, len_tup, len_str, int_int, int_bl, abs_int, list_lst, list_tup, tuple_lst, tuple_tup, all_lst, any_lst, lt_int, le_int, gt_int, ge_int, add_int, sub_int, eq_int, ne_int, ix_lst, ix_tup, sl_lst, sl_tup, rev_tup, rev_lst, at0, at1, at2,  bindT, bindTs, setOwn, slOf_lst, slOf_tup, slOf_int, slOf_bl, slOf_str, slOf_non, slOf_f,  List.set_cons_zero, List.set_cons_succ, List.length_cons, List.length_nil, Env.kill, Env.noOw, isOw_vl, isOw_ow, isOw_no, evs_nil, List.all_cons, List.all_nil, Option.getD_some, Option.getD_none, Option.map_some, Option.map_none, rtM_rt, rtM_nx, Bool.not_true, Bool.not_false, Bool.true_and, Bool.and_true, Bool.false_and, Bool.and_false, Bool.false_eq_true, if_true, if_false, ite_true, ite_false, Nat.reduceAdd, Nat.reduceLT, Nat.reduceLeDiff, Nat.zero_lt_succ, Nat.zero_le, Bool.xor_false, Bool.false_xor, Bool.true_xor, List.map_cons, List.map_nil, cut1, ← List.map_drop]
theorem kind_val {tag : Str} {cols : List Str} {ties : List (Str × Str)} {s0 s1 s4 s6 : Sl} (c : Cfg) (h : sortOk (ties.map tieD) = true) (hl : ties.length ≤ 10) : evE c (.tup (.cons false (.var 2) (.cons false (.var 3) (.cons false (.bi .tuple (.bi .sort (.bor 5))) .nil)))) [s0, s1, .vl (.str tag), .vl (.tup (cols.map .str)), s4, .ow (.lst (ties.map tieD)), s6] = M.ret (kindOf tag cols ties) := by
  have e : evBi .sort (.lst (ties.map tieD)) = some (.lst (sortD (ties.map tieD))) := by
    show (if sortOk (ties.map tieD) && decide ((ties.map tieD).length ≤ lineMax) then some (D.lst (sortD (ties.map tieD))) else none) = _
    rw [h, decide_eq_true (show (ties.map tieD).length ≤ lineMax by rw [List.length_map]; unfold lineMax; omega)]
    rfl
  simp only [evE, evT, evP, evTOr, evTAnd, evAnd, evOr, evEs, evSrc, evO, evTs, tr, bd_ret, nex_ret, bd_assoc, bd_no, ofO_some, ofO_none, asB_ret, asB_no, List.getElem?_cons_zero, List.getElem?_cons_succ, anyTy, D.isTy, truth_non, truth_bl, truth_int, truth_lst, truth_tup, asB_bl, asI_int, walk_lst, walk_tup, walk_str, items_lst, items_tup, len_lst, len_tup, len_str, int_int, int_bl, abs_int, list_lst, list_tup, tuple_lst, tuple_tup, all_lst, any_lst, lt_int, le_int, gt_int, ge_int, add_int, sub_int, eq_int, ne_int, ix_lst, ix_tup, sl_lst, sl_tup, rev_tup, rev_lst, at0, at1, at2,  bindT, bindTs, setOwn, slOf_lst, slOf_tup, slOf_int, slOf_bl, slOf_str, slOf_non, slOf_f,  List.set_cons_zero, List.set_cons_succ, List.length_cons, List.length_nil, Env.kill, Env.noOw, isOw_vl, isOw_ow, isOw_no, evs_nil, List.all_cons, List.all_nil, Option.getD_some, Option.getD_none, Option.map_some, Option.map_none, rtM_rt, rtM_nx, Bool.not_true, Bool.not_false, Bool.true_and, Bool.and_true, Bool.false_and, Bool.and_false, Bool.false_eq_true, if_true, if_false, ite_true, ite_false, Nat.reduceAdd, Nat.reduceLT, Nat.reduceLeDiff, Nat.zero_lt_succ, Nat.zero_le, Bool.xor_false, Bool.false_xor, Bool.true_xor, List.map_cons, List.map_nil, e]
  rw [if_pos (show 3 ≤ lineMax by unfold lineMax; omega)]
  rfl
def okK (q : D) : Bool := D.py q && sz 4 q && decide (D.dep q ≤ 3)
structure InvK (m : Nat) (ds : List D) (s : Mi.Env) : Prop where
  ex : ∃ (j : Nat) (ks : List D) (s6 : Sl), s = [.vl .box, .ow (.lst ks), .no, .no, .no, .no, s6] ∧ ds = ((tags.take m).drop j).map .str ∧ ks.length = j ∧ ks.map kn = tags.take j ∧ goK [] ks = true ∧ (∀ q ∈ ks, okK q = true) ∧ j ≤ m ∧ s6.isOw = false
theorem cols_len : ∀ cols ∈ colsAll, cols.length ≤ 4 := by decide
theorem bodyKd_dr {m : Nat} (hm : m ≤ 3) (d : D) (ds : List D) (s : Mi.Env) (h : InvK m (d :: ds) s) : ∃ s1, bindT (.slot 2) d s = some s1 ∧ Dr 10 (exSs (cfK ns (k + 3)) bodyKd s1) fun p => p.1 = .nx ∧ InvK m ds (p.2.kill [2, 3, 4, 5]) := by
  obtain ⟨j, ks, s6, rfl, h1, h2, h3, h4, h5, h6, h7⟩ := h.ex
  have tl : tags.length = 3 := rfl
  have hj : j < m := by
    have := congrArg List.length h1
    rw [List.length_map, List.length_drop, List.length_take, List.length_cons] at this
    omega
  have hd : d = .str (tags.getD j Str.empty) ∧ ds = ((tags.take m).drop (j + 1)).map .str := by
    rw [List.drop_eq_getElem_cons (by rw [List.length_take]; omega), List.map_cons] at h1
    injection h1 with h1 h1'
    refine ⟨?_, h1'⟩
    rw [h1, List.getElem_take, List.getD_eq_getElem?_getD, List.getElem?_eq_getElem (by omega)]
    rfl
  obtain ⟨rfl, hds⟩ := hd
  generalize htag : tags.getD j Str.empty = tag
  refine ⟨[.vl .box, .ow (.lst ks), .vl (.str tag), .no, .no, .no, s6], rfl, ?_⟩
  rw [bodyKd, sq_asg (lenlt rfl)]
  refine (Dr.bd (n2 := 6) (col_dr (ns := ns) (k := k) _) fun v ⟨cols, hc, hv⟩ => ?_).more (n := 4 + 6) (by omega)
  subst hv
  have hcl := cols_len cols hc
  have hk : (tags.take j).length ≤ 3 := by rw [List.length_take]; omega
  rw [set7_3, sq_asg (lenlt rfl), ahead_val h4 (by omega) h7, bd_ret, set7_4, sq_asgO (lenlt rfl), lst_nil, bd_ret, set7_5, slOf_own, sq_forA, cols_val, bd_ret, h3]
  refine (Dr.rt (forGo_dr (c := 2) (InvT tag cols (tags.take j) ks) (bodyTi_dr (ns := ns) (k := k) hk hcl) ((cols.drop 1).map .str) _ ⟨[], cols.drop 1, [], s6, rfl, rfl, rfl, by simp [tiesAll], Nat.le_refl _, h7⟩) fun p hp => ?_).more (by rw [List.length_map, List.length_drop]; omega)
  obtain ⟨fl, e⟩ := p
  obtain ⟨rfl, hi⟩ := hp
  obtain ⟨done, rest, ties, s6', rfl, g1, g2, g3, g4, g5⟩ := hi.ex
  have g2 : rest = [] := by
    cases rest with
    | nil => rfl
    | cons _ _ => cases g2
  subst g2
  rw [List.append_nil] at g1
  subst g1
  have hlt : ties.length ≤ 10 := by rw [List.length_drop] at g4; omega
  have ck := kind_chk (show j < 3 by omega) hc g3
  rw [htag] at ck
  unfold kindChk at ck
  simp only [Bool.and_eq_true] at ck
  obtain ⟨⟨⟨⟨c1, c2⟩, c3⟩, c4⟩, c5⟩ := ck
  rw [aft_nx, restKd, sq_app rfl, kind_val _ c1 hlt, bd_ret, if_pos (by unfold lineMax; omega), set7_1, sq_nil]
  refine Dr.ret ⟨rfl, ⟨j + 1, ks ++ [kindOf tag cols ties], s6', rfl, hds, ?_, ?_, ?_, ?_, by omega, g5⟩⟩
  · rw [List.length_append, h2]; rfl
  · rw [List.map_append, h3, List.take_add_one, ← htag, List.getD_eq_getElem?_getD, List.getElem?_eq_getElem (show j < tags.length by omega)]
    rfl
  · rw [goK_snoc, h4, List.nil_append, h3, c2]; rfl
  · intro q hq
    rcases List.mem_append.mp hq with hq | hq
    · exact h5 q hq
    · rw [List.mem_singleton.mp hq]
      unfold okK
      rw [c3, c4, c5]; rfl
end
end LK
namespace LK
open PySem Mi
section
variable {ns : List Int} {k : Nat}
theorem kx1 : run prog ns (k + 4) 14 [.box] = (exSs (cfK ns (k + 3)) b_l_kinds [.vl .box, .no, .no, .no, .no, .no, .no]).bd rtM := rfl
theorem kx2 (ks : List D) (s0 s2 s3 s4 s5 s6 : Sl) (c : Cfg) : evE c (.bi .tuple (.bor 1)) [s0, .ow (.lst ks), s2, s3, s4, s5, s6] = M.ret (.tup ks) := by simp only [evE, evT, evP, evTOr, evTAnd, evAnd, evOr, evEs, evSrc, evO, evTs, tr, bd_ret, nex_ret, bd_assoc, bd_no, ofO_some, ofO_none, asB_ret, asB_no, List.getElem?_cons_zero, List.getElem?_cons_succ, anyTy, D.isTy, truth_non, truth_bl, truth_int, truth_lst, truth_tup, asB_bl, asI_int, walk_lst, walk_tup, walk_str, items_lst, items_tup, len_lst, len_tup, len_str, int_int, int_bl, abs_int, list_lst, list_tup, tuple_lst, tuple_tup, all_lst, any_lst, lt_int, le_int, gt_int, ge_int, add_int, sub_int, eq_int, ne_int, ix_lst, ix_tup, sl_lst, sl_tup, rev_tup, rev_lst, at0, at1, at2,  bindT, bindTs, setOwn, slOf_lst, slOf_tup, slOf_int, slOf_bl, slOf_str, slOf_non, slOf_f,  List.set_cons_zero, List.set_cons_succ, List.length_cons, List.length_nil, Env.kill, Env.noOw, isOw_vl, isOw_ow, isOw_no, evs_nil, List.all_cons, List.all_nil, Option.getD_some, Option.getD_none, Option.map_some, Option.map_none, rtM_rt, rtM_nx, Bool.not_true, Bool.not_false, Bool.true_and, Bool.and_true, Bool.false_and, Bool.and_false, Bool.false_eq_true, if_true, if_false, ite_true, ite_false, Nat.reduceAdd, Nat.reduceLT, Nat.reduceLeDiff, Nat.zero_lt_succ, Nat.zero_le, Bool.xor_false, Bool.false_xor, Bool.true_xor, List.map_cons, List.map_nil]
theorem okK_L : ∀ {ks : List D}, (∀ q ∈ ks, okK q = true) → D.pyL ks = true ∧ szL 4 ks = true ∧ D.depL ks ≤ 3
  | [], _ => ⟨rfl, rfl, Nat.zero_le _⟩
  | q :: ks, h => by
    obtain ⟨h1, h2, h3⟩ := okK_L (ks := ks) fun x hx => h x (List.mem_cons_of_mem _ hx)
    have h0 := h q (List.mem_cons_self ..)
    unfold okK at h0
    simp only [Bool.and_eq_true, decide_eq_true_eq] at h0
    obtain ⟨⟨a, b⟩, c⟩ := h0
    refine ⟨by simp only [D.pyL, a, h1, Bool.and_true], by simp only [szL, b, h2, Bool.and_true], ?_⟩
    simp only [D.depL]
    omega
theorem c14 : Dr 31 (run prog ns (k + 4) 14 [.box]) fun v => ∃ ks, v = .tup ks ∧ isSch (.tup ks) = true ∧ D.py (.tup ks) = true ∧ sz 4 (.tup ks) = true ∧ D.dep (.tup ks) ≤ 4 := by
  rw [kx1, b_l_kinds_eq, sq_asgO (lenlt rfl), lst_nil, bd_ret, set7_1, slOf_own, sq_forA, bd_assoc]
  refine (Dr.bd (n2 := 30) (src_dr (ns := ns) (k := k) _) fun ds ⟨m, m1, m3, hds⟩ => ?_).more (n := 1 + 30) (by omega)
  subst hds
  rw [bd_assoc]
  have tl : tags.length = 3 := rfl
  refine (Dr.rt (forGo_dr (c := 10) (InvK m) (bodyKd_dr (ns := ns) (k := k) m3) _ _ ⟨0, [], .no, rfl, rfl, rfl, rfl, rfl, (fun _ h => nomatch h), Nat.zero_le _, rfl⟩) fun p hp => ?_).more (by rw [List.length_map, List.length_drop, List.length_take]; omega)
  obtain ⟨fl, e⟩ := p
  obtain ⟨rfl, hi⟩ := hp
  obtain ⟨j, ks, s6, rfl, h1, h2, h3, h4, h5, h6, h7⟩ := hi.ex
  have hj : j = m := by
    have := congrArg List.length h1
    rw [List.length_map, List.length_drop, List.length_take, List.length_nil] at this
    omega
  subst hj
  rw [aft_nx, tailKd, sq_ret, kx2, bd_ret, bd_ret, rtM_rt]
  obtain ⟨q1, q2, q3⟩ := okK_L h5
  refine Dr.ret ⟨ks, rfl, ?_, ?_, ?_, ?_⟩
  · rw [isSch_tup, decide_eq_true (show 1 ≤ ks.length by omega), decide_eq_true (show ks.length ≤ 3 by omega), h4]
    rfl
  · simp only [D.py, q1]
  · simp only [sz, q2, decide_eq_true (show ks.length ≤ 4 by omega), Bool.and_true]
  · simp only [D.dep]; omega
end
end LK
namespace LK
open PySem Mi
section
variable {ns : List Int} {k : Nat}
def tstB : ME := (.andE (.cons false (.isi (.var 1) true [.tuple]) (.cons false (.op .ne (.var 1) (.tup .nil)) (.cons false (.op .gt (.call 7 (.cons false (.var 0) (.cons false (.cst (.int 4)) .nil))) (.cst (.int 0))) .nil))))
def poolB : ME := (.lst (.cons false (.cst (.str ⟨#[]⟩)) (.cons false (.cst (.str ⟨#[105, 100]⟩)) (.cons false (.cst (.str ⟨#[100, 101, 112, 116]⟩)) (.cons false (.cst (.str ⟨#[101, 109, 112]⟩)) (.cons false (.cst (.str ⟨#[65]⟩)) (.cons false (.cst (.str ⟨#[97, 98, 99, 100, 101, 102, 103, 104, 105]⟩)) (.cons false (.cst (.str ⟨#[112, 97, 121]⟩)) (.cons false (.tup .nil) (.cons false (.lst .nil) (.cons false (.cst .non) (.cons false (.cst (.int 0)) (.cons false (.cst (.bl true)) (.cons false (.tup (.cons false (.cst (.str ⟨#[97]⟩)) (.cons false (.cst (.str ⟨#[100, 101, 112, 116]⟩)) .nil))) (.cons false (.tup (.cons false (.cst (.str ⟨#[112, 97, 121]⟩)) (.cons false (.cst (.str ⟨#[101, 109, 112]⟩)) .nil))) .nil)))))))))))))))
def poolB2 : ME := (.op .add (.var 2) (.lst (.cons false (.bi .list (.var 1)) (.cons false (.sl (.var 1) (.some (.cst (.int 1))) .none) (.cons false (.op .add (.var 1) (.sl (.var 1) .none (.some (.cst (.int 1))))) (.cons false (.tup (.cons false (.var 1) .nil)) (.cons false (.rev (.var 1)) (.cons false (.sl (.var 1) .none (.some (.neg (.cst (.int 1))))) .nil))))))))
def resB : ME := (.op .add (.op .add (.sl (.var 1) .none (.some (.var 3))) (.tup (.cons false (.call 15 (.cons false (.var 0) (.cons false (.ix (.var 1) (.var 3)) .nil))) .nil))) (.sl (.var 1) (.some (.op .add (.var 3) (.cst (.int 1)))) .none))
def thenB : MSs := (.cons (.asg false (.slot 3) (.call 7 (.cons false (.var 0) (.cons false (.bi .len (.var 1)) .nil))))
 (.cons (.ret resB)
 .nil))
def tailB : MSs := (.cons (.asg false (.slot 2) poolB)
 (.cons (.ite (.isi (.var 1) true [.tuple])
 (.cons (.asg false (.slot 2) poolB2)
 .nil)
 .nil)
 (.cons (.ret (.call 9 (.cons false (.var 0) (.cons false (.var 2) .nil))))
 .nil)))
theorem b_l_bent_eq : b_l_bent = (.cons (.ite tstB
 thenB
 .nil)
 tailB) := rfl
def poolC : List D := [.str ⟨#[]⟩, .str ⟨#[105, 100]⟩, .str ⟨#[100, 101, 112, 116]⟩, .str ⟨#[101, 109, 112]⟩, .str ⟨#[65]⟩, .str ⟨#[97, 98, 99, 100, 101, 102, 103, 104, 105]⟩, .str ⟨#[112, 97, 121]⟩, .tup [], .lst [], .non, .int 0, .bl true,
  .tup [.str ⟨#[97]⟩, .str ⟨#[100, 101, 112, 116]⟩], .tup [.str ⟨#[112, 97, 121]⟩, .str ⟨#[101, 109, 112]⟩]]
def poolT (xs : List D) : List D := [.lst xs, .tup (xs.drop 1), .tup (xs ++ xs.take 1), .tup [.tup xs], .tup xs.reverse, .tup (cut xs none (some (-1)))]
theorem pool_val (c : Cfg) (s : Mi.Env) : evE c poolB s = M.ret (.lst poolC) := rfl
theorem cut_mem {α : Type} {xs : List α} {l h : Option Int} {x : α} (hx : x ∈ cut xs l h) : x ∈ xs := List.mem_of_mem_drop (List.mem_of_mem_take hx)
theorem cut_len {α : Type} (xs : List α) (l h : Option Int) : (cut xs l h).length ≤ xs.length := by
  unfold cut
  rw [List.length_take, List.length_drop]
  omega
theorem cut1t {α : Type} (xs : List α) : cut xs none (some 1) = xs.take 1 := cut_to xs 1
theorem pool2_val (c : Cfg) {xs : List D} (hl : xs.length < 1000) (s0 s3 : Sl) : evE c poolB2 [s0, .vl (.tup xs), .vl (.lst poolC), s3] = M.ret (.lst (poolC ++ poolT xs)) := by
  rw [poolB2]
  simp only [evE, evT, evP, evTOr, evTAnd, evAnd, evOr, evEs, evSrc, evO, evTs, tr, bd_ret, nex_ret, bd_assoc, bd_no, ofO_some, ofO_none, asB_ret, asB_no, List.getElem?_cons_zero, List.getElem?_cons_succ, anyTy, D.isTy, truth_non, truth_bl, truth_int, truth_lst, truth_tup, asB_bl, asI_int, walk_lst, walk_tup, walk_str, items_lst, items_tup, len_lst, len_tup, len_str, int_int, int_bl, abs_int, list_lst, list_tup, tuple_lst, tuple_tup, all_lst, any_lst, lt_int, le_int, gt_int, ge_int, add_int, sub_int, eq_int, ne_int, ix_lst, ix_tup, sl_lst, sl_tup, rev_tup, rev_lst, at0, at1, at2,  bindT, bindTs, setOwn, slOf_lst, slOf_tup, slOf_int, slOf_bl, slOf_str, slOf_non, slOf_f,  List.set_cons_zero, List.set_cons_succ, List.length_cons, List.length_nil, Env.kill, Env.noOw, isOw_vl, isOw_ow, isOw_no, evs_nil, List.all_cons, List.all_nil, Option.getD_some, Option.getD_none, Option.map_some, Option.map_none, rtM_rt, rtM_nx, Bool.not_true, Bool.not_false, Bool.true_and, Bool.and_true, Bool.false_and, Bool.and_false, Bool.false_eq_true, if_true, if_false, ite_true, ite_false, Nat.reduceAdd, Nat.reduceLT, Nat.reduceLeDiff, Nat.zero_lt_succ, Nat.zero_le, Bool.xor_false, Bool.false_xor, Bool.true_xor, List.map_cons, List.map_nil, cut1, cut1t]
  rw [add_tup (by rw [List.length_take]; unfold lineMax; omega)]
  simp only [evE, evT, evP, evTOr, evTAnd, evAnd, evOr, evEs, evSrc, evO, evTs, tr, bd_ret, nex_ret, bd_assoc, bd_no, ofO_some, ofO_none, asB_ret, asB_no, List.getElem?_cons_zero, List.getElem?_cons_succ, anyTy, D.isTy, truth_non, truth_bl, truth_int, truth_lst, truth_tup, asB_bl, asI_int, walk_lst, walk_tup, walk_str, items_lst, items_tup, len_lst, len_tup, len_str, int_int, int_bl, abs_int, list_lst, list_tup, tuple_lst, tuple_tup, all_lst, any_lst, lt_int, le_int, gt_int, ge_int, add_int, sub_int, eq_int, ne_int, ix_lst, ix_tup, sl_lst, sl_tup, rev_tup, rev_lst, at0, at1, at2,  bindT, bindTs, setOwn, slOf_lst, slOf_tup, slOf_int, slOf_bl, slOf_str, slOf_non, slOf_f,  List.set_cons_zero, List.set_cons_succ, List.length_cons, List.length_nil, Env.kill, Env.noOw, isOw_vl, isOw_ow, isOw_no, evs_nil, List.all_cons, List.all_nil, Option.getD_some, Option.getD_none, Option.map_some, Option.map_none, rtM_rt, rtM_nx, Bool.not_true, Bool.not_false, Bool.true_and, Bool.and_true, Bool.false_and, Bool.and_false, Bool.false_eq_true, if_true, if_false, ite_true, ite_false, Nat.reduceAdd, Nat.reduceLT, Nat.reduceLeDiff, Nat.zero_lt_succ, Nat.zero_le, Bool.xor_false, Bool.false_xor, Bool.true_xor, List.map_cons, List.map_nil]
  rw [if_pos (show 1 ≤ lineMax by unfold lineMax; omega)]
  simp only [evE, evT, evP, evTOr, evTAnd, evAnd, evOr, evEs, evSrc, evO, evTs, tr, bd_ret, nex_ret, bd_assoc, bd_no, ofO_some, ofO_none, asB_ret, asB_no, List.getElem?_cons_zero, List.getElem?_cons_succ, anyTy, D.isTy, truth_non, truth_bl, truth_int, truth_lst, truth_tup, asB_bl, asI_int, walk_lst, walk_tup, walk_str, items_lst, items_tup, len_lst, len_tup, len_str, int_int, int_bl, abs_int, list_lst, list_tup, tuple_lst, tuple_tup, all_lst, any_lst, lt_int, le_int, gt_int, ge_int, add_int, sub_int, eq_int, ne_int, ix_lst, ix_tup, sl_lst, sl_tup, rev_tup, rev_lst, at0, at1, at2,  bindT, bindTs, setOwn, slOf_lst, slOf_tup, slOf_int, slOf_bl, slOf_str, slOf_non, slOf_f,  List.set_cons_zero, List.set_cons_succ, List.length_cons, List.length_nil, Env.kill, Env.noOw, isOw_vl, isOw_ow, isOw_no, evs_nil, List.all_cons, List.all_nil, Option.getD_some, Option.getD_none, Option.map_some, Option.map_none, rtM_rt, rtM_nx, Bool.not_true, Bool.not_false, Bool.true_and, Bool.and_true, Bool.false_and, Bool.and_false, Bool.false_eq_true, if_true, if_false, ite_true, ite_false, Nat.reduceAdd, Nat.reduceLT, Nat.reduceLeDiff, Nat.zero_lt_succ, Nat.zero_le, Bool.xor_false, Bool.false_xor, Bool.true_xor, List.map_cons, List.map_nil]
  rw [if_pos (show 6 ≤ lineMax by unfold lineMax; omega)]
  simp only [evE, evT, evP, evTOr, evTAnd, evAnd, evOr, evEs, evSrc, evO, evTs, tr, bd_ret, nex_ret, bd_assoc, bd_no, ofO_some, ofO_none, asB_ret, asB_no, List.getElem?_cons_zero, List.getElem?_cons_succ, anyTy, D.isTy, truth_non, truth_bl, truth_int, truth_lst, truth_tup, asB_bl, asI_int, walk_lst, walk_tup, walk_str, items_lst, items_tup, len_lst, len_tup, len_str, int_int, int_bl, abs_int, list_lst, list_tup, tuple_lst, tuple_tup, all_lst, any_lst, lt_int, le_int, gt_int, ge_int, add_int, sub_int, eq_int, ne_int, ix_lst, ix_tup, sl_lst, sl_tup, rev_tup, rev_lst, at0, at1, at2,  bindT, bindTs, setOwn, slOf_lst, slOf_tup, slOf_int, slOf_bl, slOf_str, slOf_non, slOf_f,  List.set_cons_zero, List.set_cons_succ, List.length_cons, List.length_nil, Env.kill, Env.noOw, isOw_vl, isOw_ow, isOw_no, evs_nil, List.all_cons, List.all_nil, Option.getD_some, Option.getD_none, Option.map_some, Option.map_none, rtM_rt, rtM_nx, Bool.not_true, Bool.not_false, Bool.true_and, Bool.and_true, Bool.false_and, Bool.and_false, Bool.false_eq_true, if_true, if_false, ite_true, ite_false, Nat.reduceAdd, Nat.reduceLT, Nat.reduceLeDiff, Nat.zero_lt_succ, Nat.zero_le, Bool.xor_false, Bool.false_xor, Bool.true_xor, List.map_cons, List.map_nil]
  rw [add_lst (by show 14 + 6 ≤ lineMax; unfold lineMax; omega)]
  rfl
theorem pyL_iff {xs : List D} : D.pyL xs = true ↔ ∀ d ∈ xs, D.py d = true := ⟨fun h d hd => py_mem h hd, pyL_of⟩
theorem szL_iff {n : Nat} : ∀ {xs : List D}, szL n xs = true ↔ ∀ d ∈ xs, sz n d = true
  | [] => ⟨(fun _ _ h => nomatch h), fun _ => rfl⟩
  | x :: xs => by
    simp only [szL, Bool.and_eq_true, szL_iff (xs := xs), List.mem_cons]
    exact ⟨fun h d hd => hd.elim (fun e => e ▸ h.1) (h.2 d), fun h => ⟨h x (.inl rfl), fun d hd => h d (.inr hd)⟩⟩
mutual
theorem sz_mono {n m : Nat} (h : n ≤ m) : ∀ {d : D}, sz n d = true → sz m d = true := by
  intro d hd
  cases d with
  | tup xs =>
    simp only [sz, Bool.and_eq_true, decide_eq_true_eq] at hd ⊢
    exact ⟨by omega, szL_mono h hd.2⟩
  | lst xs =>
    simp only [sz, Bool.and_eq_true, decide_eq_true_eq] at hd ⊢
    exact ⟨by omega, szL_mono h hd.2⟩
  | _ => rfl
theorem szL_mono {n m : Nat} (h : n ≤ m) : ∀ {xs : List D}, szL n xs = true → szL m xs = true := by
  intro xs hx
  cases xs with
  | nil => rfl
  | cons x xs =>
    simp only [szL, Bool.and_eq_true] at hx ⊢
    exact ⟨sz_mono h hx.1, szL_mono h hx.2⟩
end
def okN (n : Nat) (d : D) : Prop := D.py d = true ∧ sz n d = true
theorem okN_tup {n : Nat} {xs : List D} (hl : xs.length ≤ n) (h : ∀ d ∈ xs, okN n d) : okN n (.tup xs) := by
  refine ⟨?_, ?_⟩
  · simp only [D.py]; exact pyL_iff.mpr fun d hd => (h d hd).1
  · simp only [sz, decide_eq_true hl, Bool.true_and]; exact szL_iff.mpr fun d hd => (h d hd).2
theorem okN_lst {n : Nat} {xs : List D} (hl : xs.length ≤ n) (h : ∀ d ∈ xs, okN n d) : okN n (.lst xs) := by
  refine ⟨?_, ?_⟩
  · simp only [D.py]; exact pyL_iff.mpr fun d hd => (h d hd).1
  · simp only [sz, decide_eq_true hl, Bool.true_and]; exact szL_iff.mpr fun d hd => (h d hd).2
theorem okN_items {n : Nat} {xs : List D} (h : okN n (.tup xs)) : xs.length ≤ n ∧ ∀ d ∈ xs, okN n d := by
  obtain ⟨h1, h2⟩ := h
  simp only [D.py] at h1
  simp only [sz, Bool.and_eq_true, decide_eq_true_eq] at h2
  exact ⟨h2.1, fun d hd => ⟨py_mem h1 hd, szL_iff.mp h2.2 d hd⟩⟩
theorem okN.up {n : Nat} {d : D} (h : okN n d) : okN (n + 1) d := ⟨h.1, sz_mono (Nat.le_succ n) h.2⟩
theorem poolC_ok {n : Nat} (hn : 2 ≤ n) : ∀ d ∈ poolC, okN n d := by
  have h1 : D.pyL poolC = true := by decide
  have h2 : szL 2 poolC = true := by decide
  exact fun d hd => ⟨py_mem h1 hd, sz_mono hn (szL_iff.mp h2 d hd)⟩
theorem poolT_ok {n : Nat} (hn : 2 ≤ n) {xs : List D} (h : okN n (.tup xs)) : ∀ d ∈ poolT xs, okN (n + 1) d := by
  obtain ⟨hl, hi⟩ := okN_items h
  have hi' : ∀ d ∈ xs, okN (n + 1) d := fun d hd => (hi d hd).up
  intro d hd
  simp only [poolT, List.mem_cons, List.not_mem_nil, or_false] at hd
  rcases hd with rfl | rfl | rfl | rfl | rfl | rfl
  · exact okN_lst (by omega) hi'
  · exact okN_tup (by rw [List.length_drop]; omega) fun d hd => hi' d (List.mem_of_mem_drop hd)
  · exact okN_tup (by rw [List.length_append, List.length_take]; omega) fun d hd => (List.mem_append.mp hd).elim (hi' d) fun hd => hi' d (List.mem_of_mem_take hd)
  · exact okN_tup (by simp only [List.length_cons, List.length_nil]; omega) fun d hd => by
      rw [List.mem_singleton.mp hd]; exact h.up
  · exact okN_tup (by rw [List.length_reverse]; omega) fun d hd => hi' d (List.mem_reverse.mp hd)
  · exact okN_tup (Nat.le_trans (cut_len _ _ _) (by omega)) fun d hd => hi' d (cut_mem hd)
end
end LK
namespace LK
open PySem Mi
section
variable {ns : List Int} {k : Nat}
theorem isiT (c : Cfg) (xs : List D) (s0 s2 s3 : Sl) : evT c (.isi (.var 1) true [.tuple]) [s0, .vl (.tup xs), s2, s3] = M.ret true := by simp only [evE, evT, evP, evTOr, evTAnd, evAnd, evOr, evEs, evSrc, evO, evTs, tr, bd_ret, nex_ret, bd_assoc, bd_no, ofO_some, ofO_none, asB_ret, asB_no, List.getElem?_cons_zero, List.getElem?_cons_succ, anyTy, D.isTy, truth_non, truth_bl, truth_int, truth_lst, truth_tup, asB_bl, asI_int, walk_lst, walk_tup, walk_str, items_lst, items_tup, len_lst, len_tup, len_str, int_int, int_bl, abs_int, list_lst, list_tup, tuple_lst, tuple_tup, all_lst, any_lst, lt_int, le_int, gt_int, ge_int, add_int, sub_int, eq_int, ne_int, ix_lst, ix_tup, sl_lst, sl_tup, rev_tup, rev_lst, at0, at1, at2,  bindT, bindTs, setOwn, slOf_lst, slOf_tup, slOf_int, slOf_bl, slOf_str, slOf_non, slOf_f,  List.set_cons_zero, List.set_cons_succ, List.length_cons, List.length_nil, Env.kill, Env.noOw, isOw_vl, isOw_ow, isOw_no, evs_nil, List.all_cons, List.all_nil, Option.getD_some, Option.getD_none, Option.map_some, Option.map_none, rtM_rt, rtM_nx, Bool.not_true, Bool.not_false, Bool.true_and, Bool.and_true, Bool.false_and, Bool.and_false, Bool.false_eq_true, if_true, if_false, ite_true, ite_false, Nat.reduceAdd, Nat.reduceLT, Nat.reduceLeDiff, Nat.zero_lt_succ, Nat.zero_le, Bool.xor_false, Bool.false_xor, Bool.true_xor, List.map_cons, List.map_nil]
theorem isiF (c : Cfg) {d : D} (h : D.py d = true) (hn : ∀ xs, d ≠ .tup xs) (s0 s2 s3 : Sl) : evT c (.isi (.var 1) true [.tuple]) [s0, .vl d, s2, s3] = M.ret false := by
  cases d <;> first | (cases h; done) | exact absurd rfl (hn _) | simp only [evE, evT, evP, evTOr, evTAnd, evAnd, evOr, evEs, evSrc, evO, evTs, tr, bd_ret, nex_ret, bd_assoc, bd_no, ofO_some, ofO_none, asB_ret, asB_no, List.getElem?_cons_zero, List.getElem?_cons_succ, anyTy, D.isTy, truth_non, truth_bl, truth_int, truth_lst, truth_tup, asB_bl, asI_int, walk_lst, walk_tup, walk_str, items_lst, items_tup, len_lst, len_tup, len_str, int_int, int_bl, abs_int, list_lst, list_tup, tuple_lst, tuple_tup, all_lst, any_lst, lt_int, le_int, gt_int, ge_int, add_int, sub_int, eq_int, ne_int, ix_lst, ix_tup, sl_lst, sl_tup, rev_tup, rev_lst, at0, at1, at2,  bindT, bindTs, setOwn, slOf_lst, slOf_tup, slOf_int, slOf_bl, slOf_str, slOf_non, slOf_f,  List.set_cons_zero, List.set_cons_succ, List.length_cons, List.length_nil, Env.kill, Env.noOw, isOw_vl, isOw_ow, isOw_no, evs_nil, List.all_cons, List.all_nil, Option.getD_some, Option.getD_none, Option.map_some, Option.map_none, rtM_rt, rtM_nx, Bool.not_true, Bool.not_false, Bool.true_and, Bool.and_true, Bool.false_and, Bool.and_false, Bool.false_eq_true, if_true, if_false, ite_true, ite_false, Nat.reduceAdd, Nat.reduceLT, Nat.reduceLeDiff, Nat.zero_lt_succ, Nat.zero_le, Bool.xor_false, Bool.false_xor, Bool.true_xor, List.map_cons, List.map_nil]
theorem call9 (P : List D) (s1 s3 : Sl) : evE (cfK ns k) (.call 9 (.cons false (.var 0) (.cons false (.var 2) .nil))) [.vl .box, s1, .vl (.lst P), s3] = run prog ns k 9 [.box, .lst P] := by
  simp only [evE, evT, evP, evTOr, evTAnd, evAnd, evOr, evEs, evSrc, evO, evTs, tr, bd_ret, nex_ret, bd_assoc, bd_no, ofO_some, ofO_none, asB_ret, asB_no, List.getElem?_cons_zero, List.getElem?_cons_succ, anyTy, D.isTy, truth_non, truth_bl, truth_int, truth_lst, truth_tup, asB_bl, asI_int, walk_lst, walk_tup, walk_str, items_lst, items_tup, len_lst, len_tup, len_str, int_int, int_bl, abs_int, list_lst, list_tup, tuple_lst, tuple_tup, all_lst, any_lst, lt_int, le_int, gt_int, ge_int, add_int, sub_int, eq_int, ne_int, ix_lst, ix_tup, sl_lst, sl_tup, rev_tup, rev_lst, at0, at1, at2,  bindT, bindTs, setOwn, slOf_lst, slOf_tup, slOf_int, slOf_bl, slOf_str, slOf_non, slOf_f,  List.set_cons_zero, List.set_cons_succ, List.length_cons, List.length_nil, Env.kill, Env.noOw, isOw_vl, isOw_ow, isOw_no, evs_nil, List.all_cons, List.all_nil, Option.getD_some, Option.getD_none, Option.map_some, Option.map_none, rtM_rt, rtM_nx, Bool.not_true, Bool.not_false, Bool.true_and, Bool.and_true, Bool.false_and, Bool.and_false, Bool.false_eq_true, if_true, if_false, ite_true, ite_false, Nat.reduceAdd, Nat.reduceLT, Nat.reduceLeDiff, Nat.zero_lt_succ, Nat.zero_le, Bool.xor_false, Bool.false_xor, Bool.true_xor, List.map_cons, List.map_nil]
theorem set4_2 (a b c d v : Sl) : [a, b, c, d].set 2 v = [a, b, v, d] := rfl
theorem set4_3 (a b c d v : Sl) : [a, b, c, d].set 3 v = [a, b, c, v] := rfl
theorem tailB_dr {N : Nat} (hN : 2 ≤ N) (hN2 : N < 1000) {d : D} (h : okN N d) (s3 : Sl) : Dr 1 (exSs (cfK ns (k + 2)) tailB [.vl .box, .vl d, .no, s3]) fun p => ∃ v s, p = (.rt v, s) ∧ okN (N + 1) v := by
  have fin : ∀ P : List D, P ≠ [] → P.length < 1000000000 → (∀ v ∈ P, okN (N + 1) v) → ∀ s : Mi.Env, Dr 1 ((run prog ns (k + 2) 9 [.box, .lst P]).bd fun x => M.ret (Mi.Flow.rt x, s)) fun p => ∃ v s, p = (.rt v, s) ∧ okN (N + 1) v := fun P h1 h2 h3 s =>
    Dr.rt (c9 (ns := ns) (k := k) h1 h2) fun v hv => Dr.ret ⟨v, s, rfl, h3 v hv⟩
  rw [tailB, sq_asg (lenlt rfl), pool_val, bd_ret, set4_2, sq_iteA]
  by_cases ht : ∃ xs, d = .tup xs
  · obtain ⟨xs, rfl⟩ := ht
    obtain ⟨hl, hi⟩ := okN_items h
    rw [isiT, bd_ret, tt_eq, sq_asg (lenlt rfl), pool2_val _ (by omega), bd_ret, set4_2, sq_nil, bd_ret, aft_nx, sq_ret, call9]
    exact fin (poolC ++ poolT xs) (by simp [poolC]) (by show 14 + 6 < 1000000000; omega) (fun v hv => (List.mem_append.mp hv).elim (fun hv => poolC_ok (by omega) v hv) (fun hv => poolT_ok hN h v hv)) _
  · rw [isiF _ h.1 (fun xs e => ht ⟨xs, e⟩), bd_ret, ff_eq, sq_nil, bd_ret, aft_nx, sq_ret, call9]
    exact fin poolC (by simp [poolC]) (by show 14 < 1000000000; omega) (fun v hv => poolC_ok (by omega) v hv) _
theorem ne_tup0 {xs : List D} (h : D.pyL xs = true) : evOp .ne (.tup xs) (.tup []) = some (.bl (!xs.isEmpty)) := by
  show (if D.cmp (.tup xs) (.tup []) then some (D.bl (!D.eqv (.tup xs) (.tup []))) else none) = _
  rw [if_pos (by simp [D.cmp, D.py, D.pyL, h, D.dep, D.depL]), D.eqv]
  cases xs <;> rfl
theorem tstB_no (c : Cfg) {d : D} (h : D.py d = true) (hn : ∀ x xs, d ≠ .tup (x :: xs)) (s0 s2 s3 : Sl) : evT c tstB [s0, .vl d, s2, s3] = M.ret false := by
  rw [tstB]
  cases d <;> first | (cases h; done) | skip
  case tup xs =>
    cases xs with
    | cons x xs => exact absurd rfl (hn x xs)
    | nil =>
      simp only [evE, evT, evP, evTOr, evTAnd, evAnd, evOr, evEs, evSrc, evO, evTs, tr, bd_ret, nex_ret, bd_assoc, bd_no, ofO_some, ofO_none, asB_ret, asB_no, List.getElem?_cons_zero, List.getElem?_cons_succ, anyTy, D.isTy, truth_non, truth_bl, truth_int, truth_lst, truth_tup, asB_bl, asI_int, walk_lst, walk_tup, walk_str, items_lst, items_tup, len_lst, len_tup, len_str, int_int, int_bl, abs_int, list_lst, list_tup, tuple_lst, tuple_tup, all_lst, any_lst, lt_int, le_int, gt_int, ge_int, add_int, sub_int, eq_int, ne_int, ix_lst, ix_tup, sl_lst, sl_tup, rev_tup, rev_lst, at0, at1, at2,  bindT, bindTs, setOwn, slOf_lst, slOf_tup, slOf_int, slOf_bl, slOf_str, slOf_non, slOf_f,  List.set_cons_zero, List.set_cons_succ, List.length_cons, List.length_nil, Env.kill, Env.noOw, isOw_vl, isOw_ow, isOw_no, evs_nil, List.all_cons, List.all_nil, Option.getD_some, Option.getD_none, Option.map_some, Option.map_none, rtM_rt, rtM_nx, Bool.not_true, Bool.not_false, Bool.true_and, Bool.and_true, Bool.false_and, Bool.and_false, Bool.false_eq_true, if_true, if_false, ite_true, ite_false, Nat.reduceAdd, Nat.reduceLT, Nat.reduceLeDiff, Nat.zero_lt_succ, Nat.zero_le, Bool.xor_false, Bool.false_xor, Bool.true_xor, List.map_cons, List.map_nil]
      rw [ne_tup0 rfl]
      rfl
  all_goals simp only [evE, evT, evP, evTOr, evTAnd, evAnd, evOr, evEs, evSrc, evO, evTs, tr, bd_ret, nex_ret, bd_assoc, bd_no, ofO_some, ofO_none, asB_ret, asB_no, List.getElem?_cons_zero, List.getElem?_cons_succ, anyTy, D.isTy, truth_non, truth_bl, truth_int, truth_lst, truth_tup, asB_bl, asI_int, walk_lst, walk_tup, walk_str, items_lst, items_tup, len_lst, len_tup, len_str, int_int, int_bl, abs_int, list_lst, list_tup, tuple_lst, tuple_tup, all_lst, any_lst, lt_int, le_int, gt_int, ge_int, add_int, sub_int, eq_int, ne_int, ix_lst, ix_tup, sl_lst, sl_tup, rev_tup, rev_lst, at0, at1, at2,  bindT, bindTs, setOwn, slOf_lst, slOf_tup, slOf_int, slOf_bl, slOf_str, slOf_non, slOf_f,  List.set_cons_zero, List.set_cons_succ, List.length_cons, List.length_nil, Env.kill, Env.noOw, isOw_vl, isOw_ow, isOw_no, evs_nil, List.all_cons, List.all_nil, Option.getD_some, Option.getD_none, Option.map_some, Option.map_none, rtM_rt, rtM_nx, Bool.not_true, Bool.not_false, Bool.true_and, Bool.and_true, Bool.false_and, Bool.and_false, Bool.false_eq_true, if_true, if_false, ite_true, ite_false, Nat.reduceAdd, Nat.reduceLT, Nat.reduceLeDiff, Nat.zero_lt_succ, Nat.zero_le, Bool.xor_false, Bool.false_xor, Bool.true_xor, List.map_cons, List.map_nil]
theorem tstB_dr {x : D} {xs : List D} (h : D.pyL (x :: xs) = true) (s2 s3 : Sl) : Dr 1 (evT (cfK ns (k + 1)) tstB [.vl .box, .vl (.tup (x :: xs)), s2, s3]) fun _ => True := by
  rw [tstB]
  simp only [evE, evT, evP, evTOr, evTAnd, evAnd, evOr, evEs, evSrc, evO, evTs, tr, bd_ret, nex_ret, bd_assoc, bd_no, ofO_some, ofO_none, asB_ret, asB_no, List.getElem?_cons_zero, List.getElem?_cons_succ, anyTy, D.isTy, truth_non, truth_bl, truth_int, truth_lst, truth_tup, asB_bl, asI_int, walk_lst, walk_tup, walk_str, items_lst, items_tup, len_lst, len_tup, len_str, int_int, int_bl, abs_int, list_lst, list_tup, tuple_lst, tuple_tup, all_lst, any_lst, lt_int, le_int, gt_int, ge_int, add_int, sub_int, eq_int, ne_int, ix_lst, ix_tup, sl_lst, sl_tup, rev_tup, rev_lst, at0, at1, at2,  bindT, bindTs, setOwn, slOf_lst, slOf_tup, slOf_int, slOf_bl, slOf_str, slOf_non, slOf_f,  List.set_cons_zero, List.set_cons_succ, List.length_cons, List.length_nil, Env.kill, Env.noOw, isOw_vl, isOw_ow, isOw_no, evs_nil, List.all_cons, List.all_nil, Option.getD_some, Option.getD_none, Option.map_some, Option.map_none, rtM_rt, rtM_nx, Bool.not_true, Bool.not_false, Bool.true_and, Bool.and_true, Bool.false_and, Bool.and_false, Bool.false_eq_true, if_true, if_false, ite_true, ite_false, Nat.reduceAdd, Nat.reduceLT, Nat.reduceLeDiff, Nat.zero_lt_succ, Nat.zero_le, Bool.xor_false, Bool.false_xor, Bool.true_xor, List.map_cons, List.map_nil]
  rw [ne_tup0 h]
  simp only [evE, evT, evP, evTOr, evTAnd, evAnd, evOr, evEs, evSrc, evO, evTs, tr, bd_ret, nex_ret, bd_assoc, bd_no, ofO_some, ofO_none, asB_ret, asB_no, List.getElem?_cons_zero, List.getElem?_cons_succ, anyTy, D.isTy, truth_non, truth_bl, truth_int, truth_lst, truth_tup, asB_bl, asI_int, walk_lst, walk_tup, walk_str, items_lst, items_tup, len_lst, len_tup, len_str, int_int, int_bl, abs_int, list_lst, list_tup, tuple_lst, tuple_tup, all_lst, any_lst, lt_int, le_int, gt_int, ge_int, add_int, sub_int, eq_int, ne_int, ix_lst, ix_tup, sl_lst, sl_tup, rev_tup, rev_lst, at0, at1, at2,  bindT, bindTs, setOwn, slOf_lst, slOf_tup, slOf_int, slOf_bl, slOf_str, slOf_non, slOf_f,  List.set_cons_zero, List.set_cons_succ, List.length_cons, List.length_nil, Env.kill, Env.noOw, isOw_vl, isOw_ow, isOw_no, evs_nil, List.all_cons, List.all_nil, Option.getD_some, Option.getD_none, Option.map_some, Option.map_none, rtM_rt, rtM_nx, Bool.not_true, Bool.not_false, Bool.true_and, Bool.and_true, Bool.false_and, Bool.and_false, Bool.false_eq_true, if_true, if_false, ite_true, ite_false, Nat.reduceAdd, Nat.reduceLT, Nat.reduceLeDiff, Nat.zero_lt_succ, Nat.zero_le, Bool.xor_false, Bool.false_xor, Bool.true_xor, List.map_cons, List.map_nil, List.isEmpty_cons]
  refine Dr.rt (c7 (ns := ns) (k := k) (show (0 : Int) < 4 by omega) (by omega)) fun v ⟨i, hv, i0, i1⟩ => ?_
  subst hv
  simp only [evE, evT, evP, evTOr, evTAnd, evAnd, evOr, evEs, evSrc, evO, evTs, tr, bd_ret, nex_ret, bd_assoc, bd_no, ofO_some, ofO_none, asB_ret, asB_no, List.getElem?_cons_zero, List.getElem?_cons_succ, anyTy, D.isTy, truth_non, truth_bl, truth_int, truth_lst, truth_tup, asB_bl, asI_int, walk_lst, walk_tup, walk_str, items_lst, items_tup, len_lst, len_tup, len_str, int_int, int_bl, abs_int, list_lst, list_tup, tuple_lst, tuple_tup, all_lst, any_lst, lt_int, le_int, gt_int, ge_int, add_int, sub_int, eq_int, ne_int, ix_lst, ix_tup, sl_lst, sl_tup, rev_tup, rev_lst, at0, at1, at2,  bindT, bindTs, setOwn, slOf_lst, slOf_tup, slOf_int, slOf_bl, slOf_str, slOf_non, slOf_f,  List.set_cons_zero, List.set_cons_succ, List.length_cons, List.length_nil, Env.kill, Env.noOw, isOw_vl, isOw_ow, isOw_no, evs_nil, List.all_cons, List.all_nil, Option.getD_some, Option.getD_none, Option.map_some, Option.map_none, rtM_rt, rtM_nx, Bool.not_true, Bool.not_false, Bool.true_and, Bool.and_true, Bool.false_and, Bool.and_false, Bool.false_eq_true, if_true, if_false, ite_true, ite_false, Nat.reduceAdd, Nat.reduceLT, Nat.reduceLeDiff, Nat.zero_lt_succ, Nat.zero_le, Bool.xor_false, Bool.false_xor, Bool.true_xor, List.map_cons, List.map_nil]
  cases decide (0 < i) <;> exact Dr.ret trivial
theorem bx (d : D) : run prog ns (k + 1) 15 [.box, d] = (exSs (cfK ns k) b_l_bent [.vl .box, .vl d, .no, .no]).bd rtM := rfl
theorem rt_dr {n N : Nat} {m : M (Mi.Flow × Mi.Env)} (h : Dr n m fun p => ∃ v s, p = (.rt v, s) ∧ okN N v) : Dr n (m.bd rtM) (okN N) := Dr.rt h fun p ⟨v, s, e, ok⟩ => by
  subst e
  exact Dr.ret ok
theorem depL_mem : ∀ {xs : List D} {d : D}, d ∈ xs → D.dep d ≤ D.depL xs
  | [], _, h => nomatch h
  | x :: xs, d, h => by
    simp only [D.depL]
    rcases List.mem_cons.mp h with rfl | h
    · omega
    · have := depL_mem h
      omega
theorem len_val (c : Cfg) (xs : List D) (s2 s3 : Sl) : evE (cfK ns k) (.call 7 (.cons false (.var 0) (.cons false (.bi .len (.var 1)) .nil))) [.vl .box, .vl (.tup xs), s2, s3] = run prog ns k 7 [.box, .int xs.length] := by
  simp only [evE, evT, evP, evTOr, evTAnd, evAnd, evOr, evEs, evSrc, evO, evTs, tr, bd_ret, nex_ret, bd_assoc, bd_no, ofO_some, ofO_none, asB_ret, asB_no, List.getElem?_cons_zero, List.getElem?_cons_succ, anyTy, D.isTy, truth_non, truth_bl, truth_int, truth_lst, truth_tup, asB_bl, asI_int, walk_lst, walk_tup, walk_str, items_lst, items_tup, len_lst, len_tup, len_str, int_int, int_bl, abs_int, list_lst, list_tup, tuple_lst, tuple_tup, all_lst, any_lst, lt_int, le_int, gt_int, ge_int, add_int, sub_int, eq_int, ne_int, ix_lst, ix_tup, sl_lst, sl_tup, rev_tup, rev_lst, at0, at1, at2,  bindT, bindTs, setOwn, slOf_lst, slOf_tup, slOf_int, slOf_bl, slOf_str, slOf_non, slOf_f,  List.set_cons_zero, List.set_cons_succ, List.length_cons, List.length_nil, Env.kill, Env.noOw, isOw_vl, isOw_ow, isOw_no, evs_nil, List.all_cons, List.all_nil, Option.getD_some, Option.getD_none, Option.map_some, Option.map_none, rtM_rt, rtM_nx, Bool.not_true, Bool.not_false, Bool.true_and, Bool.and_true, Bool.false_and, Bool.and_false, Bool.false_eq_true, if_true, if_false, ite_true, ite_false, Nat.reduceAdd, Nat.reduceLT, Nat.reduceLeDiff, Nat.zero_lt_succ, Nat.zero_le, Bool.xor_false, Bool.false_xor, Bool.true_xor, List.map_cons, List.map_nil]
theorem bent_dr {N : Nat} (hN : 2 ≤ N) (hN2 : N < 1000) : ∀ (n : Nat) (d : D), D.dep d ≤ n → okN N d → Dr (2 * n + 2) (run prog ns (k + n + 3) 15 [.box, d]) (okN (N + 1)) := by
  intro n
  induction n with
  | zero =>
    intro d hd h
    rw [show k + 0 + 3 = (k + 2) + 1 from rfl, bx, b_l_bent_eq, sq_iteA, tstB_no _ h.1 (fun x xs e => by subst e; simp [D.dep] at hd), bd_ret, ff_eq, sq_nil, bd_ret, aft_nx]
    exact (rt_dr (tailB_dr (ns := ns) (k := k) hN hN2 h .no)).more (by omega)
  | succ n ih =>
    intro d hd h
    rw [show k + (n + 1) + 3 = (k + n + 3) + 1 from by omega, bx, b_l_bent_eq, sq_iteA]
    by_cases ht : ∃ x xs, d = .tup (x :: xs)
    · obtain ⟨x, xs, rfl⟩ := ht
      obtain ⟨hl, hi⟩ := okN_items h
      have hp : D.pyL (x :: xs) = true := pyL_iff.mpr fun d hd => (hi d hd).1
      rw [bd_assoc]
      refine (Dr.bd (n2 := 2 * n + 3) (tstB_dr (ns := ns) (k := k + n + 2) hp _ _) fun b _ => ?_).more (n := 1 + (2 * n + 3)) (by omega)
      cases b with
      | false =>
        rw [ff_eq, sq_nil, bd_ret, aft_nx]
        exact (rt_dr (tailB_dr (ns := ns) (k := k + n + 1) hN hN2 h .no)).more (by omega)
      | true =>
        rw [tt_eq, thenB, sq_asg (lenlt rfl), len_val ⟨run prog ns k, prog.glob, ns⟩, bd_assoc, bd_assoc]
        have hl' : (x :: xs).length < 1000 := by omega
        generalize hq : x :: xs = qs at *
        have h0 : 0 < qs.length := by rw [← hq]; simp
        refine (Dr.bd (n2 := 2 * n + 2) (c7 (ns := ns) (k := k + n + 2) (show (0 : Int) < qs.length by omega) (by omega)) fun v ⟨i, hv, i0, i1⟩ => ?_).more (n := 1 + (2 * n + 2)) (by omega)
        subst hv
        obtain ⟨j, rfl⟩ : ∃ j : Nat, i = j := ⟨i.toNat, by omega⟩
        have hj : j < qs.length := by omega
        have ej : ((j : Int) + 1) = ((j + 1 : Nat) : Int) := by omega
        rw [set4_3, sq_ret, resB]
        simp only [evE, evT, evP, evTOr, evTAnd, evAnd, evOr, evEs, evSrc, evO, evTs, tr, bd_ret, nex_ret, bd_assoc, bd_no, ofO_some, ofO_none, asB_ret, asB_no, List.getElem?_cons_zero, List.getElem?_cons_succ, anyTy, D.isTy, truth_non, truth_bl, truth_int, truth_lst, truth_tup, asB_bl, asI_int, walk_lst, walk_tup, walk_str, items_lst, items_tup, len_lst, len_tup, len_str, int_int, int_bl, abs_int, list_lst, list_tup, tuple_lst, tuple_tup, all_lst, any_lst, lt_int, le_int, gt_int, ge_int, add_int, sub_int, eq_int, ne_int, ix_lst, ix_tup, sl_lst, sl_tup, rev_tup, rev_lst, at0, at1, at2,  bindT, bindTs, setOwn, slOf_lst, slOf_tup, slOf_int, slOf_bl, slOf_str, slOf_non, slOf_f,  List.set_cons_zero, List.set_cons_succ, List.length_cons, List.length_nil, Env.kill, Env.noOw, isOw_vl, isOw_ow, isOw_no, evs_nil, List.all_cons, List.all_nil, Option.getD_some, Option.getD_none, Option.map_some, Option.map_none, rtM_rt, rtM_nx, Bool.not_true, Bool.not_false, Bool.true_and, Bool.and_true, Bool.false_and, Bool.and_false, Bool.false_eq_true, if_true, if_false, ite_true, ite_false, Nat.reduceAdd, Nat.reduceLT, Nat.reduceLeDiff, Nat.zero_lt_succ, Nat.zero_le, Bool.xor_false, Bool.false_xor, Bool.true_xor, List.map_cons, List.map_nil, cut_to, ej, cut_from]
        rw [atI_nat, List.getElem?_eq_getElem hj, ofO_some, bd_ret]
        have hdj : D.dep qs[j] ≤ n := by
          have := depL_mem (List.getElem_mem hj)
          simp only [D.dep] at hd
          omega
        refine Dr.rt (ih qs[j] hdj (hi _ (List.getElem_mem hj))) fun v hv => ?_
        rw [if_pos (show 1 ≤ lineMax by unfold lineMax; omega), bd_ret, add_tup (by rw [List.length_take]; simp only [List.length_cons, List.length_nil]; unfold lineMax; omega)]
        simp only [evE, evT, evP, evTOr, evTAnd, evAnd, evOr, evEs, evSrc, evO, evTs, tr, bd_ret, nex_ret, bd_assoc, bd_no, ofO_some, ofO_none, asB_ret, asB_no, List.getElem?_cons_zero, List.getElem?_cons_succ, anyTy, D.isTy, truth_non, truth_bl, truth_int, truth_lst, truth_tup, asB_bl, asI_int, walk_lst, walk_tup, walk_str, items_lst, items_tup, len_lst, len_tup, len_str, int_int, int_bl, abs_int, list_lst, list_tup, tuple_lst, tuple_tup, all_lst, any_lst, lt_int, le_int, gt_int, ge_int, add_int, sub_int, eq_int, ne_int, ix_lst, ix_tup, sl_lst, sl_tup, rev_tup, rev_lst, at0, at1, at2,  bindT, bindTs, setOwn, slOf_lst, slOf_tup, slOf_int, slOf_bl, slOf_str, slOf_non, slOf_f,  List.set_cons_zero, List.set_cons_succ, List.length_cons, List.length_nil, Env.kill, Env.noOw, isOw_vl, isOw_ow, isOw_no, evs_nil, List.all_cons, List.all_nil, Option.getD_some, Option.getD_none, Option.map_some, Option.map_none, rtM_rt, rtM_nx, Bool.not_true, Bool.not_false, Bool.true_and, Bool.and_true, Bool.false_and, Bool.and_false, Bool.false_eq_true, if_true, if_false, ite_true, ite_false, Nat.reduceAdd, Nat.reduceLT, Nat.reduceLeDiff, Nat.zero_lt_succ, Nat.zero_le, Bool.xor_false, Bool.false_xor, Bool.true_xor, List.map_cons, List.map_nil]
        rw [add_tup (by rw [List.length_append, List.length_take, List.length_drop]; simp only [List.length_cons, List.length_nil]; unfold lineMax; omega)]
        simp only [evE, evT, evP, evTOr, evTAnd, evAnd, evOr, evEs, evSrc, evO, evTs, tr, bd_ret, nex_ret, bd_assoc, bd_no, ofO_some, ofO_none, asB_ret, asB_no, List.getElem?_cons_zero, List.getElem?_cons_succ, anyTy, D.isTy, truth_non, truth_bl, truth_int, truth_lst, truth_tup, asB_bl, asI_int, walk_lst, walk_tup, walk_str, items_lst, items_tup, len_lst, len_tup, len_str, int_int, int_bl, abs_int, list_lst, list_tup, tuple_lst, tuple_tup, all_lst, any_lst, lt_int, le_int, gt_int, ge_int, add_int, sub_int, eq_int, ne_int, ix_lst, ix_tup, sl_lst, sl_tup, rev_tup, rev_lst, at0, at1, at2,  bindT, bindTs, setOwn, slOf_lst, slOf_tup, slOf_int, slOf_bl, slOf_str, slOf_non, slOf_f,  List.set_cons_zero, List.set_cons_succ, List.length_cons, List.length_nil, Env.kill, Env.noOw, isOw_vl, isOw_ow, isOw_no, evs_nil, List.all_cons, List.all_nil, Option.getD_some, Option.getD_none, Option.map_some, Option.map_none, rtM_rt, rtM_nx, Bool.not_true, Bool.not_false, Bool.true_and, Bool.and_true, Bool.false_and, Bool.and_false, Bool.false_eq_true, if_true, if_false, ite_true, ite_false, Nat.reduceAdd, Nat.reduceLT, Nat.reduceLeDiff, Nat.zero_lt_succ, Nat.zero_le, Bool.xor_false, Bool.false_xor, Bool.true_xor, List.map_cons, List.map_nil, aft_rt]
        refine Dr.ret (okN_tup ?_ ?_)
        · rw [List.length_append, List.length_append, List.length_take, List.length_drop]; simp only [List.length_cons, List.length_nil]; omega
        · intro d hd
          rcases List.mem_append.mp hd with hd | hd
          · rcases List.mem_append.mp hd with hd | hd
            · exact (hi d (List.mem_of_mem_take hd)).up
            · rw [List.mem_singleton.mp hd]; exact hv
          · exact (hi d (List.mem_of_mem_drop hd)).up
    · rw [tstB_no _ h.1 (fun x xs e => ht ⟨x, xs, e⟩), bd_ret, ff_eq, sq_nil, bd_ret, aft_nx]
      exact (rt_dr (tailB_dr (ns := ns) (k := k + n + 1) hN hN2 h .no)).more (by omega)
end
end LK
namespace LK
open PySem Mi
section
variable {ns : List Int} {k : Nat}
def bodyL : MSs := (.cons (.app 3 (.call 15 (.cons false (.var 0) (.cons false (.var 2) .nil))))
 .nil)
def restR : MSs := (.cons (.ite (.notE (.call 10 (.cons false (.comp (.call 5 (.cons false (.var 5) .nil)) (.slot 5) (.it (.bor 3)) .nil [5]) (.cons false (.comp (.call 13 (.cons false (.var 5) .nil)) (.slot 5) (.it (.bor 3)) .nil [5]) .nil))))
 (.cons (.ret (.cst (.bl false)))
 .nil)
 .nil)
 (.cons (.ite (.notE (.call 5 (.cons false (.var 2) .nil)))
 (.cons (.ret (.cst (.bl false)))
 .nil)
 .nil)
 .nil))
def bodyR : MSs := (.cons (.asg false (.slot 2) (.call 14 (.cons false (.var 0) .nil)))
 (.cons (.asg true (.slot 3) (.lst (.cons false (.var 2) (.cons false (.bi .list (.var 2)) (.cons false (.rev (.var 2)) .nil)))))
 (.cons (.for_ (.slot 4) (.range (.cst (.int 12))) [4] bodyL)
 restR)))
def tailR : MSs := .cons (.ret (.cst (.bl true))) .nil
theorem b_l_right_eq : b_l_right = (.cons (.for_ (.slot 1) (.range (.cst (.int 8))) [1, 2, 3, 4] bodyR)
 tailR) := rfl
mutual
theorem sm_of {n : Nat} (h : n < 3000) : ∀ {d : D}, sz n d = true → sm d = true := by
  intro d hd
  cases d with
  | tup xs =>
    simp only [sz, sm, Bool.and_eq_true, decide_eq_true_eq] at hd ⊢
    exact ⟨by omega, smL_of h hd.2⟩
  | lst xs =>
    simp only [sz, sm, Bool.and_eq_true, decide_eq_true_eq] at hd ⊢
    exact ⟨by omega, smL_of h hd.2⟩
  | _ => rfl
theorem smL_of {n : Nat} (h : n < 3000) : ∀ {xs : List D}, szL n xs = true → smL xs = true := by
  intro xs hx
  cases xs with
  | nil => rfl
  | cons x xs =>
    simp only [szL, smL, Bool.and_eq_true] at hx ⊢
    exact ⟨sm_of h hx.1, smL_of h hx.2⟩
end
theorem same1 (b : Bool) : run prog ns (k + 1) 10 [.bl b, .bl b] = M.ret (.bl true) := by
  cases b
  · kernel_rfl
  · kernel_rfl
theorem ne_bl (a b : Bool) : evOp .ne (.bl a) (.bl b) = some (.bl (!(a == b))) := rfl
theorem same_lst {bs : List Bool} (hl : bs.length < 1000) : run prog ns (k + 2) 10 [.lst (bs.map .bl), .lst (bs.map .bl)] = M.ret (.bl true) := by
  have e : run prog ns (k + 2) 10 [.lst (bs.map .bl), .lst (bs.map .bl)] = (exSs (cfK ns (k + 1)) b_l_same [.vl (.lst (bs.map .bl)), .vl (.lst (bs.map .bl)), .no, .no]).bd rtM := rfl
  rw [e, b_l_same, sq_iteA]
  have e1 : evT (cfK ns (k + 1)) (.isi (.var 1) false [.list, .tuple]) [.vl (.lst (bs.map .bl)), .vl (.lst (bs.map .bl)), .no, .no] = M.ret true := by simp only [evE, evT, evP, evTOr, evTAnd, evAnd, evOr, evEs, evSrc, evO, evTs, tr, bd_ret, nex_ret, bd_assoc, bd_no, ofO_some, ofO_none, asB_ret, asB_no, List.getElem?_cons_zero, List.getElem?_cons_succ, anyTy, D.isTy, truth_non, truth_bl, truth_int, truth_lst, truth_tup, asB_bl, asI_int, walk_lst, walk_tup, walk_str, items_lst, items_tup, len_lst, len_tup, len_str, int_int, int_bl, abs_int, list_lst, list_tup, tuple_lst, tuple_tup, all_lst, any_lst, lt_int, le_int, gt_int, ge_int, add_int, sub_int, eq_int, ne_int, ix_lst, ix_tup, sl_lst, sl_tup, rev_tup, rev_lst, at0, at1, at2,  bindT, bindTs, setOwn, slOf_lst, slOf_tup, slOf_int, slOf_bl, slOf_str, slOf_non, slOf_f,  List.set_cons_zero, List.set_cons_succ, List.length_cons, List.length_nil, Env.kill, Env.noOw, isOw_vl, isOw_ow, isOw_no, evs_nil, List.all_cons, List.all_nil, Option.getD_some, Option.getD_none, Option.map_some, Option.map_none, rtM_rt, rtM_nx, Bool.not_true, Bool.not_false, Bool.true_and, Bool.and_true, Bool.false_and, Bool.and_false, Bool.false_eq_true, if_true, if_false, ite_true, ite_false, Nat.reduceAdd, Nat.reduceLT, Nat.reduceLeDiff, Nat.zero_lt_succ, Nat.zero_le, Bool.xor_false, Bool.false_xor, Bool.true_xor, List.map_cons, List.map_nil]
  rw [e1, bd_ret, tt_eq, sq_guard]
  have e2 : evT (cfK ns (k + 1)) (.orE (.cons false (.op .ne (.isi (.var 0) true [.list]) (.isi (.var 1) true [.list])) (.cons false (.op .ne (.isi (.var 0) true [.tuple]) (.isi (.var 1) true [.tuple])) .nil))) [.vl (.lst (bs.map .bl)), .vl (.lst (bs.map .bl)), .no, .no] = M.ret false := by
    simp only [evE, evT, evP, evTOr, evTAnd, evAnd, evOr, evEs, evSrc, evO, evTs, tr, bd_ret, nex_ret, bd_assoc, bd_no, ofO_some, ofO_none, asB_ret, asB_no, List.getElem?_cons_zero, List.getElem?_cons_succ, anyTy, D.isTy, truth_non, truth_bl, truth_int, truth_lst, truth_tup, asB_bl, asI_int, walk_lst, walk_tup, walk_str, items_lst, items_tup, len_lst, len_tup, len_str, int_int, int_bl, abs_int, list_lst, list_tup, tuple_lst, tuple_tup, all_lst, any_lst, lt_int, le_int, gt_int, ge_int, add_int, sub_int, eq_int, ne_int, ix_lst, ix_tup, sl_lst, sl_tup, rev_tup, rev_lst, at0, at1, at2,  bindT, bindTs, setOwn, slOf_lst, slOf_tup, slOf_int, slOf_bl, slOf_str, slOf_non, slOf_f,  List.set_cons_zero, List.set_cons_succ, List.length_cons, List.length_nil, Env.kill, Env.noOw, isOw_vl, isOw_ow, isOw_no, evs_nil, List.all_cons, List.all_nil, Option.getD_some, Option.getD_none, Option.map_some, Option.map_none, rtM_rt, rtM_nx, Bool.not_true, Bool.not_false, Bool.true_and, Bool.and_true, Bool.false_and, Bool.and_false, Bool.false_eq_true, if_true, if_false, ite_true, ite_false, Nat.reduceAdd, Nat.reduceLT, Nat.reduceLeDiff, Nat.zero_lt_succ, Nat.zero_le, Bool.xor_false, Bool.false_xor, Bool.true_xor, List.map_cons, List.map_nil, ne_bl, beq_self_eq_true]
  rw [e2, bd_ret, ff_eq, sq_ret]
  have e3 : evE (cfK ns (k + 1)) (.andE (.cons false (.op .eq (.bi .len (.var 0)) (.bi .len (.var 1))) (.cons false (.bi .all (.comp (.call 10 (.cons false (.var 2) (.cons false (.var 3) .nil))) (.tup (.cons (.slot 2) (.cons (.slot 3) .nil))) (.zip (.var 0) (.var 1)) .nil [2, 3])) .nil))) [.vl (.lst (bs.map .bl)), .vl (.lst (bs.map .bl)), .no, .no] = M.ret (.bl true) := by
    simp only [evE, evT, evP, evTOr, evTAnd, evAnd, evOr, evEs, evSrc, evO, evTs, tr, bd_ret, nex_ret, bd_assoc, bd_no, ofO_some, ofO_none, asB_ret, asB_no, List.getElem?_cons_zero, List.getElem?_cons_succ, anyTy, D.isTy, truth_non, truth_bl, truth_int, truth_lst, truth_tup, asB_bl, asI_int, walk_lst, walk_tup, walk_str, items_lst, items_tup, len_lst, len_tup, len_str, int_int, int_bl, abs_int, list_lst, list_tup, tuple_lst, tuple_tup, all_lst, any_lst, lt_int, le_int, gt_int, ge_int, add_int, sub_int, eq_int, ne_int, ix_lst, ix_tup, sl_lst, sl_tup, rev_tup, rev_lst, at0, at1, at2,  bindT, bindTs, setOwn, slOf_lst, slOf_tup, slOf_int, slOf_bl, slOf_str, slOf_non, slOf_f,  List.set_cons_zero, List.set_cons_succ, List.length_cons, List.length_nil, Env.kill, Env.noOw, isOw_vl, isOw_ow, isOw_no, evs_nil, List.all_cons, List.all_nil, Option.getD_some, Option.getD_none, Option.map_some, Option.map_none, rtM_rt, rtM_nx, Bool.not_true, Bool.not_false, Bool.true_and, Bool.and_true, Bool.false_and, Bool.and_false, Bool.false_eq_true, if_true, if_false, ite_true, ite_false, Nat.reduceAdd, Nat.reduceLT, Nat.reduceLeDiff, Nat.zero_lt_succ, Nat.zero_le, Bool.xor_false, Bool.false_xor, Bool.true_xor, List.map_cons, List.map_nil, beq_self_eq_true, zipOf, zipD_map]
    have hz : ∀ p ∈ bs.zip bs, p.1 = p.2 := fun p hp => by
      obtain ⟨i, hi, e⟩ := List.getElem_of_mem hp
      rw [← e, List.getElem_zip]
    rw [all_comp' (p := fun _ => true) (fun d hd => by
      obtain ⟨⟨a, b⟩, hp, rfl⟩ := List.mem_map.mp hd
      have := hz _ hp
      cases this
      simp only [evE, evT, evP, evTOr, evTAnd, evAnd, evOr, evEs, evSrc, evO, evTs, tr, bd_ret, nex_ret, bd_assoc, bd_no, ofO_some, ofO_none, asB_ret, asB_no, List.getElem?_cons_zero, List.getElem?_cons_succ, anyTy, D.isTy, truth_non, truth_bl, truth_int, truth_lst, truth_tup, asB_bl, asI_int, walk_lst, walk_tup, walk_str, items_lst, items_tup, len_lst, len_tup, len_str, int_int, int_bl, abs_int, list_lst, list_tup, tuple_lst, tuple_tup, all_lst, any_lst, lt_int, le_int, gt_int, ge_int, add_int, sub_int, eq_int, ne_int, ix_lst, ix_tup, sl_lst, sl_tup, rev_tup, rev_lst, at0, at1, at2,  bindT, bindTs, setOwn, slOf_lst, slOf_tup, slOf_int, slOf_bl, slOf_str, slOf_non, slOf_f,  List.set_cons_zero, List.set_cons_succ, List.length_cons, List.length_nil, Env.kill, Env.noOw, isOw_vl, isOw_ow, isOw_no, evs_nil, List.all_cons, List.all_nil, Option.getD_some, Option.getD_none, Option.map_some, Option.map_none, rtM_rt, rtM_nx, Bool.not_true, Bool.not_false, Bool.true_and, Bool.and_true, Bool.false_and, Bool.and_false, Bool.false_eq_true, if_true, if_false, ite_true, ite_false, Nat.reduceAdd, Nat.reduceLT, Nat.reduceLeDiff, Nat.zero_lt_succ, Nat.zero_le, Bool.xor_false, Bool.false_xor, Bool.true_xor, List.map_cons, List.map_nil, same1]) (by rw [List.length_map, List.length_zip]; unfold lineMax; omega)]
    simp
    rw [List.all_eq_true.mpr (fun _ _ => rfl)]
  rw [e3, bd_ret, bd_ret, aft_rt, bd_ret, rtM_rt]
structure InvL (n : Nat) (kinds : D) (t s5 : Sl) (ds : List D) (s : Mi.Env) : Prop where
  ex : ∃ P : List D, s = [.vl .box, t, .vl kinds, .ow (.lst P), .no, s5] ∧ P.length + ds.length = n ∧ ∀ d ∈ P, okN 5 d
theorem bodyL_dr {n : Nat} {kinds : D} {t s5 : Sl} (hn : n < 1000) (hk : okN 4 kinds) (hd : D.dep kinds ≤ 4) (d : D) (ds : List D) (s : Mi.Env) (h : InvL n kinds t s5 (d :: ds) s) : ∃ s1, bindT (.slot 4) d s = some s1 ∧ Dr 10 (exSs (cfK ns (k + 7)) bodyL s1) fun p => p.1 = .nx ∧ InvL n kinds t s5 ds (p.2.kill [4]) := by
  obtain ⟨P, rfl, h1, h2⟩ := h.ex
  simp only [List.length_cons] at h1
  refine ⟨[.vl .box, t, .vl kinds, .ow (.lst P), .vl d, s5], rfl, ?_⟩
  have e : evE (cfK ns (k + 7)) (.call 15 (.cons false (.var 0) (.cons false (.var 2) .nil))) [.vl .box, t, .vl kinds, .ow (.lst P), .vl d, s5] = run prog ns (k + 7) 15 [.box, kinds] := by simp only [evE, evT, evP, evTOr, evTAnd, evAnd, evOr, evEs, evSrc, evO, evTs, tr, bd_ret, nex_ret, bd_assoc, bd_no, ofO_some, ofO_none, asB_ret, asB_no, List.getElem?_cons_zero, List.getElem?_cons_succ, anyTy, D.isTy, truth_non, truth_bl, truth_int, truth_lst, truth_tup, asB_bl, asI_int, walk_lst, walk_tup, walk_str, items_lst, items_tup, len_lst, len_tup, len_str, int_int, int_bl, abs_int, list_lst, list_tup, tuple_lst, tuple_tup, all_lst, any_lst, lt_int, le_int, gt_int, ge_int, add_int, sub_int, eq_int, ne_int, ix_lst, ix_tup, sl_lst, sl_tup, rev_tup, rev_lst, at0, at1, at2,  bindT, bindTs, setOwn, slOf_lst, slOf_tup, slOf_int, slOf_bl, slOf_str, slOf_non, slOf_f,  List.set_cons_zero, List.set_cons_succ, List.length_cons, List.length_nil, Env.kill, Env.noOw, isOw_vl, isOw_ow, isOw_no, evs_nil, List.all_cons, List.all_nil, Option.getD_some, Option.getD_none, Option.map_some, Option.map_none, rtM_rt, rtM_nx, Bool.not_true, Bool.not_false, Bool.true_and, Bool.and_true, Bool.false_and, Bool.and_false, Bool.false_eq_true, if_true, if_false, ite_true, ite_false, Nat.reduceAdd, Nat.reduceLT, Nat.reduceLeDiff, Nat.zero_lt_succ, Nat.zero_le, Bool.xor_false, Bool.false_xor, Bool.true_xor, List.map_cons, List.map_nil]
  rw [bodyL, sq_app rfl, e]
  refine Dr.rt (bent_dr (ns := ns) (k := k) (N := 4) (by omega) (by omega) 4 kinds hd hk) fun v hv => ?_
  rw [if_pos (by unfold lineMax; omega), sq_nil]
  refine Dr.ret ⟨rfl, ⟨P ++ [v], rfl, ?_, ?_⟩⟩
  · rw [List.length_append]; simp only [List.length_cons, List.length_nil]; omega
  · intro q hq
    rcases List.mem_append.mp hq with hq | hq
    · exact h2 q hq
    · rw [List.mem_singleton.mp hq]; exact hv
theorem c5 {d : D} (h : D.py d = true) (h2 : sm d = true) : run prog ns (k + 4) 5 [d] = M.ret (.bl (isSch d)) := is_schema_eq h h2
theorem c13 {d : D} (h : D.py d = true) (h2 : sm d = true) : run prog ns (k + 2) 13 [d] = M.ret (.bl (isSch d)) := l_is_run h h2
theorem pool_map (P : List D) : P.map (fun d => D.bl (isSch d)) = (P.map isSch).map .bl := by rw [List.map_map]; rfl
theorem cmp5 {P : List D} (hP : ∀ d ∈ P, okN 5 d) (hl : P.length < 1000) (s0 s1 s2 s4 s5 : Sl) (h5 : s5.isOw = false) : evE (cfK ns (k + 7)) (.comp (.call 5 (.cons false (.var 5) .nil)) (.slot 5) (.it (.bor 3)) .nil [5]) [s0, s1, s2, .ow (.lst P), s4, s5] = M.ret (.lst ((P.map isSch).map .bl)) := by
  simp only [evE, evT, evP, evTOr, evTAnd, evAnd, evOr, evEs, evSrc, evO, evTs, tr, bd_ret, nex_ret, bd_assoc, bd_no, ofO_some, ofO_none, asB_ret, asB_no, List.getElem?_cons_zero, List.getElem?_cons_succ, anyTy, D.isTy, truth_non, truth_bl, truth_int, truth_lst, truth_tup, asB_bl, asI_int, walk_lst, walk_tup, walk_str, items_lst, items_tup, len_lst, len_tup, len_str, int_int, int_bl, abs_int, list_lst, list_tup, tuple_lst, tuple_tup, all_lst, any_lst, lt_int, le_int, gt_int, ge_int, add_int, sub_int, eq_int, ne_int, ix_lst, ix_tup, sl_lst, sl_tup, rev_tup, rev_lst, at0, at1, at2,  bindT, bindTs, setOwn, slOf_lst, slOf_tup, slOf_int, slOf_bl, slOf_str, slOf_non, slOf_f,  List.set_cons_zero, List.set_cons_succ, List.length_cons, List.length_nil, Env.kill, Env.noOw, isOw_vl, isOw_ow, isOw_no, evs_nil, List.all_cons, List.all_nil, Option.getD_some, Option.getD_none, Option.map_some, Option.map_none, rtM_rt, rtM_nx, Bool.not_true, Bool.not_false, Bool.true_and, Bool.and_true, Bool.false_and, Bool.and_false, Bool.false_eq_true, if_true, if_false, ite_true, ite_false, Nat.reduceAdd, Nat.reduceLT, Nat.reduceLeDiff, Nat.zero_lt_succ, Nat.zero_le, Bool.xor_false, Bool.false_xor, Bool.true_xor, List.map_cons, List.map_nil, h5]
  have := comp_mapD (K := M.ret) (f := fun d => (run prog ns (k + 7) 5 [d]).bd fun x => M.ret (some x)) (g := fun d => D.bl (isSch d)) (ds := P) (fun d hd => by
    rw [c5 (k := k + 3) (hP d hd).1 (sm_of (by omega) (hP d hd).2)]
    rfl) (by unfold lineMax; omega)
  simp only [bd_id] at this
  rw [pool_map] at this
  exact this
theorem cmp13 {P : List D} (hP : ∀ d ∈ P, okN 5 d) (hl : P.length < 1000) (s0 s1 s2 s4 s5 : Sl) (h5 : s5.isOw = false) : evE (cfK ns (k + 7)) (.comp (.call 13 (.cons false (.var 5) .nil)) (.slot 5) (.it (.bor 3)) .nil [5]) [s0, s1, s2, .ow (.lst P), s4, s5] = M.ret (.lst ((P.map isSch).map .bl)) := by
  simp only [evE, evT, evP, evTOr, evTAnd, evAnd, evOr, evEs, evSrc, evO, evTs, tr, bd_ret, nex_ret, bd_assoc, bd_no, ofO_some, ofO_none, asB_ret, asB_no, List.getElem?_cons_zero, List.getElem?_cons_succ, anyTy, D.isTy, truth_non, truth_bl, truth_int, truth_lst, truth_tup, asB_bl, asI_int, walk_lst, walk_tup, walk_str, items_lst, items_tup, len_lst, len_tup, len_str, int_int, int_bl, abs_int, list_lst, list_tup, tuple_lst, tuple_tup, all_lst, any_lst, lt_int, le_int, gt_int, ge_int, add_int, sub_int, eq_int, ne_int, ix_lst, ix_tup, sl_lst, sl_tup, rev_tup, rev_lst, at0, at1, at2,  bindT, bindTs, setOwn, slOf_lst, slOf_tup, slOf_int, slOf_bl, slOf_str, slOf_non, slOf_f,  List.set_cons_zero, List.set_cons_succ, List.length_cons, List.length_nil, Env.kill, Env.noOw, isOw_vl, isOw_ow, isOw_no, evs_nil, List.all_cons, List.all_nil, Option.getD_some, Option.getD_none, Option.map_some, Option.map_none, rtM_rt, rtM_nx, Bool.not_true, Bool.not_false, Bool.true_and, Bool.and_true, Bool.false_and, Bool.and_false, Bool.false_eq_true, if_true, if_false, ite_true, ite_false, Nat.reduceAdd, Nat.reduceLT, Nat.reduceLeDiff, Nat.zero_lt_succ, Nat.zero_le, Bool.xor_false, Bool.false_xor, Bool.true_xor, List.map_cons, List.map_nil, h5]
  have := comp_mapD (K := M.ret) (f := fun d => (run prog ns (k + 7) 13 [d]).bd fun x => M.ret (some x)) (g := fun d => D.bl (isSch d)) (ds := P) (fun d hd => by
    rw [c13 (k := k + 5) (hP d hd).1 (sm_of (by omega) (hP d hd).2)]
    rfl) (by unfold lineMax; omega)
  simp only [bd_id] at this
  rw [pool_map] at this
  exact this
theorem tst1 {P : List D} (hP : ∀ d ∈ P, okN 5 d) (hl : P.length < 1000) (s0 s1 s2 s4 s5 : Sl) (h5 : s5.isOw = false) : evT (cfK ns (k + 7)) (.notE (.call 10 (.cons false (.comp (.call 5 (.cons false (.var 5) .nil)) (.slot 5) (.it (.bor 3)) .nil [5]) (.cons false (.comp (.call 13 (.cons false (.var 5) .nil)) (.slot 5) (.it (.bor 3)) .nil [5]) .nil)))) [s0, s1, s2, .ow (.lst P), s4, s5] = M.ret false := by
  have e1 := cmp5 (ns := ns) (k := k) hP hl s0 s1 s2 s4 s5 h5
  have e2 := cmp13 (ns := ns) (k := k) hP hl s0 s1 s2 s4 s5 h5
  unfold evE at e1 e2
  unfold evT
  rw [evP]
  show ((evP (cfK ns (k + 7)) (.call 10 _) _).2.bd fun b => M.ret (!b)) = _
  rw [evP]
  show (((evEs (cfK ns (k + 7)) _ _).bd fun ds => run prog ns (k + 7) 10 ds).bd fun x => M.ofO (truth x)).bd _ = _
  rw [evEs, e1, bd_ret, evEs, e2, bd_ret, evEs, bd_ret, bd_ret, bd_ret, same_lst (k := k + 5) (by rw [List.length_map]; exact hl)]
  rfl
theorem tst2 {kinds : D} (h1 : D.py kinds = true) (h2 : sm kinds = true) (h3 : isSch kinds = true) (s0 s1 s3 s4 s5 : Sl) : evT (cfK ns (k + 7)) (.notE (.call 5 (.cons false (.var 2) .nil))) [s0, s1, .vl kinds, s3, s4, s5] = M.ret false := by
  simp only [evE, evT, evP, evTOr, evTAnd, evAnd, evOr, evEs, evSrc, evO, evTs, tr, bd_ret, nex_ret, bd_assoc, bd_no, ofO_some, ofO_none, asB_ret, asB_no, List.getElem?_cons_zero, List.getElem?_cons_succ, anyTy, D.isTy, truth_non, truth_bl, truth_int, truth_lst, truth_tup, asB_bl, asI_int, walk_lst, walk_tup, walk_str, items_lst, items_tup, len_lst, len_tup, len_str, int_int, int_bl, abs_int, list_lst, list_tup, tuple_lst, tuple_tup, all_lst, any_lst, lt_int, le_int, gt_int, ge_int, add_int, sub_int, eq_int, ne_int, ix_lst, ix_tup, sl_lst, sl_tup, rev_tup, rev_lst, at0, at1, at2,  bindT, bindTs, setOwn, slOf_lst, slOf_tup, slOf_int, slOf_bl, slOf_str, slOf_non, slOf_f,  List.set_cons_zero, List.set_cons_succ, List.length_cons, List.length_nil, Env.kill, Env.noOw, isOw_vl, isOw_ow, isOw_no, evs_nil, List.all_cons, List.all_nil, Option.getD_some, Option.getD_none, Option.map_some, Option.map_none, rtM_rt, rtM_nx, Bool.not_true, Bool.not_false, Bool.true_and, Bool.and_true, Bool.false_and, Bool.and_false, Bool.false_eq_true, if_true, if_false, ite_true, ite_false, Nat.reduceAdd, Nat.reduceLT, Nat.reduceLeDiff, Nat.zero_lt_succ, Nat.zero_le, Bool.xor_false, Bool.false_xor, Bool.true_xor, List.map_cons, List.map_nil, c5 (k := k + 3) h1 h2, h3]
end
end LK
namespace LK
open PySem Mi
section
variable {ns : List Int} {k : Nat}
theorem set6_2 (a b c d e f v : Sl) : [a, b, c, d, e, f].set 2 v = [a, b, v, d, e, f] := rfl
theorem set6_3 (a b c d e f v : Sl) : [a, b, c, d, e, f].set 3 v = [a, b, c, v, e, f] := rfl
theorem call14 (s1 s2 s3 s4 s5 : Sl) : evE (cfK ns k) (.call 14 (.cons false (.var 0) .nil)) [.vl .box, s1, s2, s3, s4, s5] = run prog ns k 14 [.box] := by simp only [evE, evT, evP, evTOr, evTAnd, evAnd, evOr, evEs, evSrc, evO, evTs, tr, bd_ret, nex_ret, bd_assoc, bd_no, ofO_some, ofO_none, asB_ret, asB_no, List.getElem?_cons_zero, List.getElem?_cons_succ, anyTy, D.isTy, truth_non, truth_bl, truth_int, truth_lst, truth_tup, asB_bl, asI_int, walk_lst, walk_tup, walk_str, items_lst, items_tup, len_lst, len_tup, len_str, int_int, int_bl, abs_int, list_lst, list_tup, tuple_lst, tuple_tup, all_lst, any_lst, lt_int, le_int, gt_int, ge_int, add_int, sub_int, eq_int, ne_int, ix_lst, ix_tup, sl_lst, sl_tup, rev_tup, rev_lst, at0, at1, at2,  bindT, bindTs, setOwn, slOf_lst, slOf_tup, slOf_int, slOf_bl, slOf_str, slOf_non, slOf_f,  List.set_cons_zero, List.set_cons_succ, List.length_cons, List.length_nil, Env.kill, Env.noOw, isOw_vl, isOw_ow, isOw_no, evs_nil, List.all_cons, List.all_nil, Option.getD_some, Option.getD_none, Option.map_some, Option.map_none, rtM_rt, rtM_nx, Bool.not_true, Bool.not_false, Bool.true_and, Bool.and_true, Bool.false_and, Bool.and_false, Bool.false_eq_true, if_true, if_false, ite_true, ite_false, Nat.reduceAdd, Nat.reduceLT, Nat.reduceLeDiff, Nat.zero_lt_succ, Nat.zero_le, Bool.xor_false, Bool.false_xor, Bool.true_xor, List.map_cons, List.map_nil]
theorem pool3 (ks : List D) (c : Cfg) (s0 s1 s3 s4 s5 : Sl) : evE c (.lst (.cons false (.var 2) (.cons false (.bi .list (.var 2)) (.cons false (.rev (.var 2)) .nil)))) [s0, s1, .vl (.tup ks), s3, s4, s5] = M.ret (.lst [.tup ks, .lst ks, .tup ks.reverse]) := by
  simp only [evE, evT, evP, evTOr, evTAnd, evAnd, evOr, evEs, evSrc, evO, evTs, tr, bd_ret, nex_ret, bd_assoc, bd_no, ofO_some, ofO_none, asB_ret, asB_no, List.getElem?_cons_zero, List.getElem?_cons_succ, anyTy, D.isTy, truth_non, truth_bl, truth_int, truth_lst, truth_tup, asB_bl, asI_int, walk_lst, walk_tup, walk_str, items_lst, items_tup, len_lst, len_tup, len_str, int_int, int_bl, abs_int, list_lst, list_tup, tuple_lst, tuple_tup, all_lst, any_lst, lt_int, le_int, gt_int, ge_int, add_int, sub_int, eq_int, ne_int, ix_lst, ix_tup, sl_lst, sl_tup, rev_tup, rev_lst, at0, at1, at2,  bindT, bindTs, setOwn, slOf_lst, slOf_tup, slOf_int, slOf_bl, slOf_str, slOf_non, slOf_f,  List.set_cons_zero, List.set_cons_succ, List.length_cons, List.length_nil, Env.kill, Env.noOw, isOw_vl, isOw_ow, isOw_no, evs_nil, List.all_cons, List.all_nil, Option.getD_some, Option.getD_none, Option.map_some, Option.map_none, rtM_rt, rtM_nx, Bool.not_true, Bool.not_false, Bool.true_and, Bool.and_true, Bool.false_and, Bool.and_false, Bool.false_eq_true, if_true, if_false, ite_true, ite_false, Nat.reduceAdd, Nat.reduceLT, Nat.reduceLeDiff, Nat.zero_lt_succ, Nat.zero_le, Bool.xor_false, Bool.false_xor, Bool.true_xor, List.map_cons, List.map_nil]
  rw [if_pos (show 3 ≤ lineMax by unfold lineMax; omega)]
theorem cst_val (c : Cfg) (s : Mi.Env) (i : Int) : evE c (.cst (.int i)) s = M.ret (.int i) := rfl
theorem src12 (c : Cfg) (s : Mi.Env) : evSrc c (.range (.cst (.int 12))) s = M.ret (Mi.upTo 0 12) := srcR (n := 12) (cst_val c s 12) (by omega)
theorem src8 (c : Cfg) (s : Mi.Env) : evSrc c (.range (.cst (.int 8))) s = M.ret (Mi.upTo 0 8) := srcR (n := 8) (cst_val c s 8) (by omega)
def InvR (ds : List D) (s : Mi.Env) : Prop := ∃ s5 : Sl, s = [.vl .box, .no, .no, .no, .no, s5] ∧ s5.isOw = false
theorem bodyR_dr (d : D) (ds : List D) (s : Mi.Env) (h : InvR (d :: ds) s) : ∃ s1, bindT (.slot 1) d s = some s1 ∧ Dr 151 (exSs (cfK ns (k + 7)) bodyR s1) fun p => p.1 = .nx ∧ InvR ds (p.2.kill [1, 2, 3, 4]) := by
  obtain ⟨s5, rfl, h5⟩ := h
  refine ⟨[.vl .box, .vl d, .no, .no, .no, s5], rfl, ?_⟩
  rw [bodyR, sq_asg (lenlt rfl), call14]
  refine (Dr.bd (n2 := 120) (c14 (ns := ns) (k := k + 3)) fun v ⟨ks, hv, h1, h2, h3, h4⟩ => ?_).more (n := 31 + 120) (by omega)
  subst hv
  have hok : okN 4 (.tup ks) := ⟨h2, h3⟩
  obtain ⟨hl, hi⟩ := okN_items hok
  rw [set6_2, sq_asgO (lenlt rfl), pool3, bd_ret, set6_3, slOf_own, sq_forA, src12, bd_ret]
  refine (Dr.rt (forGo_dr (c := 10) (InvL 15 (.tup ks) (.vl d) s5) (bodyL_dr (ns := ns) (k := k) (by omega) hok h4) (Mi.upTo 0 12) _ ⟨[.tup ks, .lst ks, .tup ks.reverse], rfl, rfl, ?_⟩) fun p hp => ?_).more (by rw [upTo_len]; omega)
  · intro q hq
    simp only [List.mem_cons, List.not_mem_nil, or_false] at hq
    rcases hq with rfl | rfl | rfl
    · exact hok.up
    · exact okN_lst (by omega) fun d hd => (hi d hd).up
    · exact okN_tup (by rw [List.length_reverse]; omega) fun d hd => (hi d (List.mem_reverse.mp hd)).up
  obtain ⟨fl, e⟩ := p
  obtain ⟨rfl, hi2⟩ := hp
  obtain ⟨P, rfl, g1, g2⟩ := hi2.ex
  have g1 : P.length + 0 = 15 := g1
  rw [aft_nx, restR, sq_guard, tst1 g2 (by omega) _ _ _ _ _ h5, bd_ret, ff_eq, sq_guard, tst2 h2 (sm_of (n := 4) (by omega) h3) h1, bd_ret, ff_eq, sq_nil]
  exact Dr.ret ⟨rfl, ⟨s5, rfl, h5⟩⟩
theorem rx : run prog ns (k + 8) 18 [.box] = (exSs (cfK ns (k + 7)) b_l_right [.vl .box, .no, .no, .no, .no, .no]).bd rtM := rfl
theorem c18 : Dr 1208 (run prog ns (k + 8) 18 [.box]) fun v => v = .bl true := by
  rw [rx, b_l_right_eq, sq_forA, src8, bd_ret, bd_assoc]
  refine (Dr.rt (forGo_dr (c := 151) InvR (bodyR_dr (ns := ns) (k := k)) (Mi.upTo 0 8) _ ⟨.no, rfl, rfl⟩) fun p hp => ?_).more (by rw [upTo_len]; omega)
  obtain ⟨fl, e⟩ := p
  obtain ⟨rfl, s5, rfl, h5⟩ := hp
  rw [aft_nx, tailR, sq_ret]
  exact Dr.ret rfl
/-- a box, from its numbers -/
theorem box18 (i j : Int) : ∃ b, run prog ns (k + 8) 18 [.box] (some (i, j, 0)) = .ok (.bl true) b := by
  have h := c18 (ns := ns) (k := k) 0 (some (i, j, 0)) ⟨i, j, 0, rfl, Int.le_refl _, by omega⟩
  unfold WP at h
  cases e : run prog ns (k + 8) 18 [.box] (some (i, j, 0)) <;> rw [e] at h <;> first | (cases h; done) | skip
  rename_i a b
  exact ⟨b, by rw [h.1]⟩
end
end LK
namespace LK
open PySem Mi
section
variable {ns : List Int} {k : Nat}
def bodyC : MSs := (.cons (.asg false (.slot 5) (.op .mod (.bi .int (.var 3)) (.var 1)))
 (.cons (.seti 2 (.var 5) (.op .add (.ix (.bor 2) (.var 5)) (.op .mul (.var 4) (.op .add (.var 3) (.cst (.int 2))))))
 .nil))
def tailC : MSs := .cons (.share 2) (.cons (.ret (.var 2)) .nil)
theorem b_l_cells_eq : b_l_cells = (.cons (.asg true (.slot 2) (.orE (.cons false (.bi .list (.sl (.var 0) .none (.some (.var 1)))) (.cons false (.lst (.cons false (.cst (.int 0)) .nil)) .nil))))
 (.cons (.for_ (.tup (.cons (.slot 3) (.cons (.slot 4) .nil))) (.enum (.sl (.var 0) (.some (.var 1)) (.some (.cst (.int 63))))) [3, 4, 5] bodyC)
 tailC)) := rfl
theorem cx1 (s2 s3 s4 s5 : Sl) : evE (cfK ns k) (.orE (.cons false (.bi .list (.sl (.var 0) .none (.some (.var 1)))) (.cons false (.lst (.cons false (.cst (.int 0)) .nil)) .nil))) [.vl .scr, .vl (.int 3), s2, s3, s4, s5] = M.ret (.lst ((if ns.take 3 = [] then [0] else ns.take 3).map .int)) := by
  have e : evSl ns .scr none (some ((3 : Nat) : Int)) = some (.lst ((ns.take 3).map .int)) := by
    show some (D.lst ((cut ns none (some ((3 : Nat) : Int))).map .int)) = _
    rw [cut_to]
  simp only [evE, evT, evP, evTOr, evTAnd, evAnd, evOr, evEs, evSrc, evO, evTs, tr, bd_ret, nex_ret, bd_assoc, bd_no, ofO_some, ofO_none, asB_ret, asB_no, List.getElem?_cons_zero, List.getElem?_cons_succ, anyTy, D.isTy, truth_non, truth_bl, truth_int, truth_lst, truth_tup, asB_bl, asI_int, walk_lst, walk_tup, walk_str, items_lst, items_tup, len_lst, len_tup, len_str, int_int, int_bl, abs_int, list_lst, list_tup, tuple_lst, tuple_tup, all_lst, any_lst, lt_int, le_int, gt_int, ge_int, add_int, sub_int, eq_int, ne_int, ix_lst, ix_tup, sl_lst, sl_tup, rev_tup, rev_lst, at0, at1, at2,  bindT, bindTs, setOwn, slOf_lst, slOf_tup, slOf_int, slOf_bl, slOf_str, slOf_non, slOf_f,  List.set_cons_zero, List.set_cons_succ, List.length_cons, List.length_nil, Env.kill, Env.noOw, isOw_vl, isOw_ow, isOw_no, evs_nil, List.all_cons, List.all_nil, Option.getD_some, Option.getD_none, Option.map_some, Option.map_none, rtM_rt, rtM_nx, Bool.not_true, Bool.not_false, Bool.true_and, Bool.and_true, Bool.false_and, Bool.and_false, Bool.false_eq_true, if_true, if_false, ite_true, ite_false, Nat.reduceAdd, Nat.reduceLT, Nat.reduceLeDiff, Nat.zero_lt_succ, Nat.zero_le, Bool.xor_false, Bool.false_xor, Bool.true_xor, List.map_cons, List.map_nil, show evSl ns .scr none (some 3) = some (.lst ((ns.take 3).map .int)) from e]
  cases h : ns.take 3 with
  | nil => rfl
  | cons a r => rfl
def InvC (n : Nat) (ds : List D) (s : Mi.Env) : Prop := ∃ (cs : List Int) (j : Nat) (gs : List Int), s = [.vl .scr, .vl (.int 3), .ow (.lst (cs.map .int)), .no, .no, .no] ∧ ds = enumD j (gs.map .int) ∧ cs.length = n ∧ (gs ≠ [] → n = 3) ∧ j + gs.length ≤ 63
theorem small_k (j : Nat) (h : j ≤ 63) : small64 ((j : Int) + 2) = true := small_of (by omega) (by omega)
theorem bodyC_eq {n : Nat} (d : D) (ds : List D) (s : Mi.Env) (h : InvC n (d :: ds) s) : ∃ s1 s2, bindT (.tup (.cons (.slot 3) (.cons (.slot 4) .nil))) d s = some s1 ∧ exSs (cfK ns k) bodyC s1 = M.ret (.nx, s2) ∧ InvC n ds (s2.kill [3, 4, 5]) := by
  obtain ⟨cs, j, gs, rfl, h1, h2, h3, h4⟩ := h
  cases gs with
  | nil => cases h1
  | cons g gs =>
    have hn : n = 3 := h3 (fun z => nomatch z)
    simp only [List.map_cons, enumD] at h1
    injection h1 with h1 h1'
    subst h1
    simp only [List.length_cons] at h4
    have hlt : j % 3 < cs.length := by omega
    have em : ((j : Int) % 3) = ((j % 3 : Nat) : Int) := by omega
    refine ⟨[.vl .scr, .vl (.int 3), .ow (.lst (cs.map .int)), .vl (.int j), .vl (.int g), .no], [.vl .scr, .vl (.int 3), .ow (.lst ((cs.set (j % 3) (cs[j % 3] + g * ((j : Int) + 2))).map .int)), .vl (.int j), .vl (.int g), .vl (.int ((j % 3 : Nat) : Int))], rfl, ?_, ?_⟩
    · have e1 : ∀ s5 : Sl, evE (cfK ns k) (.op .mod (.bi .int (.var 3)) (.var 1)) [.vl .scr, .vl (.int 3), .ow (.lst (cs.map .int)), .vl (.int j), .vl (.int g), s5] = M.ret (.int ((j % 3 : Nat) : Int)) := fun s5 => by
        simp only [evE, evT, evP, evTOr, evTAnd, evAnd, evOr, evEs, evSrc, evO, evTs, tr, bd_ret, nex_ret, bd_assoc, bd_no, ofO_some, ofO_none, asB_ret, asB_no, List.getElem?_cons_zero, List.getElem?_cons_succ, anyTy, D.isTy, truth_non, truth_bl, truth_int, truth_lst, truth_tup, asB_bl, asI_int, walk_lst, walk_tup, walk_str, items_lst, items_tup, len_lst, len_tup, len_str, int_int, int_bl, abs_int, list_lst, list_tup, tuple_lst, tuple_tup, all_lst, any_lst, lt_int, le_int, gt_int, ge_int, add_int, sub_int, eq_int, ne_int, ix_lst, ix_tup, sl_lst, sl_tup, rev_tup, rev_lst, at0, at1, at2,  bindT, bindTs, setOwn, slOf_lst, slOf_tup, slOf_int, slOf_bl, slOf_str, slOf_non, slOf_f,  List.set_cons_zero, List.set_cons_succ, List.length_cons, List.length_nil, Env.kill, Env.noOw, isOw_vl, isOw_ow, isOw_no, evs_nil, List.all_cons, List.all_nil, Option.getD_some, Option.getD_none, Option.map_some, Option.map_none, rtM_rt, rtM_nx, Bool.not_true, Bool.not_false, Bool.true_and, Bool.and_true, Bool.false_and, Bool.and_false, Bool.false_eq_true, if_true, if_false, ite_true, ite_false, Nat.reduceAdd, Nat.reduceLT, Nat.reduceLeDiff, Nat.zero_lt_succ, Nat.zero_le, Bool.xor_false, Bool.false_xor, Bool.true_xor, List.map_cons, List.map_nil, mod_int (show (0 : Int) < 3 by omega), em]
      have e3 : L2.atI (cs.map D.int) ((j % 3 : Nat) : Int) = some (.int cs[j % 3]) := by
        rw [atI_nat, List.getElem?_map, List.getElem?_eq_getElem hlt]; rfl
      have e2 : evE (cfK ns k) (.op .add (.ix (.bor 2) (.var 5)) (.op .mul (.var 4) (.op .add (.var 3) (.cst (.int 2))))) [.vl .scr, .vl (.int 3), .ow (.lst (cs.map .int)), .vl (.int j), .vl (.int g), .vl (.int ((j % 3 : Nat) : Int))] = M.ret (.int (cs[j % 3] + g * ((j : Int) + 2))) := by
        simp only [evE, evT, evP, evTOr, evTAnd, evAnd, evOr, evEs, evSrc, evO, evTs, tr, bd_ret, nex_ret, bd_assoc, bd_no, ofO_some, ofO_none, asB_ret, asB_no, List.getElem?_cons_zero, List.getElem?_cons_succ, anyTy, D.isTy, truth_non, truth_bl, truth_int, truth_lst, truth_tup, asB_bl, asI_int, walk_lst, walk_tup, walk_str, items_lst, items_tup, len_lst, len_tup, len_str, int_int, int_bl, abs_int, list_lst, list_tup, tuple_lst, tuple_tup, all_lst, any_lst, lt_int, le_int, gt_int, ge_int, add_int, sub_int, eq_int, ne_int, ix_lst, ix_tup, sl_lst, sl_tup, rev_tup, rev_lst, at0, at1, at2,  bindT, bindTs, setOwn, slOf_lst, slOf_tup, slOf_int, slOf_bl, slOf_str, slOf_non, slOf_f,  List.set_cons_zero, List.set_cons_succ, List.length_cons, List.length_nil, Env.kill, Env.noOw, isOw_vl, isOw_ow, isOw_no, evs_nil, List.all_cons, List.all_nil, Option.getD_some, Option.getD_none, Option.map_some, Option.map_none, rtM_rt, rtM_nx, Bool.not_true, Bool.not_false, Bool.true_and, Bool.and_true, Bool.false_and, Bool.and_false, Bool.false_eq_true, if_true, if_false, ite_true, ite_false, Nat.reduceAdd, Nat.reduceLT, Nat.reduceLeDiff, Nat.zero_lt_succ, Nat.zero_le, Bool.xor_false, Bool.false_xor, Bool.true_xor, List.map_cons, List.map_nil, e3, mulR (small_k j (by omega))]
      have e4 : L2.ixN (cs.map D.int).length ((j % 3 : Nat) : Int) = some (j % 3) := by
        unfold L2.ixN
        rw [if_pos (by omega), if_pos (by rw [List.length_map]; omega), Int.toNat_natCast]
      have e5 : evE (cfK ns k) (.var 5) [.vl .scr, .vl (.int 3), .ow (.lst (cs.map .int)), .vl (.int j), .vl (.int g), .vl (.int ((j % 3 : Nat) : Int))] = M.ret (.int ((j % 3 : Nat) : Int)) := by simp only [evE, evT, evP, evTOr, evTAnd, evAnd, evOr, evEs, evSrc, evO, evTs, tr, bd_ret, nex_ret, bd_assoc, bd_no, ofO_some, ofO_none, asB_ret, asB_no, List.getElem?_cons_zero, List.getElem?_cons_succ, anyTy, D.isTy, truth_non, truth_bl, truth_int, truth_lst, truth_tup, asB_bl, asI_int, walk_lst, walk_tup, walk_str, items_lst, items_tup, len_lst, len_tup, len_str, int_int, int_bl, abs_int, list_lst, list_tup, tuple_lst, tuple_tup, all_lst, any_lst, lt_int, le_int, gt_int, ge_int, add_int, sub_int, eq_int, ne_int, ix_lst, ix_tup, sl_lst, sl_tup, rev_tup, rev_lst, at0, at1, at2,  bindT, bindTs, setOwn, slOf_lst, slOf_tup, slOf_int, slOf_bl, slOf_str, slOf_non, slOf_f,  List.set_cons_zero, List.set_cons_succ, List.length_cons, List.length_nil, Env.kill, Env.noOw, isOw_vl, isOw_ow, isOw_no, evs_nil, List.all_cons, List.all_nil, Option.getD_some, Option.getD_none, Option.map_some, Option.map_none, rtM_rt, rtM_nx, Bool.not_true, Bool.not_false, Bool.true_and, Bool.and_true, Bool.false_and, Bool.and_false, Bool.false_eq_true, if_true, if_false, ite_true, ite_false, Nat.reduceAdd, Nat.reduceLT, Nat.reduceLeDiff, Nat.zero_lt_succ, Nat.zero_le, Bool.xor_false, Bool.false_xor, Bool.true_xor, List.map_cons, List.map_nil]
      have e6 : ∀ v : Sl, ([.vl .scr, .vl (.int 3), .ow (.lst (cs.map .int)), .vl (.int j), .vl (.int g), .no] : Mi.Env).set 5 v = [.vl .scr, .vl (.int 3), .ow (.lst (cs.map .int)), .vl (.int j), .vl (.int g), v] := fun _ => rfl
      rw [bodyC, sq_asg (lenlt rfl), e1, bd_ret, e6, sq_seti rfl, e2, bd_ret, e5, bd_ret, asI_int, ofO_some, bd_ret, e4, ofO_some, bd_ret, sq_nil, List.map_set]
      rfl
    · exact ⟨_, j + 1, gs, rfl, h1', by rw [List.length_set]; exact h2, fun _ => hn, by omega⟩
theorem loopC {n : Nat} : ∀ (ds : List D) (s : Mi.Env), InvC n ds s → ∃ s2, forGo (.tup (.cons (.slot 3) (.cons (.slot 4) .nil))) [3, 4, 5] (exSs (cfK ns k) bodyC) ds s = M.ret (.nx, s2) ∧ InvC n [] s2
  | [], s, h => ⟨s, rfl, h⟩
  | d :: ds, s, h => by
    obtain ⟨s1, s2, e1, e2, h2⟩ := bodyC_eq (ns := ns) (k := k) d ds s h
    obtain ⟨s3, e3, h3⟩ := loopC ds _ h2
    refine ⟨s3, ?_, h3⟩
    rw [forGo_cons, e1, ofO_some, bd_ret, e2, bd_ret]
    exact e3
def gsC (ns : List Int) : List Int := cut ns (some ((3 : Nat) : Int)) (some ((63 : Nat) : Int))
def csC (ns : List Int) : List Int := if ns.take 3 = [] then [0] else ns.take 3
theorem cx2 (s2 s3 s4 s5 : Sl) : evSrc (cfK ns k) (.enum (.sl (.var 0) (.some (.var 1)) (.some (.cst (.int 63))))) [.vl .scr, .vl (.int 3), s2, s3, s4, s5] = M.ret (enumD 0 ((gsC ns).map .int)) := by
  simp only [evE, evT, evP, evTOr, evTAnd, evAnd, evOr, evEs, evSrc, evO, evTs, tr, bd_ret, nex_ret, bd_assoc, bd_no, ofO_some, ofO_none, asB_ret, asB_no, List.getElem?_cons_zero, List.getElem?_cons_succ, anyTy, D.isTy, truth_non, truth_bl, truth_int, truth_lst, truth_tup, asB_bl, asI_int, walk_lst, walk_tup, walk_str, items_lst, items_tup, len_lst, len_tup, len_str, int_int, int_bl, abs_int, list_lst, list_tup, tuple_lst, tuple_tup, all_lst, any_lst, lt_int, le_int, gt_int, ge_int, add_int, sub_int, eq_int, ne_int, ix_lst, ix_tup, sl_lst, sl_tup, rev_tup, rev_lst, at0, at1, at2,  bindT, bindTs, setOwn, slOf_lst, slOf_tup, slOf_int, slOf_bl, slOf_str, slOf_non, slOf_f,  List.set_cons_zero, List.set_cons_succ, List.length_cons, List.length_nil, Env.kill, Env.noOw, isOw_vl, isOw_ow, isOw_no, evs_nil, List.all_cons, List.all_nil, Option.getD_some, Option.getD_none, Option.map_some, Option.map_none, rtM_rt, rtM_nx, Bool.not_true, Bool.not_false, Bool.true_and, Bool.and_true, Bool.false_and, Bool.and_false, Bool.false_eq_true, if_true, if_false, ite_true, ite_false, Nat.reduceAdd, Nat.reduceLT, Nat.reduceLeDiff, Nat.zero_lt_succ, Nat.zero_le, Bool.xor_false, Bool.false_xor, Bool.true_xor, List.map_cons, List.map_nil, show evSl ns .scr (some 3) (some 63) = some (.lst ((gsC ns).map .int)) from rfl]
theorem gsC_len : (gsC ns).length ≤ 60 ∧ (gsC ns ≠ [] → (csC ns).length = 3) ∧ 1 ≤ (csC ns).length ∧ (csC ns).length ≤ 3 := by
  unfold gsC csC cut
  rw [HT.sIx_nat, HT.sIx_nat]
  refine ⟨?_, ?_, ?_, ?_⟩
  · rw [List.length_take]; omega
  · intro h
    have h0 := List.length_pos_iff.mpr h
    rw [List.length_take, List.length_drop] at h0
    rw [if_neg (fun z => by have := congrArg List.length z; rw [List.length_take] at this; simp at this; rcases this with h | h <;> simp_all), List.length_take]
    omega
  · split
    · simp
    · rename_i h; exact List.length_pos_iff.mpr h
  · split
    · simp
    · rw [List.length_take]; omega
theorem cx0 : run prog ns (k + 1) 8 [.scr, .int 3] = (exSs (cfK ns k) b_l_cells [.vl .scr, .vl (.int 3), .no, .no, .no, .no]).bd rtM := rfl
theorem set6c (a b c d e f v : Sl) : [a, b, c, d, e, f].set 2 v = [a, b, v, d, e, f] := rfl
theorem c8 : ∃ cs : List Int, 1 ≤ cs.length ∧ cs.length ≤ 3 ∧ run prog ns (k + 1) 8 [.scr, .int 3] = M.ret (.lst (cs.map .int)) := by
  obtain ⟨g1, g2, g3, g4⟩ := gsC_len (ns := ns)
  obtain ⟨s2, e1, cs, j, gs, e2, h1, h2, h3, h4⟩ := loopC (ns := ns) (k := k) (n := (csC ns).length) (enumD 0 ((gsC ns).map .int)) [.vl .scr, .vl (.int 3), .ow (.lst ((csC ns).map .int)), .no, .no, .no] ⟨csC ns, 0, gsC ns, rfl, rfl, rfl, g2, by omega⟩
  subst e2
  refine ⟨cs, by omega, by omega, ?_⟩
  rw [cx0, b_l_cells_eq, sq_asgO (lenlt rfl), cx1, bd_ret, set6c, slOf_own, sq_forA, cx2, bd_ret]
  show ((forGo _ _ _ _ [.vl .scr, .vl (.int 3), .ow (.lst ((csC ns).map .int)), .no, .no, .no]).bd _).bd rtM = _
  rw [e1, bd_ret, aft_nx, tailC, sq_share rfl, sq_ret]
  rfl
end
end LK
namespace LK
open PySem Mi
section
variable {ns : List Int} {k : Nat}
theorem bx0 (a b : D) : run prog ns (k + 1) 6 [a, b] = (exSs (cfK ns k) b_l_box [.vl a, .vl b, .no]).bd rtM := rfl
theorem pow18 : evOp .pow (.int 10) (.int 18) = some (.int (10 ^ 18)) := rfl
theorem c6 {cs : List Int} {j : Nat} (h : j < cs.length) : ∃ a b : Int, run prog ns (k + 1) 6 [.lst (cs.map .int), .int j] = M.ret (.lst [.int a, .int b, .int 0]) := by
  have h1 : decide ((j : Int) < ((cs.map D.int).length : Nat)) = true := decide_eq_true (by rw [List.length_map]; omega)
  have h2 : L2.atI (cs.map D.int) (j : Int) = some (.int cs[j]) := by
    rw [atI_nat, List.getElem?_map, List.getElem?_eq_getElem h]; rfl
  have h3 : ∀ b : Bool, small64 (if b = true then 1 else 0) = true := fun b => by cases b <;> decide
  have h4 : small64 39373 = true := by decide
  refine ⟨(if cs[j] < 0 then -cs[j] else cs[j]) * (if decide ((10 : Int) ^ 18 ≤ if cs[j] < 0 then -cs[j] else cs[j]) = true then 1 else 0), cs[j] % 2305843009213693951 + 39373 * (j : Int) + 12916, ?_⟩
  rw [bx0, b_l_box, sq_asg (lenlt rfl)]
  simp only [evE, evT, evP, evTOr, evTAnd, evAnd, evOr, evEs, evSrc, evO, evTs, tr, bd_ret, nex_ret, bd_assoc, bd_no, ofO_some, ofO_none, asB_ret, asB_no, List.getElem?_cons_zero, List.getElem?_cons_succ, anyTy, D.isTy, truth_non, truth_bl, truth_int, truth_lst, truth_tup, asB_bl, asI_int, walk_lst, walk_tup, walk_str, items_lst, items_tup, len_lst, len_tup, len_str, int_int, int_bl, abs_int, list_lst, list_tup, tuple_lst, tuple_tup, all_lst, any_lst, lt_int, le_int, gt_int, ge_int, add_int, sub_int, eq_int, ne_int, ix_lst, ix_tup, sl_lst, sl_tup, rev_tup, rev_lst, at0, at1, at2,  bindT, bindTs, setOwn, slOf_lst, slOf_tup, slOf_int, slOf_bl, slOf_str, slOf_non, slOf_f,  List.set_cons_zero, List.set_cons_succ, List.length_cons, List.length_nil, Env.kill, Env.noOw, isOw_vl, isOw_ow, isOw_no, evs_nil, List.all_cons, List.all_nil, Option.getD_some, Option.getD_none, Option.map_some, Option.map_none, rtM_rt, rtM_nx, Bool.not_true, Bool.not_false, Bool.true_and, Bool.and_true, Bool.false_and, Bool.and_false, Bool.false_eq_true, if_true, if_false, ite_true, ite_false, Nat.reduceAdd, Nat.reduceLT, Nat.reduceLeDiff, Nat.zero_lt_succ, Nat.zero_le, Bool.xor_false, Bool.false_xor, Bool.true_xor, List.map_cons, List.map_nil, h1, h2]
  rw [sq_ret]
  simp only [evE, evT, evP, evTOr, evTAnd, evAnd, evOr, evEs, evSrc, evO, evTs, tr, bd_ret, nex_ret, bd_assoc, bd_no, ofO_some, ofO_none, asB_ret, asB_no, List.getElem?_cons_zero, List.getElem?_cons_succ, anyTy, D.isTy, truth_non, truth_bl, truth_int, truth_lst, truth_tup, asB_bl, asI_int, walk_lst, walk_tup, walk_str, items_lst, items_tup, len_lst, len_tup, len_str, int_int, int_bl, abs_int, list_lst, list_tup, tuple_lst, tuple_tup, all_lst, any_lst, lt_int, le_int, gt_int, ge_int, add_int, sub_int, eq_int, ne_int, ix_lst, ix_tup, sl_lst, sl_tup, rev_tup, rev_lst, at0, at1, at2,  bindT, bindTs, setOwn, slOf_lst, slOf_tup, slOf_int, slOf_bl, slOf_str, slOf_non, slOf_f,  List.set_cons_zero, List.set_cons_succ, List.length_cons, List.length_nil, Env.kill, Env.noOw, isOw_vl, isOw_ow, isOw_no, evs_nil, List.all_cons, List.all_nil, Option.getD_some, Option.getD_none, Option.map_some, Option.map_none, rtM_rt, rtM_nx, Bool.not_true, Bool.not_false, Bool.true_and, Bool.and_true, Bool.false_and, Bool.and_false, Bool.false_eq_true, if_true, if_false, ite_true, ite_false, Nat.reduceAdd, Nat.reduceLT, Nat.reduceLeDiff, Nat.zero_lt_succ, Nat.zero_le, Bool.xor_false, Bool.false_xor, Bool.true_xor, List.map_cons, List.map_nil, pow18, mulR (h3 _), mulL h4, mod_int (show (0 : Int) < 2305843009213693951 by omega)]
  rw [if_pos (show 3 ≤ lineMax by unfold lineMax; omega)]
  rfl
end
end LK
namespace LK
open PySem Mi
section
variable {α β : Type} {b b' : Bx}
theorem at_bd {m : M α} {f : α → M β} {a : α} (h : m b = .ok a b') : (m.bd f) b = f a b' := by simp only [M.bd, h]
theorem at_nex {m : M α} {a : α} (h : m b = .ok a b') : m.nex b = .ok a b' := by simp only [M.nex, h]
theorem compGo_at {f : D → M (Option D)} {g : D → D} : ∀ ds : List D, (∀ d ∈ ds, f d b = .ok (some (g d)) b) → compGo f ds b = .ok (ds.map g) b
  | [], _ => rfl
  | d :: ds, h => by
    rw [compGo, at_bd (h d (List.mem_cons_self ..)), at_bd (compGo_at ds fun x hx => h x (List.mem_cons_of_mem _ hx))]
    rfl
end
section
variable {ns : List Int} {k : Nat}
def compL : ME := .comp (.boxed 18 (.call 6 (.cons false (.var 1) (.cons false (.var 2) .nil)))) (.slot 2) (.range (.bi .len (.var 1))) .nil [2]
theorem b_law_eq : b_law = (.cons (.ite (.notE (.call 17 .nil)) (.cons (.ret (.cst (.bl false))) .nil) .nil)
  (.cons (.asg false (.slot 1) (.call 8 (.cons false (.var 0) (.cons false (.cst (.int 3)) .nil))))
  (.cons (.ret (.bi .all compL)) .nil))) := rfl
theorem lx0 : run prog ns (k + 13) 19 [.scr] = (exSs (cfK ns (k + 12)) b_law [.vl .scr, .no, .no]).bd rtM := rfl
theorem cfK_cl (ns : List Int) (j : Nat) : (cfK ns j).cl = run prog ns j := rfl
theorem lq1 (c : Cfg) (s : Mi.Env) : evT c (.notE (.call 17 .nil)) s = ((c.cl 17 []).bd fun x => M.ofO (truth x)).bd fun b => M.ret (!b) := rfl
theorem lx1 (s : Mi.Env) : evT (cfK ns (k + 12)) (.notE (.call 17 .nil)) s none = .ok false none := by
  have e2 : (cfK ns (k + 12)).cl 17 [] none = .ok (.bl true) none := by rw [cfK_cl]; exact hand ns k
  have e := lq1 (cfK ns (k + 12)) s
  generalize (cfK ns (k + 12)).cl 17 [] = m at e e2
  rw [e, at_bd (a := true) (b' := none)]
  · rfl
  · rw [at_bd e2]
    rfl
theorem lq2 (c : Cfg) (s1 s2 : Sl) : evE c (.call 8 (.cons false (.var 0) (.cons false (.cst (.int 3)) .nil))) [.vl .scr, s1, s2] = c.cl 8 [.scr, .int 3] := rfl
theorem lx2 (s1 s2 : Sl) : evE (cfK ns (k + 12)) (.call 8 (.cons false (.var 0) (.cons false (.cst (.int 3)) .nil))) [.vl .scr, s1, s2] = run prog ns (k + 12) 8 [.scr, .int 3] := by rw [lq2, cfK_cl]
theorem lq3 (c : Cfg) (s0 : Sl) (x y : D) : evE c (.call 6 (.cons false (.var 1) (.cons false (.var 2) .nil))) [s0, .vl x, .vl y] = c.cl 6 [x, y] := rfl
theorem lq4 (c : Cfg) (s : Mi.Env) : evE c (.boxed 18 (.call 6 (.cons false (.var 1) (.cons false (.var 2) .nil)))) s = (evE c (.call 6 (.cons false (.var 1) (.cons false (.var 2) .nil))) s).bd fun x => (match x with
    | .lst [.int i, .int j, .int k] => fun b => (match b with
      | none => (match c.cl 18 [.box] (some (i, j, k)) with
        | .ok (.bl t) _ => .ok (.bl t) none
        | _ => .no)
      | some _ => .no)
    | _ => M.no) := rfl
theorem lq5 (c : Cfg) (s : Mi.Env) : evE c (.bi .all compL) s = ((evSrc c (.range (.bi .len (.var 1))) s).bd fun ds => if s.noOw [2] then
      (M.nex (compGo (fun d => match bindT (.slot 2) d (s.kill [2]) with
        | some s1 => (evTs c .nil s1).bd fun k => if k then (evE c (.boxed 18 (.call 6 (.cons false (.var 1) (.cons false (.var 2) .nil)))) s1).bd fun x => M.ret (some x) else M.ret none
        | none => M.no) ds)).bd fun r => if r.length ≤ lineMax then M.ret (.lst r) else M.no else M.no).bd fun x => M.ofO (evBi .all x) := rfl
theorem lq6 (c : Cfg) (s0 s2 : Sl) (xs : List D) : evE c (.bi .len (.var 1)) [s0, .vl (.lst xs), s2] = M.ret (.int xs.length) := rfl
theorem lx3 (cs : List Int) (j : Nat) (h : j < cs.length) : evE (cfK ns (k + 12)) (.boxed 18 (.call 6 (.cons false (.var 1) (.cons false (.var 2) .nil)))) [.vl .scr, .vl (.lst (cs.map .int)), .vl (.int j)] none = .ok (.bl true) none := by
  obtain ⟨a, c, e⟩ := c6 (ns := ns) (k := k + 11) h
  obtain ⟨b, e2⟩ := box18 (ns := ns) (k := k + 4) a c
  have e3 : evE (cfK ns (k + 12)) (.call 6 (.cons false (.var 1) (.cons false (.var 2) .nil))) [.vl .scr, .vl (.lst (cs.map .int)), .vl (.int j)] = M.ret (.lst [.int a, .int c, .int 0]) := by
    rw [lq3, cfK_cl]
    exact e
  have e5 : run prog ns (k + 12) 18 [.box] (some (a, c, 0)) = .ok (.bl true) b := e2
  rw [lq4, e3, bd_ret]
  simp only [e5]
theorem lx4 (cs : List Int) (h : cs.length < 1000) (s2 : Sl) (h2 : s2.isOw = false) : evE (cfK ns (k + 12)) (.bi .all compL) [.vl .scr, .vl (.lst (cs.map .int)), s2] none = .ok (.bl true) none := by
  have e1 : evSrc (cfK ns (k + 12)) (.range (.bi .len (.var 1))) [.vl .scr, .vl (.lst (cs.map .int)), s2] = M.ret (Mi.upTo 0 cs.length) := srcR (n := cs.length) ((lq6 _ _ _ _).trans (by rw [List.length_map])) (by omega)
  have e3 : Env.noOw [.vl .scr, .vl (.lst (cs.map .int)), s2] [2] = true := by
    show (!s2.isOw && true) = true
    rw [h2]; rfl
  rw [lq5, e1, bd_ret, if_pos e3]
  rw [at_bd (a := .lst ((Mi.upTo 0 cs.length).map fun _ => .bl true)) (b' := none)]
  · show M.ofO ((bools ((Mi.upTo 0 cs.length).map fun _ => D.bl true)).map fun bs => D.bl (bs.all id)) none = _
    rw [bools_map (fun _ => true)]
    have e4 : ((Mi.upTo 0 cs.length).map fun _ => true).all id = true := by
      rw [List.all_map]
      exact List.all_eq_true.mpr fun _ _ => rfl
    show M.ofO (some (D.bl (((Mi.upTo 0 cs.length).map fun _ => true).all id))) none = _
    rw [e4]
    rfl
  · rw [at_bd (a := (Mi.upTo 0 cs.length).map fun _ => .bl true) (b' := none)]
    · rw [if_pos (by rw [List.length_map, upTo_len]; unfold lineMax; omega)]
      rfl
    · refine at_nex (compGo_at _ fun d hd => ?_)
      unfold Mi.upTo at hd
      obtain ⟨j, hj, rfl⟩ := List.mem_map.mp hd
      have hj := List.mem_range.mp hj
      have e5 := lx3 (ns := ns) (k := k) cs j hj
      show ((evE (cfK ns (k + 12)) (.boxed 18 (.call 6 (.cons false (.var 1) (.cons false (.var 2) .nil)))) [.vl .scr, .vl (.lst (cs.map .int)), .vl (.int (0 + (j : Int)))]).bd fun x => M.ret (some x)) none = _
      rw [Int.zero_add, at_bd e5]
      rfl
theorem law_c (c : Cfg) (cs : List Int) (h17 : evT c (.notE (.call 17 .nil)) [.vl .scr, .no, .no] none = .ok false none) (h8 : c.cl 8 [.scr, .int 3] = M.ret (.lst (cs.map .int)))
    (h : evE c (.bi .all compL) [.vl .scr, .vl (.lst (cs.map .int)), .no] none = .ok (.bl true) none) : ((exSs c b_law [.vl .scr, .no, .no]).bd rtM) none = .ok (.bl true) none := by
  have e : exSs c b_law [.vl .scr, .no, .no] none = .ok (Flow.rt (D.bl true), [Sl.vl D.scr, Sl.vl (D.lst (cs.map .int)), Sl.no]) none := by
    rw [b_law_eq, sq_guard, at_bd h17, ff_eq, sq_asg (lenlt rfl), lq2, h8, bd_ret, sq_ret]
    have e1 : ([Sl.vl D.scr, Sl.no, Sl.no] : Mi.Env).set 1 (.vl (.lst (cs.map .int))) = [.vl .scr, .vl (.lst (cs.map .int)), .no] := rfl
    rw [e1, at_bd h]
    rfl
  rw [at_bd e]
  rfl
theorem law_eq : run prog ns (k + 13) 19 [.scr] none = .ok (.bl true) none := by
  obtain ⟨cs, h1, h2, e⟩ := c8 (ns := ns) (k := k + 11)
  rw [lx0]
  exact law_c _ cs (lx1 _) (by rw [cfK_cl]; exact e) (lx4 cs (by omega) .no rfl)
end
end LK
set_option maxHeartbeats 0
open PySem PySem.W PySem.Calls PyProof.Rows
theorem PySem.Challenge.cw_columnsfelt_k01_schemas_or_none_holds : PySem.Challenge.rw_columnsfelt_k01_schemas_or_none.Holds := by
  w_on; o_law
  refine HandSHeadRun.head_any (r := OpenLaw.row LK.RW) (q := view (OpenLaw.row LK.RW).prog [30]) (H := LK.hk) (ob := LK.ob) (M := 4000) (loose := LK.names) (d := HandSHeadRun.topDef (OpenLaw.row LK.RW).prog 30) (kwd := []) LK.ob_eq
    (by kernel_rfl) (fun s => by kernel_rfl) LK.run_head (by kernel_rfl) (by kernel_rfl) (by kernel_rfl) (by rfl) (by first | assumption | decide +kernel) (by decide +kernel) ⟨rfl, rfl, rfl, rfl, rfl, by decide +kernel⟩ ?hw ?hc
  case hw => w_witness2
  case hc =>
    refine L2.walk_ofE (l := LK.RW) (n := 63) (k := 13) (x := "_law_script") (CX := L2.CX0) rfl (by decide) (by kernel_rfl) ⟨rfl, by decide, by decide⟩ ?F (fun _ _ _ _ z => z)
    intro w mg fa h Y G hmg0
    obtain ⟨K, KX, c⟩ := Y
    have hmg : mg ("law" : PySem.Str) = some (.ref fa) := by
      have e : (HandSHeadRun.topDef (OpenLaw.row LK.RW).prog 30).name = ("law" : PySem.Str) := by kernel_rfl
      rw [← e]
      exact hmg0
    obtain ⟨fd, sp, hb, hsp, hF⟩ := Mi.law_F (P := LK.prog) (free := LK.free) (fn := LK.fn) (file := LK.file) (cs := LK.cs) (cds := LK.cds) (iL := 19) (LV := 13) (most := 63) (x := "_law_script") LK.ck (fl := LK.f_law) (by kernel_rfl) (by kernel_rfl) (by kernel_rfl) (fun ns _ => ⟨none, LK.law_eq (k := 0)⟩) (Pg := LK.RW.prog) (w := w) KX G c (by kernel_rfl) (by kernel_rfl) hmg
    exact ⟨K, fd, sp, KX, hb, hsp, hF⟩
