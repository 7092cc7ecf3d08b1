import PyProof.Rows.All
import Wide.All
import OpenK.AllK
import Wide.FinOn
import HandS.ForMost
import KE.SortData
import KE.KeyNested
import HandS.Exc
import HandS.Deep
import HandS.TupAny
import HandS.TupMul
import HandS.IsInst
import HandS.TupLe
import HandS.Style
import KE.LtData
import HandS.Wide
import KE.KDictKeyed
import KE.KDictWalk
import HandS.SetKeys
import HandS.Conv
import KE.KRevSl
import PyProof.SeqIndex
import KE.KDictPairs
import HandS.ExcOwn
import HandS.Iter
import HandS.Comp
import HandS.DictComp
import HandS.ExcInit
import KE.KExcSuper
import HandS.HeadWalk
import HandS.ExcField
import HandS.TryMany
import HandS.HeadHook1
import HandS.ExcIs
import HandS.TryOnly
import HandS.HeadHook2
import HandS.Head0
import HandS.Head1
import HandS.Head2
import HandS.HeadEnd
import HandS.Text
import PyProof.StrLawsChain
import PySem.Challenge.RW_columnlaws_k03_texts_refused
set_option Elab.async false
set_option linter.all false
set_option maxRecDepth 100000
set_option maxHeartbeats 4000000
/-! The small evaluator: values, its syntax, what it computes. -/
namespace Mi
open PySem

/-- plain values, lists and dicts by their content -/
inductive PV where
  | non | bl (b : Bool) | int (i : Int) | str (x : Str)
  | tup (xs : List PV) | lst (xs : List PV) | dct (ks : List (PV × PV))
  | ins (c : Str) (fs : List (Str × PV))
  /-- the script -/
  | scr (ns : List Int)
  deriving Inhabited

mutual
def PV.deq : (a b : PV) → Decidable (a = b)
  | .non, .non => .isTrue rfl
  | .bl a, .bl b => if h : a = b then .isTrue (by rw [h]) else .isFalse (by intro e; injection e; exact h (by assumption))
  | .int a, .int b => if h : a = b then .isTrue (by rw [h]) else .isFalse (by intro e; injection e; exact h (by assumption))
  | .str a, .str b => if h : a = b then .isTrue (by rw [h]) else .isFalse (by intro e; injection e; exact h (by assumption))
  | .tup a, .tup b => match deqs a b with | .isTrue h => .isTrue (by rw [h]) | .isFalse h => .isFalse (by intro e; injection e; exact h (by assumption))
  | .lst a, .lst b => match deqs a b with | .isTrue h => .isTrue (by rw [h]) | .isFalse h => .isFalse (by intro e; injection e; exact h (by assumption))
  | .dct a, .dct b => match deqk a b with | .isTrue h => .isTrue (by rw [h]) | .isFalse h => .isFalse (by intro e; injection e; exact h (by assumption))
  | .scr a, .scr b => if h : a = b then .isTrue (by rw [h]) else .isFalse (by intro e; injection e; exact h (by assumption))
  | .ins c a, .ins d b => match (inferInstance : Decidable (c = d)), deqf a b with
    | .isTrue h, .isTrue h' => .isTrue (by rw [h, h'])
    | .isFalse h, _ => .isFalse (by intro e; injection e; exact h (by assumption))
    | _, .isFalse h => .isFalse (by intro e; injection e; exact h (by assumption))
  | .non, .bl _ | .non, .int _ | .non, .str _ | .non, .tup _ | .non, .lst _ | .non, .dct _ | .non, .ins .. | .non, .scr _ => .isFalse (by intro e; cases e)
  | .bl _, .non | .bl _, .int _ | .bl _, .str _ | .bl _, .tup _ | .bl _, .lst _ | .bl _, .dct _ | .bl _, .ins .. | .bl _, .scr _ => .isFalse (by intro e; cases e)
  | .int _, .non | .int _, .bl _ | .int _, .str _ | .int _, .tup _ | .int _, .lst _ | .int _, .dct _ | .int _, .ins .. | .int _, .scr _ => .isFalse (by intro e; cases e)
  | .str _, .non | .str _, .bl _ | .str _, .int _ | .str _, .tup _ | .str _, .lst _ | .str _, .dct _ | .str _, .ins .. | .str _, .scr _ => .isFalse (by intro e; cases e)
  | .tup _, .non | .tup _, .bl _ | .tup _, .int _ | .tup _, .str _ | .tup _, .lst _ | .tup _, .dct _ | .tup _, .ins .. | .tup _, .scr _ => .isFalse (by intro e; cases e)
  | .lst _, .non | .lst _, .bl _ | .lst _, .int _ | .lst _, .str _ | .lst _, .tup _ | .lst _, .dct _ | .lst _, .ins .. | .lst _, .scr _ => .isFalse (by intro e; cases e)
  | .dct _, .non | .dct _, .bl _ | .dct _, .int _ | .dct _, .str _ | .dct _, .tup _ | .dct _, .lst _ | .dct _, .ins .. | .dct _, .scr _ => .isFalse (by intro e; cases e)
  | .ins .., .non | .ins .., .bl _ | .ins .., .int _ | .ins .., .str _ | .ins .., .tup _ | .ins .., .lst _ | .ins .., .dct _ | .ins .., .scr _ => .isFalse (by intro e; cases e)
  | .scr _, .non | .scr _, .bl _ | .scr _, .int _ | .scr _, .str _ | .scr _, .tup _ | .scr _, .lst _ | .scr _, .dct _ | .scr _, .ins .. => .isFalse (by intro e; cases e)
def deqs : (a b : List PV) → Decidable (a = b)
  | [], [] => .isTrue rfl
  | [], _ :: _ => .isFalse (by intro e; cases e)
  | _ :: _, [] => .isFalse (by intro e; cases e)
  | a :: as, b :: bs => match PV.deq a b, deqs as bs with
    | .isTrue h, .isTrue h' => .isTrue (by rw [h, h'])
    | .isFalse h, _ => .isFalse (by intro e; injection e; exact h (by assumption))
    | _, .isFalse h => .isFalse (by intro e; injection e; exact h (by assumption))
def deqk : (a b : List (PV × PV)) → Decidable (a = b)
  | [], [] => .isTrue rfl
  | [], _ :: _ => .isFalse (by intro e; cases e)
  | _ :: _, [] => .isFalse (by intro e; cases e)
  | (a, a') :: as, (b, b') :: bs => match PV.deq a b, PV.deq a' b', deqk as bs with
    | .isTrue h, .isTrue h', .isTrue h2 => .isTrue (by rw [h, h', h2])
    | .isFalse h, _, _ => .isFalse (by intro e; injection e with e1 e2; injection e1; exact h (by assumption))
    | _, .isFalse h, _ => .isFalse (by intro e; injection e with e1 e2; injection e1; exact h (by assumption))
    | _, _, .isFalse h => .isFalse (by intro e; injection e; exact h (by assumption))
def deqf : (a b : List (Str × PV)) → Decidable (a = b)
  | [], [] => .isTrue rfl
  | [], _ :: _ => .isFalse (by intro e; cases e)
  | _ :: _, [] => .isFalse (by intro e; cases e)
  | (a, a') :: as, (b, b') :: bs => match (inferInstance : Decidable (a = b)), PV.deq a' b', deqf as bs with
    | .isTrue h, .isTrue h', .isTrue h2 => .isTrue (by rw [h, h', h2])
    | .isFalse h, _, _ => .isFalse (by intro e; injection e with e1 e2; injection e1; exact h (by assumption))
    | _, .isFalse h, _ => .isFalse (by intro e; injection e with e1 e2; injection e1; exact h (by assumption))
    | _, _, .isFalse h => .isFalse (by intro e; injection e; exact h (by assumption))
end
instance : DecidableEq PV := PV.deq

/-- what a slot holds: nothing; a value that nobody changes; a list (dict) of ours, d levels below the top also ours; the same, locked; the same, lent -/
inductive Sl where
  | u | v (p : PV) | o (d : Nat) (p : PV) | l (d : Nat) (p : PV) | b (d : Nat) (p : PV)
  deriving Inhabited
/-- an expression's value: shared; new and ours; the slot i's own; taken out of slot i for a call -/
inductive Tm where
  | v (p : PV) | o (d : Nat) (p : PV) | s (i : Nat) | m (i d : Nat) (p : PV)

abbrev Evn := List Sl
def Evn.at (ρ : Evn) (i : Nat) : Sl := ρ.getD i .u
@[simp] theorem Evn.at_zero (a : Sl) (ρ : Evn) : Evn.at (a :: ρ) 0 = a := rfl
@[simp] theorem Evn.at_succ (a : Sl) (ρ : Evn) (i : Nat) : Evn.at (a :: ρ) (i + 1) = Evn.at ρ i := rfl

inductive R (α : Type) where
  | ok (a : α) (ρ : Evn)
  | ex (c : Str) (fs : List (Str × PV)) (ρ : Evn)
  | no
def R.bd {α β : Type} : R α → (α → Evn → R β) → R β
  | .ok a ρ, f => f a ρ
  | .ex c fs ρ, _ => .ex c fs ρ
  | .no, _ => .no
@[simp] theorem R.bd_ok {α β : Type} (a : α) (ρ : Evn) (f : α → Evn → R β) : (R.ok a ρ).bd f = f a ρ := rfl
@[simp] theorem R.bd_ex {α β : Type} (c : Str) (fs : List (Str × PV)) (ρ : Evn) (f : α → Evn → R β) : (R.ex c fs ρ : R α).bd f = .ex c fs ρ := rfl
@[simp] theorem R.bd_no {α β : Type} (f : α → Evn → R β) : (R.no : R α).bd f = .no := rfl
/-- the slots behind, by a function -/
def R.env {α : Type} (g : Evn → Evn) : R α → R α
  | .ok a ρ => .ok a (g ρ)
  | .ex c fs ρ => .ex c fs (g ρ)
  | .no => .no
@[simp] theorem R.env_ok {α : Type} (g : Evn → Evn) (a : α) (ρ : Evn) : (R.ok a ρ).env g = .ok a (g ρ) := rfl
@[simp] theorem R.env_ex {α : Type} (g : Evn → Evn) (c : Str) (fs : List (Str × PV)) (ρ : Evn) : (R.ex c fs ρ : R α).env g = .ex c fs (g ρ) := rfl
@[simp] theorem R.env_no {α : Type} (g : Evn → Evn) : (R.no : R α).env g = .no := rfl
def R.of {α : Type} (ρ : Evn) : Option α → R α
  | some a => .ok a ρ
  | none => .no
@[simp] theorem R.of_some {α : Type} (ρ : Evn) (a : α) : R.of ρ (some a) = .ok a ρ := rfl
@[simp] theorem R.of_none {α : Type} (ρ : Evn) : R.of ρ (none : Option α) = .no := rfl

/-- how a call ends: the parameters' slots at the end beside it -/
inductive CR where
  | ret (t : Tm) (ρ : Evn)
  | ex (c : Str) (fs : List (Str × PV)) (ρ : Evn)
  | no

/-! ### data -/
mutual
def PV.toD : PV → PyData
  | .non => .none
  | .bl b => .bool b
  | .int i => .int i
  | .str x => .str x
  | .tup xs => .tuple (toDs xs)
  | .lst xs => .list (toDs xs)
  | .dct _ => .none
  | .ins _ _ => .none
  | .scr _ => .none
def toDs : List PV → List PyData
  | [] => []
  | x :: xs => x.toD :: toDs xs
end
mutual
/-- neither dicts nor instances in it -/
def PV.plain : PV → Bool
  | .non | .bl _ | .int _ | .str _ => true
  | .tup xs => plains xs
  | .lst xs => plains xs
  | .dct _ => false
  | .ins _ _ => false
  | .scr _ => false
def plains : List PV → Bool
  | [] => true
  | x :: xs => x.plain && plains xs
end
mutual
/-- nothing that can be changed in it -/
def PV.pure : PV → Bool
  | .non | .bl _ | .int _ | .str _ => true
  | .tup xs => pures xs
  | .lst _ => false
  | .dct _ => false
  | .ins _ _ => false
  | .scr _ => true
def pures : List PV → Bool
  | [] => true
  | x :: xs => x.pure && pures xs
end
mutual
def PV.dep : PV → Nat
  | .non | .bl _ | .int _ | .str _ => 0
  | .tup xs => deps xs + 1
  | .lst xs => deps xs + 1
  | .dct _ => 0
  | .ins _ _ => 0
  | .scr _ => 0
def deps : List PV → Nat
  | [] => 0
  | x :: xs => max x.dep (deps xs)
end
/-- nothing that can be changed below the n-th level -/
def PV.pureB : Nat → PV → Bool
  | 0, p => p.pure
  | n + 1, .lst xs => xs.all (PV.pureB n)
  | n + 1, .dct ks => ks.all fun q => q.1.pure && PV.pureB n q.2
  | _ + 1, p => p.pure
mutual
/-- a dict's key: numbers, texts, None and tuples of such -/
def PV.key? : PV → Option NestedKey
  | .non => some .none
  | .int i => some (.num i)
  | .str x => some (.text x)
  | .tup xs => (keys? xs).map .tup
  | _ => none
def keys? : List PV → Option (List NestedKey)
  | [] => some []
  | x :: xs => match x.key?, keys? xs with
    | some a, some as => some (a :: as)
    | _, _ => none
end
def PV.isTup : PV → Bool
  | .tup _ => true
  | _ => false
/-- a key of its kind (a tuple or not), depth bounded -/
def PV.keyOk : PV → Bool
  | .int _ => true
  | .str _ => true
  | .tup xs => (keys? xs).isSome && decide (deps xs ≤ 6)
  | _ => false
def keyLike (k : PV) (ks : List (PV × PV)) : Bool := k.keyOk && ks.all fun q => q.1.keyOk && q.1.isTup == k.isTup

def lim : Nat := sizeLine
def PV.eqOk (p : PV) : Bool := p.plain && decide (p.dep ≤ 60)
def pvEq (a b : PV) : Bool := PyData.eqv a.toD b.toD

/-- whether, not to be reckoned -/
noncomputable def dec (p : Prop) : Bool := @decide p (Classical.propDecidable p)
theorem dec_iff {p : Prop} : dec p = true ↔ p := by unfold dec; exact @decide_eq_true_iff p (Classical.propDecidable p)
@[simp] theorem dec_true {p : Prop} (h : p) : dec p = true := dec_iff.mpr h
/-! ### operations -/
def pAdd : PV → PV → Option PV
  | .int i, .int j => some (.int (i + j))
  | .str a, .str b => if a.length + b.length ≤ lim then some (.str (a ++ b)) else none
  | .tup a, .tup b => if a.length + b.length ≤ lim then some (.tup (a ++ b)) else none
  | .lst a, .lst b => if a.length + b.length ≤ lim then some (.lst (a ++ b)) else none
  | _, _ => none
noncomputable def pMul : PV → PV → Option PV
  | .int i, .int j => if dec ((-(2 ^ 64) < i ∧ i < 2 ^ 64) ∨ (-(2 ^ 64) < j ∧ j < 2 ^ 64)) then some (.int (i * j)) else none
  | .lst a, .int k => if dec (0 ≤ k ∧ k ≤ 1000 ∧ a.length ≤ 1000) then some (.lst (List.replicate k.toNat a).flatten) else none
  | .tup a, .int k => if dec (0 ≤ k ∧ k ≤ 1000 ∧ a.length ≤ 1000) then some (.tup (List.replicate k.toNat a).flatten) else none
  | _, _ => none
def pInt (c : Int → Int → Bool) (f : Int → Int → Int) : PV → PV → Option PV
  | .int i, .int j => if c i j then some (.int (f i j)) else none
  | _, _ => none
def pCmp (f : Int → Int → Bool) (g : List Nat → List Nat → Bool) : PV → PV → Option PV
  | .int i, .int j => some (.bl (f i j))
  | .str a, .str b => some (.bl (g a.cps.toList b.cps.toList))
  | _, _ => none
def dGet (ks : List (PV × PV)) (k : PV) : Option PV := (ks.find? fun q => decide (q.1 = k)).map (·.2)
def dPut (ks : List (PV × PV)) (k v : PV) : List (PV × PV) :=
  if ks.any (fun q => decide (q.1 = k)) then ks.map fun q => if q.1 = k then (q.1, v) else q else ks ++ [(k, v)]
def dDel (ks : List (PV × PV)) (k : PV) : List (PV × PV) := ks.filter fun q => !decide (q.1 = k)
/-- x in s -/
def pIn (x s : PV) : Option Bool :=
  match s with
  | .tup ys | .lst ys => if x.eqOk && ys.all PV.eqOk then some (ys.any fun y => pvEq y x) else none
  | .dct ks => if keyLike x ks then some (dGet ks x).isSome else none
  | .str z => match x with
    | .str y => if y.cps.size = 1 then some (decide (y.cps.getD 0 0 ∈ z.cps.toList)) else none
    | _ => none
  | _ => none
def pIx : PV → PV → Option PV
  | .tup xs, .int i | .lst xs, .int i => L2.atI xs i
  | .scr ns, .int i => (L2.atI ns i).map .int
  | .str z, .int i => if z.length ≤ lim then (L2.atI z.cps.toList i).map fun c => .str ⟨#[c]⟩ else none
  | .dct ks, k => if keyLike k ks then dGet ks k else none
  | _, _ => none
def cutP {α : Type} (xs : List α) (lo hi : Option Int) : List α := (xs.drop (HT.sIx xs.length 0 lo)).take (HT.sIx xs.length xs.length hi - HT.sIx xs.length 0 lo)
def pSlc (lo hi : Option Int) : PV → Option PV
  | .tup xs => some (.tup (cutP xs lo hi))
  | .lst xs => some (.lst (cutP xs lo hi))
  | .str z => if z.length ≤ lim then some (.str ⟨(cutP z.cps.toList lo hi).toArray⟩) else none
  | _ => none
def pRev : PV → Option PV
  | .tup xs => some (.tup xs.reverse)
  | .lst xs => some (.lst xs.reverse)
  | _ => none
/-- what a value's items are when it is walked -/
def seqOf : PV → Option (List PV)
  | .tup xs | .lst xs => some xs
  | .str z => some (z.cps.toList.map fun c => .str ⟨#[c]⟩)
  | _ => none
def pLen : PV → Option Nat
  | .tup xs | .lst xs => some xs.length
  | .scr ns => some ns.length
  | .dct ks => some ks.length
  | .str z => if z.length ≤ lim then some z.length else none
  | _ => none
def seqT : PV → Option (List PV)
  | .tup xs | .lst xs => some xs
  | .dct ks => some (ks.map (·.1))
  | _ => none
def seqL : PV → Option (List PV)
  | .tup xs | .lst xs => some xs
  | _ => none
open Classical in
/-- sorted -/
noncomputable def pSort (xs : List PV) : Option (List PV) :=
  if xs = [.tup []] then some xs
  else if PySem.W.AllAlike (xs.map PV.toD) ∧ PySem.W.Sortable (xs.map PV.toD) ∧ (∀ x ∈ xs, x.plain = true ∧ x.dep ≤ 60) then some (xs.mergeSort (PySem.W.dataLe false PV.toD)) else none
def ints? : List PV → Option (List Int)
  | [] => some []
  | .int i :: xs => (ints? xs).map (i :: ·)
  | _ :: _ => none
def strs? : List PV → Option (List Str)
  | [] => some []
  | .str i :: xs => (strs? xs).map (i :: ·)
  | _ :: _ => none
def pairs? : List PV → Option (List (PV × PV))
  | [] => some []
  | .tup [k, v] :: xs => (pairs? xs).map ((k, v) :: ·)
  | _ :: _ => none
def minI : List Int → Option Int
  | [] => none
  | x :: xs => some (xs.foldl (fun m y => if y < m then y else m) x)
def maxI : List Int → Option Int
  | [] => none
  | x :: xs => some (xs.foldl (fun m y => if y > m then y else m) x)

inductive Ty where
  | int | bool | str | list | tuple | dict
  deriving DecidableEq
def Ty.name : Ty → String
  | .int => "int" | .bool => "bool" | .str => "str" | .list => "list" | .tuple => "tuple" | .dict => "dict"
def isTy : Ty → PV → Bool
  | .int, .int _ | .int, .bl _ | .bool, .bl _ | .str, .str _ | .list, .lst _ | .list, .scr _ | .tuple, .tup _ | .dict, .dct _ => true
  | _, _ => false

inductive Pr where
  | add | sub | mul | mod | fdiv | pow | shl | shr | neg
  | eq | ne | lt | le | gt | ge | isIn | notIn | isNon | notNon | isTrue | isFalse
  | ix | rev | slc (lo hi : Bool)
  | len | tuple | list | sorted | sum | abs | str | int | min1 | max1 | min2 | max2 | range1 | range2 | range3
  | dictP | join | split | index | get1 | get2 | items | values
  | isi (t : Ty)
  deriving DecidableEq

/-- lo, lo + c, .. -/
def rangeL (lo : Int) (n : Nat) (c : Int) : List PV := (List.range n).map fun (i : Nat) => .int (lo + (i : Int) * c)

def one (f : PV → Option PV) : List PV → Option PV
  | [a] => f a
  | _ => none
def two (f : PV → PV → Option PV) : List PV → Option PV
  | [a, b] => f a b
  | _ => none
def three (f : PV → PV → PV → Option PV) : List PV → Option PV
  | [a, b, c] => f a b c
  | _ => none
@[simp] theorem one_eq (f : PV → Option PV) (a : PV) : one f [a] = f a := rfl
@[simp] theorem two_eq (f : PV → PV → Option PV) (a b : PV) : two f [a, b] = f a b := rfl
@[simp] theorem three_eq (f : PV → PV → PV → Option PV) (a b c : PV) : three f [a, b, c] = f a b c := rfl
theorem one_some {f : PV → Option PV} {ps : List PV} {r : PV} (h : one f ps = some r) : ∃ a, ps = [a] ∧ f a = some r := by
  match ps, h with | [a], h => exact ⟨a, rfl, h⟩
theorem two_some {f : PV → PV → Option PV} {ps : List PV} {r : PV} (h : two f ps = some r) : ∃ a b, ps = [a, b] ∧ f a b = some r := by
  match ps, h with | [a, b], h => exact ⟨a, b, rfl, h⟩
theorem three_some {f : PV → PV → PV → Option PV} {ps : List PV} {r : PV} (h : three f ps = some r) : ∃ a b c, ps = [a, b, c] ∧ f a b c = some r := by
  match ps, h with | [a, b, c], h => exact ⟨a, b, c, rfl, h⟩
def onI (f : Int → Option PV) : PV → Option PV
  | .int i => f i
  | _ => none
def onII (f : Int → Int → Option PV) : PV → PV → Option PV
  | .int i, .int j => f i j
  | _, _ => none
def pIs (c : Bool) : PV → Option PV
  | .bl b => some (.bl (b == c))
  | _ => none
def isNonP : PV → Bool
  | .non => true
  | _ => false
def pToInt : PV → Option PV
  | .int i => some (.int i)
  | .bl b => some (.int (if b then 1 else 0))
  | .str a => match PySem.intText? a with | some n => if a.length ≤ 640 then some (.int n) else none | none => none
  | _ => none
def onInts (f : List Int → Option Int) : PV → Option PV
  | .lst xs => ((ints? xs).bind f).map .int
  | .scr ns => (f ns).map .int
  | _ => none
def pDictP : PV → Option PV
  | .lst xs => match pairs? xs with
    | some ks => if (match ks with | [] => true | q :: _ => keyLike q.1 ks) then some (.dct (ks.foldl (fun d q => dPut d q.1 q.2) [])) else none
    | none => none
  | _ => none
def pJoin : PV → PV → Option PV
  | .str a, s => match (seqL s).bind strs? with
    | some ys => if (ys.map (·.length)).sum + ys.length * a.length ≤ 16777216 then some (.str (Txt.join a ys)) else none
    | none => none
  | _, _ => none
def pSplit : PV → PV → Option PV
  | .str a, .str b => if b.length ≠ 0 ∧ a.length + 2 ≤ lim then some (.lst ((Txt.split a b).map .str)) else none
  | _, _ => none
def pIndex : PV → PV → Option PV
  | .tup xs, x | .lst xs, x => if x.eqOk && xs.all PV.eqOk then
      let j := xs.findIdx fun y => pvEq y x
      if j < xs.length then some (.int j) else none
    else none
  | _, _ => none
def pGet (k d : PV) : PV → Option PV
  | .dct ks => if keyLike k ks then some ((dGet ks k).getD d) else none
  | _ => none
def pItems : PV → Option PV
  | .dct ks => some (.lst (ks.map fun q => .tup [q.1, q.2]))
  | _ => none
def pVals : PV → Option PV
  | .dct ks => some (.lst (ks.map (·.2)))
  | _ => none
noncomputable def evP : Pr → List PV → Option PV
  | .add => two pAdd
  | .sub => two (pInt (fun _ _ => true) (· - ·))
  | .mul => two pMul
  | .mod => two (pInt (fun _ j => decide (0 < j)) (· % ·))
  | .fdiv => two (pInt (fun _ j => dec (0 < j ∧ j < 1073741824)) (· / ·))
  | .pow => two (pInt (fun i j => dec (0 ≤ j ∧ j ≤ 1000000 ∧ i.natAbs < 2 ^ 64)) (fun i j => i ^ j.toNat))
  | .shl => two (pInt (fun i j => dec (0 ≤ j ∧ j ≤ 1000000 ∧ i.natAbs < 2 ^ 64)) (fun i j => i * 2 ^ j.toNat))
  | .shr => two (pInt (fun _ j => decide (0 ≤ j)) (fun i j => i / 2 ^ j.toNat))
  | .neg => one (onI fun i => some (.int (-i)))
  | .eq => two fun a b => if a.eqOk && b.eqOk then some (.bl (pvEq a b)) else none
  | .ne => two fun a b => if a.eqOk && b.eqOk then some (.bl (!pvEq a b)) else none
  | .lt => two (pCmp (fun i j => decide (i < j)) (fun i j => decide (i < j)))
  | .le => two (pCmp (fun i j => decide (i ≤ j)) (fun i j => !decide (j < i)))
  | .gt => two (pCmp (fun i j => decide (j < i)) (fun i j => decide (j < i)))
  | .ge => two (pCmp (fun i j => decide (j ≤ i)) (fun i j => !decide (i < j)))
  | .isIn => two fun a b => (pIn a b).map .bl
  | .notIn => two fun a b => (pIn a b).map fun c => .bl (!c)
  | .isNon => one fun a => some (.bl (isNonP a))
  | .notNon => one fun a => some (.bl (!isNonP a))
  | .isTrue => one (pIs true)
  | .isFalse => one (pIs false)
  | .ix => two pIx
  | .rev => one pRev
  | .slc true true => three fun a b c => match b, c with | .int i, .int j => pSlc (some i) (some j) a | _, _ => none
  | .slc true false => two fun a b => match b with | .int i => pSlc (some i) none a | _ => none
  | .slc false true => two fun a b => match b with | .int j => pSlc none (some j) a | _ => none
  | .slc false false => one fun a => pSlc none none a
  | .len => one fun a => (pLen a).map fun n => .int n
  | .tuple => one fun a => (seqL a).map .tup
  | .list => one fun a => (seqT a).map .lst
  | .sorted => one fun a => match a with | .lst xs => (pSort xs).map .lst | _ => none
  | .sum => one (onInts fun is => some is.sum)
  | .abs => one (onI fun i => some (.int (if i < 0 then -i else i)))
  | .str => one (onI fun i => if i.natAbs.log2 < 1920 then some (.str (toString i)) else none)
  | .int => one pToInt
  | .min1 => one (onInts minI)
  | .max1 => one (onInts maxI)
  | .min2 => two (onII fun i j => some (.int (if j < i then j else i)))
  | .max2 => two (onII fun i j => some (.int (if j > i then j else i)))
  | .range1 => one (onI fun n => if dec (n ≤ 2 ^ 20 ∧ -(2 ^ 20) ≤ n) then some (.lst (rangeL 0 n.toNat 1)) else none)
  | .range2 => two (onII fun a b => if dec (b ≤ 2 ^ 20 ∧ -(2 ^ 20) ≤ a ∧ a ≤ 2 ^ 20 ∧ -(2 ^ 20) ≤ b) then some (.lst (rangeL a (b - a).toNat 1)) else none)
  | .range3 => fun _ => none
  | .dictP => one pDictP
  | .join => two pJoin
  | .split => two pSplit
  | .index => two pIndex
  | .get1 => two fun d k => pGet k .non d
  | .get2 => three fun d k e => match e with
    | .lst _ => none
    | .dct _ => none
    | _ => pGet k e d
  | .items => one pItems
  | .values => one pVals
  | .isi t => one fun a => match a with
    | .dct _ => none
    | .ins _ _ => none
    | _ => some (.bl (isTy t a))
inductive Tag where
  | str | lst | tup | dct | oth
  deriving DecidableEq
def PV.tag : PV → Tag
  | .str _ => .str
  | .lst _ => .lst
  | .tup _ => .tup
  | .dct _ => .dct
  | _ => .oth
/-- as a method: of which values -/
def Pr.recv : Pr → Tag → Bool
  | .join, .str | .split, .str | .index, .lst | .index, .tup | .get1, .dct | .get2, .dct | .items, .dct | .values, .dct => true
  | _, _ => false
/-- does it hand back a new list or dict -/
def Pr.fresh : Pr → Bool
  | .ix | .get1 | .get2 => false
  | _ => true
def mkTm (f : Bool) : PV → Tm
  | .lst xs => if f then .o 0 (.lst xs) else .v (.lst xs)
  | .dct ks => if f then .o 0 (.dct ks) else .v (.dct ks)
  | p => .v p

/-! ### syntax -/
inductive Cn where
  | non | bl (b : Bool) | int (i : Int) | str (x : Str)
def Cn.pv : Cn → PV
  | .non => .non | .bl b => .bl b | .int i => .int i | .str x => .str x
/-- what is changed in place -/
inductive Mu where
  | append | extend | pop | popAt | reverse | dpop2 | setdef
  deriving DecidableEq
inductive Tg where
  | n (i : Nat) | t (is : List Nat)

inductive Ex (F : Type) where
  | var (i : Nat) | mv (i : Nat) | fz (i : Nat) | io (i : Nat)
  | c (k : Cn) | gl (x : Str) (p : PV)
  | tup (es : List (Ex F)) | lst (d : Nat) (es : List (Ex F)) | dnew
  | pr (p : Pr) (es : List (Ex F))
  | cut (a b c : Ex F)
  | me (p : Pr) (e : Ex F) (es : List (Ex F))
  | and (es : List (Ex F)) | or (es : List (Ex F)) | not (e : Ex F) | ite (c a b : Ex F)
  | chain (p q : Pr) (a b c : Ex F)
  | call (f : F) (es : List (Ex F))
  | sortK (f : F) (e : Ex F)
  | lc (d : Nat) (e : Ex F) (t : Tg) (ws : List Nat) (it : Ex F) (cs : List (Ex F))
  | lc2 (d : Nat) (e : Ex F) (t : Tg) (ws : List Nat) (it : Ex F) (cs : List (Ex F)) (t' : Tg) (ws' : List Nat) (it' : Ex F) (cs' : List (Ex F))
  | dc (d : Nat) (k e : Ex F) (t : Tg) (ws : List Nat) (it : Ex F) (cs : List (Ex F))
  | mu (m : Mu) (i : Nat) (es : List (Ex F))
  | sdApp (i : Nat) (k e : Ex F)
  /-- never reached -/
  | nev
/-- whether 'except x' takes an exception of the class c -/
def catches (x c : Str) : Bool := decide (x = c) || decide (x = "RuleError")
/-- what an except suite makes of its exception -/
inductive Hx where
  | fld (f : Str) | is (x : Str) | c (k : Cn) | tup (es : List Hx) | lst (es : List Hx) | ite (a b c : Hx)
inductive Sm (F : Type) where
  | asg (i : Nat) (e : Ex F) | asgO (i d : Nat) (e : Ex F) | unp (is : List Nat) (e : Ex F)
  | setI (i : Nat) (k e : Ex F)
  | ixApp (i : Nat) (k e : Ex F)
  | ex (e : Ex F) | ret (e : Ex F) | retN | pass
  | ite (c : Ex F) (a b : List (Sm F))
  | for (t : Tg) (it : Ex F) (body : List (Sm F))
  | wh (c : Ex F) (body : List (Sm F))
  | raise (c : Str) (names : List Str) (es : List (Ex F))
  /-- a, b = x, y -/
  | par (is : List Nat) (es : List (Ex F))
  /-- try: body / except x as i: return h (cs: the classes that may come) -/
  | tryR (body : List (Sm F)) (cs : List Str) (x : Str) (i : Nat) (h : Hx)
  /-- .. with a suite that does not look at the exception -/
  | tryP (body : List (Sm F)) (cs : List Str) (x : Str) (i : Option Nat) (ss : List (Sm F))
  | nev

/-- to a depth of ours: 0 is shared -/
def Tm.dn : Nat → Tm → Option PV
  | 0, .v p => some p
  | 0, .o _ p => some p
  | n + 1, .o d p => if n ≤ d then some p else none
  | _, _ => none
def Sl.mk : Nat → PV → Sl
  | 0, p => .v p
  | n + 1, p => .o n p
def bindT (t : Tg) (x : PV) (ρ : Evn) : Option Evn := match t with
  | .n i => some (ρ.set i (.v x))
  | .t is => match x with
    | .tup xs => if xs.length = is.length then some ((is.zip xs).foldl (fun r q => r.set q.1 (.v q.2)) ρ) else none
    | _ => none
def wipeE (ws : List Nat) (ρ : Evn) : Evn := ws.foldr (fun i r => r.set i .u) ρ
/-- the slots ws as they were -/
def backE : List Nat → Evn → Evn → Evn
  | [], _, r => r
  | v :: vs, old, r => backE vs old (r.set v (Evn.at (wipeE vs old) v))
def Sl.free : Sl → Bool
  | .l _ _ => false
  | .b _ _ => false
  | _ => true
/-- may the slot i get another value -/
def canSet (ios : List Nat) (ρ : Evn) (i : Nat) : Bool := !ios.contains i && (ρ.at i).free && decide (i < ρ.length)
def Tg.is : Tg → List Nat
  | .n i => [i]
  | .t is => is
def bindS (ios : List Nat) (t : Tg) (x : PV) (ρ : Evn) : Option Evn := if t.is.all (canSet ios ρ) && decide t.is.Nodup then bindT t x ρ else none
def Tm.pv (ρ : Evn) : Tm → Option PV
  | .v p => some p
  | .o _ p => some p
  | .s i => match ρ.at i with | .o _ p => some p | .l _ p => some p | _ => none
  | .m _ _ _ => none
/-- as an operation's argument: shared, ours with shared items, or a slot's of that kind -/
def Tm.arg (ρ : Evn) : Tm → Option PV
  | .v p => some p
  | .o 0 p => some p
  | .s i => match ρ.at i with | .o 0 p => some p | .l 0 p => some p | _ => none
  | _ => none
def Tm.args (ρ : Evn) : List Tm → Option (List PV)
  | [] => some []
  | t :: ts => match t.arg ρ, Tm.args ρ ts with | some p, some ps => some (p :: ps) | _, _ => none
/-- the slot i is no longer locked -/
def unlock (i : Nat) (r : Evn) : Evn := match r.at i with | .l d p => r.set i (.o d p) | _ => r
/-- what a walk's source is: its items, the slots while it is walked, the slots behind it, the slot that must stay -/
structure Wk where
  xs : List PV
  ρ : Evn
  back : Evn → Evn
  lk : Option (Nat × PV)
def Wk.chk (k : Wk) (r : Evn) : Prop := match k.lk with | some (i, p) => r.at i = .l 0 p | none => True
/-- as a walk's source -/
def Tm.walk (ρ : Evn) : Tm → Option Wk
  | .v p => (seqOf p).map fun xs => ⟨xs, ρ, id, none⟩
  | .o 0 p => (seqOf p).map fun xs => ⟨xs, ρ, id, none⟩
  | .s i => match ρ.at i with
    | .o 0 p => (seqOf p).map fun xs => ⟨xs, ρ.set i (.l 0 p), unlock i, some (i, p)⟩
    | .l 0 p => (seqOf p).map fun xs => ⟨xs, ρ, id, some (i, p)⟩
    | _ => none
  | _ => none
/-- what a callee gets -/
def Tm.par (ρ : Evn) : Tm → Option Sl
  | .v p => some (.v p)
  | .o d p => some (.o d p)
  | .s i => match ρ.at i with | .o _ p => some (.v p) | .l _ p => some (.v p) | _ => none
  | .m _ d p => some (.o d p)
def Tm.pars (ρ : Evn) : List Tm → Option (List Sl)
  | [] => some []
  | t :: ts => match t.par ρ, Tm.pars ρ ts with | some p, some ps => some (p :: ps) | _, _ => none
def Tm.lent : Tm → Bool
  | .s _ => true
  | _ => false
def Tm.pureOk : Tm → Bool
  | .v p => p.pure
  | .o d p => p.pureB (d + 1)
  | _ => false
def Sl.pureOk : Sl → Bool
  | .u => true
  | .v p => p.pure
  | .o d p => p.pureB (d + 1)
  | _ => false
/-- the slots that were lent to the callee's parameters come back -/
def giveBack : List Tm → Evn → Evn → Evn
  | .m i _ _ :: ts, s :: fin, ρ => giveBack ts fin (ρ.set i s)
  | _ :: ts, _ :: fin, ρ => giveBack ts fin ρ
  | _, _, ρ => ρ
def ioPure : List Tm → Evn → Bool
  | .m _ _ _ :: ts, s :: fin => s.pureOk && ioPure ts fin
  | _ :: ts, _ :: fin => ioPure ts fin
  | _, _ => true
def afterCall (ts : List Tm) (ρ : Evn) : CR → R Tm
  | .ret t fin => if !ts.any Tm.lent || (t.pureOk && ioPure ts fin) then
      (match t with | .v p => .ok (.v p) (giveBack ts fin ρ) | .o d p => .ok (.o d p) (giveBack ts fin ρ) | _ => .no) else .no
  | .ex c fs fin => if !ts.any Tm.lent || (fs.all (fun q => q.2.pure) && ioPure ts fin) then .ex c fs (giveBack ts fin ρ) else .no
  | .no => .no
def ioFree : List Tm → Bool
  | [] => true
  | .m i _ _ :: ts => ts.all (fun t => match t with | .s j => j ≠ i | _ => true) && ioFree ts
  | _ :: ts => ioFree ts

/-- what is lent for change -/
def ioSlots {F : Type} : List (Ex F) → List Nat
  | [] => []
  | .io i :: es => i :: ioSlots es
  | _ :: es => ioSlots es
/-- .. is taken out of its slots, last -/
def lendT (js : List Nat) : List Tm → Evn → Option (List Tm × Evn)
  | [], ρ => some ([], ρ)
  | t :: ts, ρ => match t with
    | .s i => if js.contains i then (match ρ.at i with
      | .o d p => (lendT js ts (ρ.set i .u)).map fun q => (.m i d p :: q.1, q.2)
      | _ => none) else (lendT js ts ρ).map fun q => (.s i :: q.1, q.2)
    | t => (lendT js ts ρ).map fun q => (t :: q.1, q.2)
/-- a call with its arguments -/
def callT (c : List Sl → CR) (ts : List Tm) (ρ : Evn) : R Tm := match Tm.pars ρ ts with
  | some ps => if ioFree ts then afterCall ts ρ (c ps) else .no
  | none => .no
def extOf : Tm → Option (List PV)
  | .o 0 (.lst ys) | .v (.lst ys) | .v (.tup ys) => some ys
  | _ => none
def Mu.recv : Mu → Tag → Bool
  | .append, .lst | .extend, .lst | .pop, .lst | .popAt, .lst | .reverse, .lst | .dpop2, .dct | .setdef, .dct => true
  | _, _ => false
noncomputable def evMu (m : Mu) (d : Nat) (p : PV) (ts : List Tm) : Option (Tm × PV) :=
  match m, p, ts with
  | .append, .lst xs, [t] => match t.dn d with
    | some y => if xs.length < lim then some (.v .non, .lst (xs ++ [y])) else none
    | none => none
  | .extend, .lst xs, [t] => match extOf t with
    | some ys => if d = 0 ∧ xs.length + ys.length ≤ lim then some (.v .non, .lst (xs ++ ys)) else none
    | none => none
  | .pop, .lst xs, [] => if d = 0 then (xs.getLast?).map fun y => (.v y, .lst xs.dropLast) else none
  | .popAt, .lst xs, [.v (.int i)] => if d = 0 ∧ dec (-(2 ^ 63) ≤ i ∧ i < 2 ^ 63) = true then
      (match seqIndex? i xs.length with | some k => (xs[k]?).map fun y => (.v y, .lst (xs.eraseIdx k)) | none => none) else none
  | .reverse, .lst xs, [] => if d = 0 then some (.v .non, .lst xs.reverse) else none
  | .dpop2, .dct ks, [k, t] => match k.dn 0, t.dn 0 with
    | some k, some e => if d = 0 ∧ keyLike k ks then some (.v ((dGet ks k).getD e), .dct (dDel ks k)) else none
    | _, _ => none
  | .setdef, .dct ks, [k, t] => match k.dn 0, t.dn 0 with
    | some k, some e => if d = 0 ∧ keyLike k ks ∧ ks.length < lim then
        (match dGet ks k with | some v => some (.v v, .dct ks) | none => some (.v e, .dct (dPut ks k e))) else none
    | _, _ => none
  | _, _, _ => none

inductive Fl where
  | nx | rt (t : Tm)

section
open Classical
/-- walk items through a body; c: what must stay -/
noncomputable def forL (c : Evn → Prop) (f : PV → Evn → R Fl) : List PV → Evn → R Fl
  | [], ρ => if c ρ then .ok .nx ρ else .no
  | x :: xs, ρ => if c ρ then (f x ρ).bd fun fl ρ1 => (match fl with
    | .nx => forL c f xs ρ1
    | .rt t => .ok (.rt t) ρ1) else .no
/-- .. a comprehension's: some of the items made, kept in order -/
noncomputable def lcL (c : Evn → Prop) (f : PV → Evn → R (Option PV)) : List PV → List PV → Evn → R (List PV)
  | [], acc, ρ => if c ρ then .ok acc ρ else .no
  | x :: xs, acc, ρ => if c ρ then (f x ρ).bd fun o ρ1 => (match o with
    | some y => if acc.length < lim then lcL c f xs (acc ++ [y]) ρ1 else .no
    | none => lcL c f xs acc ρ1) else .no
/-- two walks, one in the other -/
noncomputable def lc2L (c : Evn → Prop) (f : PV → List PV → Evn → R (List PV)) : List PV → List PV → Evn → R (List PV)
  | [], acc, ρ => if c ρ then .ok acc ρ else .no
  | x :: xs, acc, ρ => if c ρ then (f x acc ρ).bd fun acc' ρ1 => lc2L c f xs acc' ρ1 else .no
noncomputable def dcL (c : Evn → Prop) (f : PV → Evn → R (Option (PV × PV))) : List PV → List (PV × PV) → Evn → R (List (PV × PV))
  | [], acc, ρ => if c ρ then .ok acc ρ else .no
  | x :: xs, acc, ρ => if c ρ then (f x ρ).bd fun o ρ1 => (match o with
    | some q => if keyLike q.1 acc ∧ acc.length < lim then dcL c f xs (dPut acc q.1 q.2) ρ1 else .no
    | none => dcL c f xs acc ρ1) else .no
end
def whL (c : Evn → R Bool) (f : Evn → R Fl) : Nat → Evn → R Fl
  | 0, _ => .no
  | n + 1, ρ => (c ρ).bd fun b ρ1 => if b then (f ρ1).bd fun fl ρ2 => (match fl with
    | .nx => whL c f n ρ2
    | .rt t => .ok (.rt t) ρ2) else .ok .nx ρ1
/-- a value as a test -/
def tst (r : R Tm) : R Bool := r.bd fun t ρ1 => match t with | .v (.bl b) => .ok b ρ1 | _ => .no
def noEx {α : Type} : R α → R α
  | .ex _ _ _ => .no
  | r => r

section
variable {F : Type} (call : F → List Sl → CR) (ios : List Nat) (W : Nat)

mutual
noncomputable def evE : Ex F → Evn → R Tm
  | .var i, ρ => match ρ.at i with
    | .v p => .ok (.v p) ρ
    | .o _ _ => .ok (.s i) ρ
    | .l _ _ => .ok (.s i) ρ
    | _ => .no
  | .mv i, ρ => match ρ.at i with
    | .o d p => .ok (.o d p) (ρ.set i .u)
    | .v p => .ok (.v p) ρ
    | _ => .no
  | .fz i, ρ => match ρ.at i with
    | .o _ p => .ok (.v p) (ρ.set i (.v p))
    | .v p => .ok (.v p) ρ
    | _ => .no
  | .io i, ρ => match ρ.at i with
    | .o _ _ => .ok (.s i) ρ
    | _ => .no
  | .c k, ρ => .ok (.v k.pv) ρ
  | .gl _ p, ρ => .ok (.v p) ρ
  | .tup es, ρ => (evEs es ρ).bd fun ts ρ1 => match ts.mapM (Tm.dn 0) with
    | some ps => if ps.length ≤ lim then .ok (.v (.tup ps)) ρ1 else .no
    | none => .no
  | .lst d es, ρ => (evEs es ρ).bd fun ts ρ1 => match ts.mapM (Tm.dn d) with
    | some ps => if ps.length ≤ lim then .ok (.o d (.lst ps)) ρ1 else .no
    | none => .no
  | .dnew, ρ => .ok (.o 1000 (.dct [])) ρ
  | .pr p es, ρ => (evEs es ρ).bd fun ts ρ1 => match Tm.args ρ1 ts with
    | some ps => (match evP p ps with | some r => .ok (mkTm p.fresh r) ρ1 | none => .no)
    | none => .no
  | .cut a b c, ρ => (evE a ρ).bd fun t ρ1 => (evE b ρ1).bd fun tb ρ2 => match tb with
    | .v (.int i) => (evE c ρ2).bd fun tc ρ3 => (match t.arg ρ3, tc with
      | some q, .v (.int j) => (match pSlc (some i) (some j) q with | some r => .ok (mkTm true r) ρ3 | none => .no)
      | _, _ => .no)
    | _ => .no
  | .me p e es, ρ => (evE e ρ).bd fun t ρ1 => match t.arg ρ1 with
    | some q1 => if p.recv q1.tag then (evEs es ρ1).bd fun ts ρ2 => (match t.arg ρ2, Tm.args ρ2 ts with
      | some q, some ps => if q.tag = q1.tag then (match evP p (q :: ps) with | some r => .ok (mkTm p.fresh r) ρ2 | none => .no) else .no
      | _, _ => .no) else .no
    | none => .no
  | .and es, ρ => (evAnd es ρ).bd fun b ρ1 => .ok (.v (.bl b)) ρ1
  | .or es, ρ => (evOr es ρ).bd fun b ρ1 => .ok (.v (.bl b)) ρ1
  | .not e, ρ => (tst (evE e ρ)).bd fun b ρ1 => .ok (.v (.bl (!b))) ρ1
  | .ite c a b, ρ => (tst (evE c ρ)).bd fun k ρ1 => if k then evE a ρ1 else evE b ρ1
  | .chain p q a b c, ρ => (evE a ρ).bd fun t1 ρ1 => match t1 with
    | .v (.int i) => (evE b ρ1).bd fun t2 ρ2 => (match t2 with
      | .v (.int j) => (match evP p [.int i, .int j] with
        | some (.bl true) => (evE c ρ2).bd fun t3 ρ3 => (match t3 with
          | .v (.int k) => (match evP q [.int j, .int k] with | some (.bl m) => .ok (.v (.bl m)) ρ3 | _ => .no)
          | _ => .no)
        | some (.bl false) => .ok (.v (.bl false)) ρ2
        | _ => .no)
      | _ => .no)
    | _ => .no
  | .call f es, ρ => (evEs es ρ).bd fun ts ρ1 => match lendT (ioSlots es) ts ρ1 with
    | some q => callT (call f) q.1 q.2
    | none => .no
  | .sortK f e, ρ => .no
  | .nev, _ => .no
  | .lc d e t ws it cs, ρ => (evE it ρ).bd fun tm ρ1 => match tm.walk ρ1 with
    | some k =>
      (noEx (lcL k.chk (fun x ρ => match bindS [] t x ρ with
        | some ρ => (evAnd cs ρ).bd fun b ρ3 => if b then (evE e ρ3).bd fun tm ρ4 => R.of (wipeE ws ρ4) ((tm.dn d).map some) else .ok none (wipeE ws ρ3)
        | none => .no) k.xs [] (wipeE ws k.ρ))).bd fun ys ρ5 => .ok (.o d (.lst ys)) (k.back (backE ws k.ρ ρ5))
    | none => .no
  | .lc2 d e t ws it cs t' ws' it' cs', ρ => (evE it ρ).bd fun tm ρ1 => match tm.walk ρ1 with
    | some k =>
      (noEx (lc2L k.chk (fun x acc ρ => match bindS [] t x ρ with
        | some ρ => (evAnd cs ρ).bd fun b ρ3 => if b then
            (evE it' ρ3).bd fun tm' ρ3' => (match tm'.walk ρ3' with
              | some k' => (lcL k'.chk (fun x ρ => match bindS [] t' x ρ with
                | some ρ => (evAnd cs' ρ).bd fun b ρ3 => if b then (evE e ρ3).bd fun tm ρ4 => R.of (wipeE ws' ρ4) ((tm.dn d).map some) else .ok none (wipeE ws' ρ3)
                | none => .no) k'.xs acc k'.ρ).env fun r => wipeE (ws' ++ ws) (k'.back r)
              | none => .no)
          else .ok acc (wipeE (ws' ++ ws) ρ3)
        | none => .no) k.xs [] (wipeE (ws' ++ ws) k.ρ))).bd fun ys ρ5 => .ok (.o d (.lst ys)) (k.back (backE (ws' ++ ws) k.ρ ρ5))
    | none => .no
  | .dc d ke e t ws it cs, ρ => (evE it ρ).bd fun tm ρ1 => match tm.walk ρ1 with
    | some k =>
      (noEx (dcL k.chk (fun x ρ => match bindS [] t x ρ with
        | some ρ => (evAnd cs ρ).bd fun b ρ3 => if b then (evE ke ρ3).bd fun tk ρ4 => (evE e ρ4).bd fun tm ρ5 => (match tk.dn 0, tm.dn d with
            | some a, some y => .ok (some (a, y)) (wipeE ws ρ5)
            | _, _ => .no) else .ok none (wipeE ws ρ3)
        | none => .no) k.xs [] (wipeE ws k.ρ))).bd fun ys ρ5 => .ok (.o d (.dct ys)) (k.back (backE ws k.ρ ρ5))
    | none => .no
  | .mu m i es, ρ => match ρ.at i with
    | .o _ p0 => if m.recv p0.tag then (evEs es ρ).bd fun ts ρ1 => (match ρ1.at i with
      | .o d p => (match evMu m d p ts with | some (r, p') => .ok r (ρ1.set i (.o d p')) | none => .no)
      | _ => .no) else .no
    | _ => .no
  | .sdApp i k e, ρ => (evE k ρ).bd fun tk ρ1 => (evE e ρ1).bd fun te ρ2 => match ρ2.at i, tk, te.dn 0 with
    | .o (_ + 1) (.dct ks), .v k, some y => if keyLike k ks ∧ ks.length < lim then
        (match dGet ks k with
          | some (.lst ys) => if ys.length < lim then .ok (.v .non) (ρ2.set i (.o 1 (.dct (dPut ks k (.lst (ys ++ [y])))))) else .no
          | none => .ok (.v .non) (ρ2.set i (.o 1 (.dct (dPut ks k (.lst [y])))))
          | _ => .no) else .no
    | _, _, _ => .no
noncomputable def evEs : List (Ex F) → Evn → R (List Tm)
  | [], ρ => .ok [] ρ
  | e :: es, ρ => (evE e ρ).bd fun t ρ1 => (evEs es ρ1).bd fun ts ρ2 => .ok (t :: ts) ρ2
noncomputable def evAnd : List (Ex F) → Evn → R Bool
  | [], ρ => .ok true ρ
  | e :: es, ρ => (tst (evE e ρ)).bd fun b ρ1 => if b then evAnd es ρ1 else .ok false ρ1
noncomputable def evOr : List (Ex F) → Evn → R Bool
  | [], ρ => .ok false ρ
  | e :: es, ρ => (tst (evE e ρ)).bd fun b ρ1 => if b then .ok true ρ1 else evOr es ρ1
end
end
end Mi

set_option Elab.async false
set_option linter.all false
set_option maxRecDepth 100000
set_option maxHeartbeats 4000000
/-! How plain values lie in the abstract heap. -/
namespace Mi
open PySem PySem.Spec PyProof.Rows L2

/-- a dict, told by its entries as they stand -/
def rawO (a : Addr) (es : List DictEntry) : HO := .ext fun h => (a == sysModules) = false ∧ es.length ≤ sizeLine ∧ ∃ o ep, h.get? a = some o ∧ o.ExactDict ∧ o.data = .dict es.toArray ep

/-- a tuple, its object known to have no dict -/
def TqT (K : PySem.W.Frag) (H : Hp) (a : Addr) (vs : List V) : Prop :=
  (∃ o, H a = some (.frz o (.tup vs)) ∧ o.cls = .type "tuple" ∧ o.dict = none) ∨
    ∃ (o : Obj) (its : Array Value) (n : Nat), K.lookup a = some o ∧ o.cls = .type "tuple" ∧ o.dict = none ∧ o.data = .seq its n ∧ its.size ≤ sizeLine ∧ Vals vs its.toList
theorem TqT.sq {K : PySem.W.Frag} {H : Hp} {a : Addr} {vs : List V} (h : TqT K H a vs) : SqT K H a vs := by
  rcases h with ⟨o, h, _⟩ | ⟨o, its, n, h1, h2, _, h3⟩
  · exact .inl (.inr ⟨o, h⟩)
  · exact .inr ⟨o, its, n, h1, h2, h3⟩

/-- the script's list -/
def ScrQ (K : PySem.W.Frag) (H : Hp) (a : Addr) (xs : List V) : Prop :=
  (∃ o, H a = some (.frz o (.lst xs))) ∨
    ∃ (o : Obj) (its : Array Value) (n : Nat), K.lookup a = some o ∧ o.cls = .type "list" ∧ o.dict = none ∧ o.data = .seq its n ∧ its.size ≤ sizeLine ∧ Vals xs its.toList
theorem ScrQ.sq {K : PySem.W.Frag} {H : Hp} {a : Addr} {xs : List V} (h : ScrQ K H a xs) : SqL K H a xs := by
  rcases h with ⟨o, h⟩ | h
  · exact .inl (.inr ⟨o, h⟩)
  · exact .inr h
section
variable (K : PySem.W.Frag) (w : World) (H : Hp) (z : Addr → Prop)
mutual
def R0 : PV → V → Prop
  | .non, v => v = .non
  | .bl b, v => v = .bl b
  | .int i, v => v = .int i
  | .str x, v => v = .str x
  | .tup xs, v => ∃ a vs, v = .ref a ∧ TqT K H a vs ∧ R0s xs vs
  | .lst xs, v => ∃ a vs, v = .ref a ∧ z a ∧ H a = some (.lst vs) ∧ R0s xs vs
  | .dct ks, v => ∃ a es, v = .ref a ∧ z a ∧ H a = some (rawO a es) ∧ R0k ks es ∧ (ks.map (·.1)).Nodup
  | .ins _ _, _ => False
  | .scr ns, v => ∃ a, v = .ref a ∧ ScrQ K H a (ns.map V.int)
def R0s : List PV → List V → Prop
  | [], vs => vs = []
  | x :: xs, vs => ∃ v vs', vs = v :: vs' ∧ R0 x v ∧ R0s xs vs'
def R0k : List (PV × PV) → List DictEntry → Prop
  | [], es => es = []
  | (k, p) :: ks, es => ∃ e es', es = e :: es' ∧ (∃ kv nk, RelV kv e.key ∧ R0 k kv ∧ k.key? = some nk ∧ k.dep ≤ 7 ∧ e.hash = nk.hash w) ∧ (∃ v, RelV v e.val ∧ R0 p v) ∧ R0k ks es'
end
mutual
/-- .. of which the top n levels are ours, at fp -/
def RO : Nat → PV → V → List Addr → Prop
  | n + 1, .lst xs, v, fp => ∃ a vs f, v = .ref a ∧ H a = some (.lst vs) ∧ ROs n xs vs f ∧ fp = a :: f
  | n + 1, .dct ks, v, fp => ∃ a es f, v = .ref a ∧ H a = some (rawO a es) ∧ ROk n ks es f ∧ (ks.map (·.1)).Nodup ∧ fp = a :: f
  | _, p, v, fp => R0 K w H z p v ∧ fp = []
def ROs : Nat → List PV → List V → List Addr → Prop
  | _, [], vs, fp => vs = [] ∧ fp = []
  | n, x :: xs, vs, fp => ∃ v vs' f f', vs = v :: vs' ∧ RO n x v f ∧ ROs n xs vs' f' ∧ fp = f ++ f'
def ROk : Nat → List (PV × PV) → List DictEntry → List Addr → Prop
  | _, [], es, fp => es = [] ∧ fp = []
  | n, (k, p) :: ks, es, fp => ∃ e es' f f', es = e :: es' ∧ (∃ kv nk, RelV kv e.key ∧ R0 K w H z k kv ∧ k.key? = some nk ∧ k.dep ≤ 7 ∧ e.hash = nk.hash w) ∧ (∃ v, RelV v e.val ∧ RO n p v f) ∧ ROk n ks es' f' ∧ fp = f ++ f'
end
end

/-- what stands in H and not at S stands in H' -/
def Kp (S : Addr → Prop) (H H' : Hp) : Prop := ∀ b o, H b = some o → ¬ S b → H' b = some o
theorem Kp.fresh {H : Hp} {p : Addr} {o : HO} {S : Addr → Prop} (h : H p = none) : Kp S H (upd H p o) := fun b u e _ => by
  rw [upd_ne (fun z => by rw [z, h] at e; cases e)]; exact e
theorem Kp.at {H : Hp} {p : Addr} {o : HO} : Kp (fun b => b = p) H (upd H p o) := fun b u e n => by rw [upd_ne n]; exact e
theorem Kp.rfl {H : Hp} {S : Addr → Prop} : Kp S H H := fun _ _ e _ => e
theorem Kp.trans {H H1 H2 : Hp} {S : Addr → Prop} (a : Kp S H H1) (b : Kp S H1 H2) : Kp S H H2 := fun c o e n => b c o (a c o e n) n
/-- H' has all of H -/
abbrev Ext (H H' : Hp) : Prop := Kp (fun _ => False) H H'
theorem Ext.get {H H' : Hp} (x : Ext H H') {a : Addr} {o : HO} (e : H a = some o) : H' a = some o := x a o e fun z => z
/-- not a tuple, nor locked -/
def Own (o : Option HO) : Prop := (∃ xs, o = some (.lst xs)) ∨ ∃ φ, o = some (.ext φ)
section
variable {K : PySem.W.Frag} {w : World} {H H' : Hp} {z z' S : Addr → Prop}
theorem TqT.kp {a : Addr} {vs : List V} (h : TqT K H a vs) (k : Kp S H H') (hS : ∀ b, S b → Own (H b)) : TqT K H' a vs := by
  rcases h with ⟨o, h, q⟩ | h
  · refine .inl ⟨o, k a _ h fun s => ?_, q⟩
    rcases hS a s with ⟨xs, e⟩ | ⟨φ, e⟩ <;> (rw [h] at e; cases e)
  · exact .inr h
theorem Rd.kp {a : Addr} {u : HO} (h : Rd H a u) (k : Kp S H H') (hS : ¬ S a) : Rd H' a u := by
  rcases h with h | ⟨o, h⟩
  · exact .inl (k a _ h hS)
  · exact .inr ⟨o, k a _ h hS⟩
mutual
theorem R0.kp (k : Kp S H H') (hS : ∀ b, S b → Own (H b)) (hz : ∀ b, S b → ¬ z b) (zz : ∀ b, z b → z' b) : ∀ {p : PV} {v : V}, R0 K w H z p v → R0 K w H' z' p v
  | .non, _, h => h
  | .bl _, _, h => h
  | .int _, _, h => h
  | .str _, _, h => h
  | .tup xs, _, h => by
    obtain ⟨a, vs, e, h1, h2⟩ := h
    exact ⟨a, vs, e, TqT.kp h1 k hS, R0s.kp k hS hz zz h2⟩
  | .lst xs, _, h => by
    obtain ⟨a, vs, e, h0, h1, h2⟩ := h
    exact ⟨a, vs, e, zz _ h0, k _ _ h1 fun s => hz _ s h0, R0s.kp k hS hz zz h2⟩
  | .dct ks, _, h => by
    obtain ⟨a, es, e, h0, h1, h2, h3⟩ := h
    exact ⟨a, es, e, zz _ h0, k _ _ h1 fun s => hz _ s h0, R0k.kp k hS hz zz h2, h3⟩
  | .ins _ _, _, h => h
  | .scr ns, _, h => by
    obtain ⟨a, e, h1 | h1⟩ := h
    · obtain ⟨o, h1⟩ := h1
      refine ⟨a, e, .inl ⟨o, k a _ h1 fun s => ?_⟩⟩
      rcases hS a s with ⟨xs, e⟩ | ⟨φ, e⟩ <;> (rw [h1] at e; cases e)
    · exact ⟨a, e, .inr h1⟩
theorem R0s.kp (k : Kp S H H') (hS : ∀ b, S b → Own (H b)) (hz : ∀ b, S b → ¬ z b) (zz : ∀ b, z b → z' b) : ∀ {ps : List PV} {vs : List V}, R0s K w H z ps vs → R0s K w H' z' ps vs
  | [], _, h => h
  | x :: xs, _, h => by
    obtain ⟨v, vs', e, h1, h2⟩ := h
    exact ⟨v, vs', e, R0.kp k hS hz zz h1, R0s.kp k hS hz zz h2⟩
theorem R0k.kp (k : Kp S H H') (hS : ∀ b, S b → Own (H b)) (hz : ∀ b, S b → ¬ z b) (zz : ∀ b, z b → z' b) : ∀ {ps : List (PV × PV)} {vs : List DictEntry}, R0k K w H z ps vs → R0k K w H' z' ps vs
  | [], _, h => h
  | (a, p) :: xs, _, h => by
    obtain ⟨v, vs', e, ⟨kv, nk, a1, a2, a3, a4, a5⟩, ⟨u, h2, h3⟩, h4⟩ := h
    exact ⟨v, vs', e, ⟨kv, nk, a1, R0.kp k hS hz zz a2, a3, a4, a5⟩, ⟨u, h2, R0.kp k hS hz zz h3⟩, R0k.kp k hS hz zz h4⟩
end
/-- RO's other cases -/
theorem RO_zero {p : PV} {v : V} {fp : List Addr} : RO K w H z 0 p v fp ↔ R0 K w H z p v ∧ fp = [] := by
  cases p <;> simp only [RO]
mutual
theorem RO.kp (k : Kp S H H') (hS : ∀ b, S b → Own (H b)) (hz : ∀ b, S b → ¬ z b) (zz : ∀ b, z b → z' b) : ∀ {n : Nat} {p : PV} {v : V} {fp : List Addr}, (∀ b, S b → b ∉ fp) → RO K w H z n p v fp → RO K w H' z' n p v fp
  | 0, p, v, fp, _, h => by
    rw [RO_zero] at h ⊢
    exact ⟨h.1.kp k hS hz zz, h.2⟩
  | n + 1, .lst xs, v, fp, hf, h => by
    simp only [RO] at h ⊢
    obtain ⟨a, vs, f, e, h1, h2, h3⟩ := h
    exact ⟨a, vs, f, e, k _ _ h1 fun s => hf _ s (by rw [h3]; exact List.mem_cons_self), ROs.kp k hS hz zz (fun b s m => hf b s (by rw [h3]; exact List.mem_cons_of_mem _ m)) h2, h3⟩
  | n + 1, .dct ks, v, fp, hf, h => by
    simp only [RO] at h ⊢
    obtain ⟨a, es, f, e, h1, h2, h3, h4⟩ := h
    exact ⟨a, es, f, e, k _ _ h1 fun s => hf _ s (by rw [h4]; exact List.mem_cons_self), ROk.kp k hS hz zz (fun b s m => hf b s (by rw [h4]; exact List.mem_cons_of_mem _ m)) h2, h3, h4⟩
  | n + 1, .non, v, fp, hf, h => by simp only [RO] at h ⊢; exact ⟨h.1.kp k hS hz zz, h.2⟩
  | n + 1, .bl _, v, fp, hf, h => by simp only [RO] at h ⊢; exact ⟨h.1.kp k hS hz zz, h.2⟩
  | n + 1, .int _, v, fp, hf, h => by simp only [RO] at h ⊢; exact ⟨h.1.kp k hS hz zz, h.2⟩
  | n + 1, .str _, v, fp, hf, h => by simp only [RO] at h ⊢; exact ⟨h.1.kp k hS hz zz, h.2⟩
  | n + 1, .tup _, v, fp, hf, h => by simp only [RO] at h ⊢; exact ⟨h.1.kp k hS hz zz, h.2⟩
  | n + 1, .ins _ _, v, fp, hf, h => by simp only [RO] at h ⊢; exact ⟨h.1.kp k hS hz zz, h.2⟩
  | n + 1, .scr _, v, fp, hf, h => by simp only [RO] at h ⊢; exact ⟨h.1.kp k hS hz zz, h.2⟩
theorem ROs.kp (k : Kp S H H') (hS : ∀ b, S b → Own (H b)) (hz : ∀ b, S b → ¬ z b) (zz : ∀ b, z b → z' b) : ∀ {n : Nat} {p : List PV} {v : List V} {fp : List Addr}, (∀ b, S b → b ∉ fp) → ROs K w H z n p v fp → ROs K w H' z' n p v fp
  | n, [], _, _, _, h => by simp only [ROs] at h ⊢; exact h
  | n, x :: xs, _, _, hf, h => by
    simp only [ROs] at h ⊢
    obtain ⟨v, vs', f, f', e, h1, h2, h3⟩ := h
    exact ⟨v, vs', f, f', e, RO.kp k hS hz zz (fun b s m => hf b s (by rw [h3]; exact List.mem_append_left _ m)) h1, ROs.kp k hS hz zz (fun b s m => hf b s (by rw [h3]; exact List.mem_append_right _ m)) h2, h3⟩
theorem ROk.kp (k : Kp S H H') (hS : ∀ b, S b → Own (H b)) (hz : ∀ b, S b → ¬ z b) (zz : ∀ b, z b → z' b) : ∀ {n : Nat} {p : List (PV × PV)} {v : List DictEntry} {fp : List Addr}, (∀ b, S b → b ∉ fp) → ROk K w H z n p v fp → ROk K w H' z' n p v fp
  | n, [], _, _, _, h => by simp only [ROk] at h ⊢; exact h
  | n, (a, p) :: xs, _, _, hf, h => by
    simp only [ROk] at h ⊢
    obtain ⟨v, vs', f, f', e, ⟨kv, nk, a1, a2, a3, a4, a5⟩, ⟨u, h1, h2⟩, h3, h4⟩ := h
    exact ⟨v, vs', f, f', e, ⟨kv, nk, a1, R0.kp k hS hz zz a2, a3, a4, a5⟩, ⟨u, h1, RO.kp k hS hz zz (fun b s m => hf b s (by rw [h4]; exact List.mem_append_left _ m)) h2⟩, ROk.kp k hS hz zz (fun b s m => hf b s (by rw [h4]; exact List.mem_append_right _ m)) h3, h4⟩
end
mutual
/-- what is ours is a list or dict that stands -/
theorem RO.own : ∀ {n : Nat} {p : PV} {v : V} {fp : List Addr}, RO K w H z n p v fp → ∀ b ∈ fp, Own (H b)
  | 0, p, v, fp, h => by rw [RO_zero] at h; rw [h.2]; intro b hb; cases hb
  | n + 1, .lst xs, v, fp, h => by
    simp only [RO] at h
    obtain ⟨a, vs, f, e, h1, h2, h3⟩ := h
    rw [h3]
    intro b hb
    rcases List.mem_cons.mp hb with rfl | hb
    · exact .inl ⟨_, h1⟩
    · exact ROs.own h2 b hb
  | n + 1, .dct ks, v, fp, h => by
    simp only [RO] at h
    obtain ⟨a, es, f, e, h1, h2, h3, h4⟩ := h
    rw [h4]
    intro b hb
    rcases List.mem_cons.mp hb with rfl | hb
    · exact .inr ⟨_, h1⟩
    · exact ROk.own h2 b hb
  | n + 1, .non, v, fp, h => by simp only [RO] at h; rw [h.2]; intro b hb; cases hb
  | n + 1, .bl _, v, fp, h => by simp only [RO] at h; rw [h.2]; intro b hb; cases hb
  | n + 1, .int _, v, fp, h => by simp only [RO] at h; rw [h.2]; intro b hb; cases hb
  | n + 1, .str _, v, fp, h => by simp only [RO] at h; rw [h.2]; intro b hb; cases hb
  | n + 1, .tup _, v, fp, h => by simp only [RO] at h; rw [h.2]; intro b hb; cases hb
  | n + 1, .ins _ _, v, fp, h => by simp only [RO] at h; rw [h.2]; intro b hb; cases hb
  | n + 1, .scr _, v, fp, h => by simp only [RO] at h; rw [h.2]; intro b hb; cases hb
theorem ROs.own : ∀ {n : Nat} {p : List PV} {v : List V} {fp : List Addr}, ROs K w H z n p v fp → ∀ b ∈ fp, Own (H b)
  | n, [], _, _, h => by simp only [ROs] at h; rw [h.2]; intro b hb; cases hb
  | n, x :: xs, _, _, h => by
    simp only [ROs] at h
    obtain ⟨v, vs', f, f', e, h1, h2, h3⟩ := h
    rw [h3]
    intro b hb
    rcases List.mem_append.mp hb with hb | hb
    · exact RO.own h1 b hb
    · exact ROs.own h2 b hb
theorem ROk.own : ∀ {n : Nat} {p : List (PV × PV)} {v : List DictEntry} {fp : List Addr}, ROk K w H z n p v fp → ∀ b ∈ fp, Own (H b)
  | n, [], _, _, h => by simp only [ROk] at h; rw [h.2]; intro b hb; cases hb
  | n, (a, p) :: xs, _, _, h => by
    simp only [ROk] at h
    obtain ⟨v, vs', f, f', e, _, ⟨u, h1, h2⟩, h3, h4⟩ := h
    rw [h4]
    intro b hb
    rcases List.mem_append.mp hb with hb | hb
    · exact RO.own h2 b hb
    · exact ROk.own h3 b hb
end
theorem R0.zone (zz : ∀ b, z b → z' b) {p : PV} {v : V} (h : R0 K w H z p v) : R0 K w H z' p v := h.kp (S := fun _ => False) Kp.rfl (fun _ x => x.elim) (fun _ x => x.elim) zz
theorem R0s.zone (zz : ∀ b, z b → z' b) {p : List PV} {v : List V} (h : R0s K w H z p v) : R0s K w H z' p v := h.kp (S := fun _ => False) Kp.rfl (fun _ x => x.elim) (fun _ x => x.elim) zz
theorem R0k.zone (zz : ∀ b, z b → z' b) {p : List (PV × PV)} {v : List DictEntry} (h : R0k K w H z p v) : R0k K w H z' p v := h.kp (S := fun _ => False) Kp.rfl (fun _ x => x.elim) (fun _ x => x.elim) zz
theorem RO.zone (zz : ∀ b, z b → z' b) {n : Nat} {p : PV} {v : V} {fp : List Addr} (h : RO K w H z n p v fp) : RO K w H z' n p v fp := h.kp (S := fun _ => False) Kp.rfl (fun _ x => x.elim) (fun _ x => x.elim) zz (fun _ x => x.elim)
theorem ROs.zone (zz : ∀ b, z b → z' b) {n : Nat} {p : List PV} {v : List V} {fp : List Addr} (h : ROs K w H z n p v fp) : ROs K w H z' n p v fp := h.kp (S := fun _ => False) Kp.rfl (fun _ x => x.elim) (fun _ x => x.elim) zz (fun _ x => x.elim)
theorem ROk.zone (zz : ∀ b, z b → z' b) {n : Nat} {p : List (PV × PV)} {v : List DictEntry} {fp : List Addr} (h : ROk K w H z n p v fp) : ROk K w H z' n p v fp := h.kp (S := fun _ => False) Kp.rfl (fun _ x => x.elim) (fun _ x => x.elim) zz (fun _ x => x.elim)
/-- what is neither list nor dict is at no depth ours -/
theorem RO.flat {n : Nat} {p : PV} {v : V} {fp : List Addr} (h : RO K w H z n p v fp) (h1 : ∀ xs, p ≠ .lst xs) (h2 : ∀ ks, p ≠ .dct ks) : R0 K w H z p v ∧ fp = [] := by
  cases n with
  | zero => exact RO_zero.mp h
  | succ n =>
    cases p with
    | lst xs => exact absurd rfl (h1 _)
    | dct ks => exact absurd rfl (h2 _)
    | _ => simpa only [RO] using h
theorem RO.ofFlat {n : Nat} {p : PV} {v : V} (h : R0 K w H z p v) (h1 : ∀ xs, p ≠ .lst xs) (h2 : ∀ ks, p ≠ .dct ks) : RO K w H z n p v [] := by
  cases n with
  | zero => exact RO_zero.mpr ⟨h, rfl⟩
  | succ n =>
    cases p with
    | lst xs => exact absurd rfl (h1 _)
    | dct ks => exact absurd rfl (h2 _)
    | _ => simp only [RO]; exact ⟨h, trivial⟩
theorem ROs.r0 : ∀ {p : List PV} {v : List V} {fp : List Addr}, ROs K w H z 0 p v fp → fp = [] ∧ R0s K w H z p v
  | [], _, _, h => by
    simp only [ROs] at h
    exact ⟨h.2, h.1⟩
  | x :: xs, _, _, h => by
    simp only [ROs] at h
    obtain ⟨v, vs', f, f', e, h1, h2, h3⟩ := h
    obtain ⟨q1, rfl⟩ := RO_zero.mp h1
    obtain ⟨rfl, q2⟩ := ROs.r0 h2
    exact ⟨h3, v, vs', e, q1, q2⟩
theorem ROk.r0 : ∀ {p : List (PV × PV)} {v : List DictEntry} {fp : List Addr}, ROk K w H z 0 p v fp → fp = [] ∧ R0k K w H z p v
  | [], _, _, h => by
    simp only [ROk] at h
    exact ⟨h.2, h.1⟩
  | (a, p) :: xs, _, _, h => by
    simp only [ROk] at h
    obtain ⟨v, vs', f, f', e, h0, ⟨u, h1, h2⟩, h3, h4⟩ := h
    obtain ⟨q2, rfl⟩ := RO_zero.mp h2
    obtain ⟨rfl, q3⟩ := ROk.r0 h3
    exact ⟨h4, v, vs', e, h0, ⟨u, h1, q2⟩, q3⟩
mutual
/-- fewer levels are ours: the rest is shared from here on -/
theorem RO.less : ∀ {n m : Nat} {p : PV} {v : V} {fp : List Addr}, m ≤ n → RO K w H z n p v fp → ∃ fp' g, fp.Perm (fp' ++ g) ∧ RO K w H (fun a => z a ∨ a ∈ g) m p v fp'
  | n, m, .lst xs, v, fp, hm, h => by
    cases n with
    | zero =>
      obtain rfl : m = 0 := by omega
      rw [RO_zero] at h
      exact ⟨[], [], by rw [h.2]; exact .refl _, RO_zero.mpr ⟨h.1.zone fun _ => .inl, rfl⟩⟩
    | succ n =>
      simp only [RO] at h
      obtain ⟨a, vs, f, e, h1, h2, h3⟩ := h
      cases m with
      | zero =>
        obtain ⟨f', g, hp, h4⟩ := ROs.less (Nat.zero_le _) h2
        obtain ⟨rfl, h5⟩ := ROs.r0 h4
        refine ⟨[], a :: g, by rw [h3]; simpa using hp, RO_zero.mpr ⟨?_, rfl⟩⟩
        exact ⟨a, vs, e, .inr List.mem_cons_self, h1, h5.zone fun b q => q.elim .inl fun q => .inr (List.mem_cons_of_mem _ q)⟩
      | succ m =>
        obtain ⟨f', g, hp, h4⟩ := ROs.less (m := m) (by omega) h2
        refine ⟨a :: f', g, by rw [h3]; exact hp.cons _, ?_⟩
        simp only [RO]
        exact ⟨a, vs, f', e, h1, h4, rfl⟩
  | n, m, .dct ks, v, fp, hm, h => by
    cases n with
    | zero =>
      obtain rfl : m = 0 := by omega
      rw [RO_zero] at h
      exact ⟨[], [], by rw [h.2]; exact .refl _, RO_zero.mpr ⟨h.1.zone fun _ => .inl, rfl⟩⟩
    | succ n =>
      simp only [RO] at h
      obtain ⟨a, es, f, e, h1, h2, nd, h3⟩ := h
      cases m with
      | zero =>
        obtain ⟨f', g, hp, h4⟩ := ROk.less (Nat.zero_le _) h2
        obtain ⟨rfl, h5⟩ := ROk.r0 h4
        refine ⟨[], a :: g, by rw [h3]; simpa using hp, RO_zero.mpr ⟨?_, rfl⟩⟩
        exact ⟨a, es, e, .inr List.mem_cons_self, h1, h5.zone fun b q => q.elim .inl fun q => .inr (List.mem_cons_of_mem _ q), nd⟩
      | succ m =>
        obtain ⟨f', g, hp, h4⟩ := ROk.less (m := m) (by omega) h2
        refine ⟨a :: f', g, by rw [h3]; exact hp.cons _, ?_⟩
        simp only [RO]
        exact ⟨a, es, f', e, h1, h4, nd, rfl⟩
  | n, m, .non, v, fp, hm, h => let ⟨h1, h2⟩ := h.flat (fun _ e => nomatch e) fun _ e => nomatch e
    ⟨[], [], by rw [h2]; exact .refl _, .ofFlat (h1.zone fun _ => .inl) (fun _ e => nomatch e) fun _ e => nomatch e⟩
  | n, m, .bl _, v, fp, hm, h => let ⟨h1, h2⟩ := h.flat (fun _ e => nomatch e) fun _ e => nomatch e
    ⟨[], [], by rw [h2]; exact .refl _, .ofFlat (h1.zone fun _ => .inl) (fun _ e => nomatch e) fun _ e => nomatch e⟩
  | n, m, .int _, v, fp, hm, h => let ⟨h1, h2⟩ := h.flat (fun _ e => nomatch e) fun _ e => nomatch e
    ⟨[], [], by rw [h2]; exact .refl _, .ofFlat (h1.zone fun _ => .inl) (fun _ e => nomatch e) fun _ e => nomatch e⟩
  | n, m, .str _, v, fp, hm, h => let ⟨h1, h2⟩ := h.flat (fun _ e => nomatch e) fun _ e => nomatch e
    ⟨[], [], by rw [h2]; exact .refl _, .ofFlat (h1.zone fun _ => .inl) (fun _ e => nomatch e) fun _ e => nomatch e⟩
  | n, m, .tup _, v, fp, hm, h => let ⟨h1, h2⟩ := h.flat (fun _ e => nomatch e) fun _ e => nomatch e
    ⟨[], [], by rw [h2]; exact .refl _, .ofFlat (h1.zone fun _ => .inl) (fun _ e => nomatch e) fun _ e => nomatch e⟩
  | n, m, .ins _ _, v, fp, hm, h => let ⟨h1, h2⟩ := h.flat (fun _ e => nomatch e) fun _ e => nomatch e
    ⟨[], [], by rw [h2]; exact .refl _, .ofFlat (h1.zone fun _ => .inl) (fun _ e => nomatch e) fun _ e => nomatch e⟩
  | n, m, .scr _, v, fp, hm, h => let ⟨h1, h2⟩ := h.flat (fun _ e => nomatch e) fun _ e => nomatch e
    ⟨[], [], by rw [h2]; exact .refl _, .ofFlat (h1.zone fun _ => .inl) (fun _ e => nomatch e) fun _ e => nomatch e⟩
theorem ROs.less : ∀ {n m : Nat} {p : List PV} {v : List V} {fp : List Addr}, m ≤ n → ROs K w H z n p v fp → ∃ fp' g, fp.Perm (fp' ++ g) ∧ ROs K w H (fun a => z a ∨ a ∈ g) m p v fp'
  | n, m, [], _, _, _, h => by
    simp only [ROs] at h
    exact ⟨[], [], by rw [h.2]; exact .refl _, by simp only [ROs]; exact ⟨h.1, trivial⟩⟩
  | n, m, x :: xs, _, _, hm, h => by
    simp only [ROs] at h
    obtain ⟨v, vs', f, f', e, h1, h2, h3⟩ := h
    obtain ⟨f1, g1, p1, q1⟩ := RO.less hm h1
    obtain ⟨f2, g2, p2, q2⟩ := ROs.less hm h2
    refine ⟨f1 ++ f2, g1 ++ g2, ?_, ?_⟩
    · rw [h3]
      refine (p1.append p2).trans ?_
      simp only [List.append_assoc]
      refine .append_left _ ?_
      rw [← List.append_assoc, ← List.append_assoc]
      exact .append_right _ List.perm_append_comm
    · simp only [ROs]
      exact ⟨v, vs', f1, f2, e, q1.zone fun b q => q.imp id fun q => List.mem_append_left _ q, q2.zone fun b q => q.imp id fun q => List.mem_append_right _ q, rfl⟩
theorem ROk.less : ∀ {n m : Nat} {p : List (PV × PV)} {v : List DictEntry} {fp : List Addr}, m ≤ n → ROk K w H z n p v fp → ∃ fp' g, fp.Perm (fp' ++ g) ∧ ROk K w H (fun a => z a ∨ a ∈ g) m p v fp'
  | n, m, [], _, _, _, h => by
    simp only [ROk] at h
    exact ⟨[], [], by rw [h.2]; exact .refl _, by simp only [ROk]; exact ⟨h.1, trivial⟩⟩
  | n, m, (a, p) :: xs, _, _, hm, h => by
    simp only [ROk] at h
    obtain ⟨v, vs', f, f', e, ⟨kv, nk, a1, a2, a3⟩, ⟨u, h1, h2⟩, h3, h4⟩ := h
    obtain ⟨f1, g1, p1, q1⟩ := RO.less hm h2
    obtain ⟨f2, g2, p2, q2⟩ := ROk.less hm h3
    refine ⟨f1 ++ f2, g1 ++ g2, ?_, ?_⟩
    · rw [h4]
      refine (p1.append p2).trans ?_
      simp only [List.append_assoc]
      refine .append_left _ ?_
      rw [← List.append_assoc, ← List.append_assoc]
      exact .append_right _ List.perm_append_comm
    · simp only [ROk]
      exact ⟨v, vs', f1, f2, e, ⟨kv, nk, a1, a2.zone fun _ => .inl, a3⟩, ⟨u, h1, q1.zone fun b q => q.imp id fun q => List.mem_append_left _ q⟩, q2.zone fun b q => q.imp id fun q => List.mem_append_right _ q, rfl⟩
end
theorem ROs.of0 : ∀ {p : List PV} {v : List V}, R0s K w H z p v → ROs K w H z 0 p v []
  | [], _, h => by simp only [ROs]; exact ⟨h, trivial⟩
  | x :: xs, _, h => by
    obtain ⟨v, vs', e, h1, h2⟩ := h
    simp only [ROs]
    exact ⟨v, vs', [], [], e, RO_zero.mpr ⟨h1, rfl⟩, ROs.of0 h2, rfl⟩
theorem ROk.of0 : ∀ {p : List (PV × PV)} {v : List DictEntry}, R0k K w H z p v → ROk K w H z 0 p v []
  | [], _, h => by simp only [ROk]; exact ⟨h, trivial⟩
  | (a, x) :: xs, _, h => by
    obtain ⟨v, vs', e, h0, ⟨u, h1, h2⟩, h3⟩ := h
    simp only [ROk]
    exact ⟨v, vs', [], [], e, h0, ⟨u, h1, RO_zero.mpr ⟨h2, rfl⟩⟩, ROk.of0 h3, rfl⟩
/-- all of it shared -/
theorem RO.froz {n : Nat} {p : PV} {v : V} {fp : List Addr} (h : RO K w H z n p v fp) : R0 K w H (fun a => z a ∨ a ∈ fp) p v := by
  obtain ⟨f, g, hp, h1⟩ := h.less (Nat.zero_le n)
  obtain ⟨q1, rfl⟩ := RO_zero.mp h1
  exact q1.zone fun b q => q.imp id fun q => hp.mem_iff.mpr q
mutual
/-- what cannot be changed has no zone -/
theorem R0.unzone : ∀ {p : PV} {v : V}, p.pure = true → R0 K w H z p v → R0 K w H z' p v
  | .non, _, _, h => h
  | .bl _, _, _, h => h
  | .int _, _, _, h => h
  | .str _, _, _, h => h
  | .tup xs, _, hp, h => by
    obtain ⟨a, vs, e, h1, h2⟩ := h
    exact ⟨a, vs, e, h1, R0s.unzone (by simpa only [PV.pure] using hp) h2⟩
  | .lst xs, _, hp, h => by simp only [PV.pure] at hp; cases hp
  | .dct ks, _, hp, h => by simp only [PV.pure] at hp; cases hp
  | .ins _ _, _, _, h => h
  | .scr _, _, _, h => h
theorem R0s.unzone : ∀ {ps : List PV} {vs : List V}, pures ps = true → R0s K w H z ps vs → R0s K w H z' ps vs
  | [], _, _, h => h
  | x :: xs, _, hp, h => by
    simp only [pures, Bool.and_eq_true] at hp
    obtain ⟨v, vs', e, h1, h2⟩ := h
    exact ⟨v, vs', e, R0.unzone hp.1 h1, R0s.unzone hp.2 h2⟩
end
mutual
theorem key_pure : ∀ {p : PV} {k : NestedKey}, p.key? = some k → p.pure = true
  | .non, _, _ => by simp only [PV.pure]
  | .bl _, _, _ => by simp only [PV.pure]
  | .int _, _, _ => by simp only [PV.pure]
  | .str _, _, _ => by simp only [PV.pure]
  | .tup xs, k, h => by
    simp only [PV.key?, Option.map_eq_some_iff] at h
    obtain ⟨ks, h, _⟩ := h
    simp only [PV.pure]
    exact keys_pure h
  | .lst _, _, h => by simp only [PV.key?] at h; cases h
  | .dct _, _, h => by simp only [PV.key?] at h; cases h
  | .ins _ _, _, h => by simp only [PV.key?] at h; cases h
  | .scr _, _, h => by simp only [PV.key?] at h; cases h
theorem keys_pure : ∀ {p : List PV} {k : List NestedKey}, keys? p = some k → pures p = true
  | [], _, _ => by simp only [pures]
  | x :: xs, k, h => by
    simp only [keys?] at h
    cases e1 : x.key? with
    | none => rw [e1] at h; cases h
    | some a =>
      cases e2 : keys? xs with
      | none => rw [e1, e2] at h; cases h
      | some as => simp only [pures, Bool.and_eq_true]; exact ⟨key_pure e1, keys_pure e2⟩
end
mutual
theorem RO.unzone : ∀ {n : Nat} {p : PV} {v : V} {fp : List Addr}, p.pureB n = true → RO K w H z n p v fp → RO K w H z' n p v fp
  | n, .lst xs, v, fp, hp, h => by
    cases n with
    | zero => simp only [PV.pureB, PV.pure] at hp; cases hp
    | succ n =>
      simp only [PV.pureB] at hp
      simp only [RO] at h ⊢
      obtain ⟨a, vs, f, e, h1, h2, h3⟩ := h
      exact ⟨a, vs, f, e, h1, ROs.unzone (List.all_eq_true.mp hp) h2, h3⟩
  | n, .dct ks, v, fp, hp, h => by
    cases n with
    | zero => simp only [PV.pureB, PV.pure] at hp; cases hp
    | succ n =>
      simp only [PV.pureB] at hp
      simp only [RO] at h ⊢
      obtain ⟨a, es, f, e, h1, h2, h3⟩ := h
      exact ⟨a, es, f, e, h1, ROk.unzone (List.all_eq_true.mp hp) h2, h3⟩
  | n, .non, v, fp, hp, h => let ⟨h1, h2⟩ := h.flat (fun _ e => nomatch e) fun _ e => nomatch e
    by rw [h2]; exact .ofFlat (h1.unzone (by simp only [PV.pure])) (fun _ e => nomatch e) fun _ e => nomatch e
  | n, .bl _, v, fp, hp, h => let ⟨h1, h2⟩ := h.flat (fun _ e => nomatch e) fun _ e => nomatch e
    by rw [h2]; exact .ofFlat (h1.unzone (by simp only [PV.pure])) (fun _ e => nomatch e) fun _ e => nomatch e
  | n, .int _, v, fp, hp, h => let ⟨h1, h2⟩ := h.flat (fun _ e => nomatch e) fun _ e => nomatch e
    by rw [h2]; exact .ofFlat (h1.unzone (by simp only [PV.pure])) (fun _ e => nomatch e) fun _ e => nomatch e
  | n, .str _, v, fp, hp, h => let ⟨h1, h2⟩ := h.flat (fun _ e => nomatch e) fun _ e => nomatch e
    by rw [h2]; exact .ofFlat (h1.unzone (by simp only [PV.pure])) (fun _ e => nomatch e) fun _ e => nomatch e
  | n, .tup xs, v, fp, hp, h => let ⟨h1, h2⟩ := h.flat (fun _ e => nomatch e) fun _ e => nomatch e
    by rw [h2]; exact .ofFlat (h1.unzone (by cases n <;> simpa only [PV.pureB, PV.pure] using hp)) (fun _ e => nomatch e) fun _ e => nomatch e
  | n, .ins _ _, v, fp, hp, h => let ⟨h1, h2⟩ := h.flat (fun _ e => nomatch e) fun _ e => nomatch e
    h1.elim
  | n, .scr _, v, fp, hp, h => let ⟨h1, h2⟩ := h.flat (fun _ e => nomatch e) fun _ e => nomatch e
    by rw [h2]; exact .ofFlat (h1.unzone (by simp only [PV.pure])) (fun _ e => nomatch e) fun _ e => nomatch e
theorem ROs.unzone : ∀ {n : Nat} {p : List PV} {v : List V} {fp : List Addr}, (∀ x ∈ p, x.pureB n = true) → ROs K w H z n p v fp → ROs K w H z' n p v fp
  | n, [], _, _, _, h => by simp only [ROs] at h ⊢; exact h
  | n, x :: xs, _, _, hp, h => by
    simp only [ROs] at h ⊢
    obtain ⟨v, vs', f, f', e, h1, h2, h3⟩ := h
    exact ⟨v, vs', f, f', e, RO.unzone (hp x List.mem_cons_self) h1, ROs.unzone (fun y hy => hp y (List.mem_cons_of_mem _ hy)) h2, h3⟩
theorem ROk.unzone : ∀ {n : Nat} {p : List (PV × PV)} {v : List DictEntry} {fp : List Addr}, (∀ x ∈ p, (x.1.pure && x.2.pureB n) = true) → ROk K w H z n p v fp → ROk K w H z' n p v fp
  | n, [], _, _, _, h => by simp only [ROk] at h ⊢; exact h
  | n, (a, p) :: xs, _, _, hp, h => by
    simp only [ROk] at h ⊢
    obtain ⟨v, vs', f, f', e, ⟨kv, nk, a1, a2, a3⟩, ⟨u, h1, h2⟩, h3, h4⟩ := h
    have q := Bool.and_eq_true_iff.mp (hp (a, p) List.mem_cons_self)
    exact ⟨v, vs', f, f', e, ⟨kv, nk, a1, R0.unzone q.1 a2, a3⟩, ⟨u, h1, RO.unzone q.2 h2⟩, ROk.unzone (fun y hy => hp y (List.mem_cons_of_mem _ hy)) h3, h4⟩
end
end

/-! ### the state: what is held, by whom -/
/-- one holder: its value, how it holds it, what is its own, what it shares -/
structure Ent where
  v : Option V
  s : Sl
  fp : List Addr
  z : Addr → Prop
/-- nobody else looks in -/
def Sl.excl : Sl → Bool
  | .o _ _ => true
  | .l _ _ => true
  | _ => false
def Ent.ok (K : PySem.W.Frag) (w : World) (H : Hp) (e : Ent) : Prop := (∀ a, e.z a → ∃ o, H a = some o) ∧ match e.s with
  | .u => e.fp = []
  | .v p => e.fp = [] ∧ ∃ v, e.v = some v ∧ R0 K w H e.z p v
  | .o d p => ∃ v, e.v = some v ∧ RO K w H e.z (d + 1) p v e.fp
  | .l d p => ∃ v, e.v = some v ∧ RO K w H e.z (d + 1) p v e.fp
  | .b d p => ∃ v, e.v = some v ∧ RO K w H e.z (d + 1) p v e.fp
structure Stt (K : PySem.W.Frag) (w : World) (H : Hp) (es : List Ent) : Prop where
  ok : ∀ e ∈ es, e.ok K w H
  nd : (es.flatMap (·.fp)).Nodup
  nz : ∀ e ∈ es, e.s.excl = true → ∀ a ∈ e.fp, ∀ f ∈ es, ¬ f.z a
section
variable {K : PySem.W.Frag} {w : World} {H H' : Hp} {es es' fs : List Ent} {e : Ent}
theorem Stt.perm (h : Stt K w H es) (p : es.Perm es') : Stt K w H es' :=
  ⟨fun e m => h.ok e (p.mem_iff.mpr m), (List.Perm.nodup_iff (p.flatMap_right _)).mp h.nd, fun e m x a ha f mf => h.nz e (p.mem_iff.mpr m) x a ha f (p.mem_iff.mpr mf)⟩
theorem Stt.tail (h : Stt K w H (e :: es)) : Stt K w H es :=
  ⟨fun x m => h.ok x (List.mem_cons_of_mem _ m), by have q := h.nd; rw [List.flatMap_cons] at q; exact (List.nodup_append.mp q).2.1,
    fun x m q a ha f mf => h.nz x (List.mem_cons_of_mem _ m) q a ha f (List.mem_cons_of_mem _ mf)⟩
theorem Stt.drop (h : Stt K w H (fs ++ es)) : Stt K w H es := by
  induction fs with
  | nil => exact h
  | cons f fs ih => exact ih h.tail
theorem Stt.dropR (h : Stt K w H (es ++ fs)) : Stt K w H es := (h.perm List.perm_append_comm).drop
/-- what is ours stands, and is a list or a dict -/
theorem Ent.ok.own (h : e.ok K w H) : ∀ a ∈ e.fp, Own (H a) := by
  obtain ⟨v, s, fp, z⟩ := e
  obtain ⟨_, h⟩ := h
  cases s with
  | u => intro a ha; rw [show fp = [] from h] at ha; cases ha
  | v p => intro a ha; rw [show fp = [] from h.1] at ha; cases ha
  | o d p => obtain ⟨v, _, h⟩ := h; exact h.own
  | l d p => obtain ⟨v, _, h⟩ := h; exact h.own
  | b d p => obtain ⟨v, _, h⟩ := h; exact h.own
theorem Own.some {o : Option HO} (h : Own o) : ∃ u, o = .some u := by
  rcases h with ⟨_, e⟩ | ⟨_, e⟩ <;> exact ⟨_, e⟩
theorem Ent.ok.kp {S : Addr → Prop} (h : e.ok K w H) (k : Kp S H H') (hS : ∀ b, S b → Own (H b)) (hz : ∀ b, S b → ¬ e.z b) (hf : ∀ b, S b → b ∉ e.fp) : e.ok K w H' := by
  obtain ⟨v, s, fp, z⟩ := e
  obtain ⟨h0, h⟩ := h
  refine ⟨fun a ha => let ⟨o, ho⟩ := h0 a ha; ⟨o, k a o ho fun s => hz a s ha⟩, ?_⟩
  cases s with
  | u => exact h
  | v p => obtain ⟨h1, v, h2, h3⟩ := h; exact ⟨h1, v, h2, h3.kp k hS hz fun _ q => q⟩
  | o d p => obtain ⟨v, h2, h3⟩ := h; exact ⟨v, h2, h3.kp k hS hz (fun _ q => q) hf⟩
  | l d p => obtain ⟨v, h2, h3⟩ := h; exact ⟨v, h2, h3.kp k hS hz (fun _ q => q) hf⟩
  | b d p => obtain ⟨v, h2, h3⟩ := h; exact ⟨v, h2, h3.kp k hS hz (fun _ q => q) hf⟩
theorem Stt.ext (h : Stt K w H es) (x : Ext H H') : Stt K w H' es :=
  ⟨fun e m => (h.ok e m).kp x (fun _ q => q.elim) (fun _ q => q.elim) fun _ q => q.elim, h.nd, h.nz⟩
/-- a shared value more -/
theorem Stt.addV {p : PV} {v : V} {z : Addr → Prop} (h : Stt K w H es) (r : R0 K w H z p v) (hz : ∀ a, z a → ∃ o, H a = some o) (hn : ∀ e ∈ es, e.s.excl = true → ∀ a ∈ e.fp, ¬ z a) : Stt K w H (⟨some v, .v p, [], z⟩ :: es) := by
  refine ⟨fun e m => ?_, by simpa using h.nd, fun e m q a ha f mf => ?_⟩
  · rcases List.mem_cons.mp m with rfl | m
    · exact ⟨hz, rfl, v, rfl, r⟩
    · exact h.ok e m
  · rcases List.mem_cons.mp m with rfl | m
    · cases ha
    · rcases List.mem_cons.mp mf with rfl | mf
      · exact hn e m q a ha
      · exact h.nz e m q a ha f mf
/-- something of ours more -/
theorem Stt.addO {d : Nat} {p : PV} {v : V} {fp : List Addr} {z : Addr → Prop} (h : Stt K w H es) (r : RO K w H z (d + 1) p v fp) (nd : fp.Nodup) (hz : ∀ a, z a → ∃ o, H a = some o) (hn : ∀ e ∈ es, e.s.excl = true → ∀ a ∈ e.fp, ¬ z a)
    (hf : ∀ a ∈ fp, ¬ z a ∧ ∀ e ∈ es, a ∉ e.fp ∧ ¬ e.z a) : Stt K w H (⟨some v, .o d p, fp, z⟩ :: es) := by
  refine ⟨fun e m => ?_, ?_, fun e m q a ha f mf => ?_⟩
  · rcases List.mem_cons.mp m with rfl | m
    · exact ⟨hz, v, rfl, r⟩
    · exact h.ok e m
  · rw [List.flatMap_cons]
    refine List.nodup_append.mpr ⟨nd, h.nd, fun a ha b hb e => ?_⟩
    subst e
    obtain ⟨x, mx, hx⟩ := List.mem_flatMap.mp hb
    exact ((hf a ha).2 x mx).1 hx
  · rcases List.mem_cons.mp m with rfl | m
    · rcases List.mem_cons.mp mf with rfl | mf
      · exact (hf a ha).1
      · exact ((hf a ha).2 f mf).2
    · rcases List.mem_cons.mp mf with rfl | mf
      · exact hn e m q a ha
      · exact h.nz e m q a ha f mf
end
end Mi

set_option Elab.async false
set_option linter.all false
set_option maxRecDepth 100000
set_option maxHeartbeats 4000000
/-! What the evaluator's answers ask of the abstract heap. -/
namespace Mi
open PySem PySem.Spec PyProof.Rows L2

/-- a reading weakened -/
theorem _root_.L2.PE.imp {X : Cx} {e : Expr} {t t' : TE} (h : PE X e t) (i : ∀ σ H Q, t' σ H Q → t σ H Q) : PE X e t' := ⟨fun pins s σ H Q I hq => h.run pins s σ H Q I (i σ H Q hq)⟩
theorem _root_.L2.PT.imp {X : Cx} {e : Expr} {t t' : TT} (h : PT X e t) (i : ∀ σ H Q, t' σ H Q → t σ H Q) : PT X e t' := ⟨fun pins s σ H Q I hq => h.run pins s σ H Q I (i σ H Q hq)⟩
theorem _root_.L2.PW.imp {X : Cx} {e : Expr} {t t' : TT} (h : PW X e t) (i : ∀ σ H Q, t' σ H Q → t σ H Q) : PW X e t' := ⟨fun wh pins s σ H Q I hq => h.run wh pins s σ H Q I (i σ H Q hq)⟩
theorem _root_.L2.PA.imp {X : Cx} {e : List Expr} {t t' : TA} (h : PA X e t) (i : ∀ σ H Q, t' σ H Q → t σ H Q) : PA X e t' := ⟨fun pos pins s σ H Q I hq => h.run pos pins s σ H Q I (i σ H Q hq)⟩
theorem _root_.L2.PS.imp {X : Cx} {e : Stmt} {t t' : TS} (h : PS X e t) (i : ∀ D σ H, t' D σ H → t D σ H) : PS X e t' := ⟨fun pins s σ H D I hq => h.run pins s σ H D I (i D σ H hq)⟩
theorem _root_.L2.PSs.imp {X : Cx} {e : List Stmt} {t t' : TS} (h : PSs X e t) (i : ∀ D σ H, t' D σ H → t D σ H) : PSs X e t' := ⟨fun pins s σ H D I hq => h.run pins s σ H D I (i D σ H hq)⟩

/-- the program's part that stays: the written objects, the world, where the classes stand -/
structure Gc where
  K : PySem.W.Frag
  w : World
  ca : Str → Addr

/-- the frame's slots and the evaluator's -/
def Loc (σ : L2.St) (ρ : Evn) (L : List Ent) : Prop := L.map (·.v) = σ ∧ L.map (·.s) = ρ
/-- the fields of an exception -/
def FEs : List (Str × PV) → List (Str × V) → List Ent → Prop
  | [], us, es => us = [] ∧ es = []
  | (f, p) :: fs, us, es => ∃ v us' z es', us = (f, v) :: us' ∧ es = ⟨some v, .v p, [], z⟩ :: es' ∧ FEs fs us' es'
def FldE (H : Hp) (fs : List (Str × PV)) (d : Option Addr) (es : List Ent) : Prop :=
  (fs = [] ∧ d = none ∧ es = []) ∨ (fs ≠ [] ∧ ∃ a us, d = some a ∧ H a = some (.xd us) ∧ FEs fs us es)

variable (G : Gc) (W : WX)
def ExOk (σ : L2.St) (Θ : List Ent) (c : Str) (fs : List (Str × PV)) (ρ : Evn) : Prop :=
  ∀ d H' L' Fe, Loc σ ρ L' → FldE H' fs d Fe → Stt G.K G.w H' (L' ++ (Fe ++ Θ)) → W (.ref (G.ca c)) d σ H'
def Out {α : Type} (σ : L2.St) (Θ : List Ent) (r : R α) (k : α → Evn → Prop) : Prop := match r with
  | .ok a ρ => k a ρ
  | .ex c fs ρ => ExOk G W σ Θ c fs ρ
  | .no => False
/-- a reading by an evaluator's function f; rel: how its answers lie -/
def tR {α β : Type} (f : Evn → R α) (rel : L2.St → α → β → List Ent → Prop) : L2.St → Hp → (β → Hp → Prop) → Prop := fun σ H Q =>
  ∃ ρ L Θ, Loc σ ρ L ∧ Stt G.K G.w H (L ++ Θ) ∧ Out G W σ Θ (f ρ) fun a ρ' => ∀ b H' L' Te, Loc σ ρ' L' → rel σ a b Te → Stt G.K G.w H' (L' ++ (Te ++ Θ)) → Q b H'

/-- how an expression's value lies -/
def TmE (σ : L2.St) (t : Tm) (v : V) (es : List Ent) : Prop := match t with
  | .v p => ∃ z, es = [⟨some v, .v p, [], z⟩]
  | .o d p => ∃ fp z, es = [⟨some v, .o d p, fp, z⟩]
  | .s i => σ[i]? = some (some v) ∧ es = []
  | .m i d p => σ[i]? = some (some v) ∧ ∃ fp z, es = [⟨some v, .o d p, fp, z⟩]
def TmsE (σ : L2.St) : List Tm → List V → List Ent → Prop
  | [], vs, es => vs = [] ∧ es = []
  | t :: ts, vs, es => ∃ v vs' e es', vs = v :: vs' ∧ es = e ++ es' ∧ TmE σ t v e ∧ TmsE σ ts vs' es'
def BoE (_ : L2.St) (a b : Bool) (es : List Ent) : Prop := a = b ∧ es = []

section
variable {G : Gc} {W : WX} {σ : L2.St} {Θ Θ' : List Ent}
theorem Out.bd {α β : Type} {r : R α} {f : α → Evn → R β} {k : β → Evn → Prop} : Out G W σ Θ (r.bd f) k ↔ Out G W σ Θ r fun a ρ => Out G W σ Θ (f a ρ) k := by
  cases r <;> rfl
theorem Out.imp {α : Type} {r : R α} {k k' : α → Evn → Prop} (h : Out G W σ Θ r k) (i : ∀ a ρ, k a ρ → k' a ρ) : Out G W σ Θ r k' := by
  cases r with
  | ok a ρ => exact i a ρ h
  | ex _ _ _ => exact h
  | no => exact h
/-- more held besides: an exception is none the worse -/
theorem ExOk.more {c : Str} {fs : List (Str × PV)} {ρ : Evn} (h : ExOk G W σ Θ c fs ρ) (Te : List Ent) : ExOk G W σ (Te ++ Θ) c fs ρ := fun d H' L' Fe hl hf st =>
  h d H' L' Fe hl hf (Stt.drop (fs := Te) (st.perm (by
    rw [← List.append_assoc, ← List.append_assoc]
    refine (List.perm_append_comm.append_right Θ).trans ?_
    rw [List.append_assoc]
    simp)))
theorem Out.more {α : Type} {r : R α} {k : α → Evn → Prop} (h : Out G W σ Θ r k) (Te : List Ent) : Out G W σ (Te ++ Θ) r k := by
  cases r with
  | ok a ρ => exact h
  | ex _ _ _ => exact ExOk.more h Te
  | no => exact h

/-- one, then the other: behind both -/
theorem tR.seq {α β α' β' γ : Type} {f : Evn → R α} {g : Evn → R α'} {h : α → α' → Evn → R γ} {rel : L2.St → α → β → List Ent → Prop} {rel' : L2.St → α' → β' → List Ent → Prop} {δ : Type} {rel3 : L2.St → γ → δ → List Ent → Prop} {H : Hp} {Q : δ → Hp → Prop}
    (q : tR G W (fun ρ => (f ρ).bd fun a ρ1 => (g ρ1).bd fun b ρ2 => h a b ρ2) rel3 σ H Q) :
    tR G W f rel σ H fun x H1 => tR G W g rel' σ H1 fun y H2 => ∃ a b ρ2 L Θ Te Te', Loc σ ρ2 L ∧ rel σ a x Te ∧ rel' σ b y Te' ∧ Stt G.K G.w H2 (L ++ (Te' ++ (Te ++ Θ))) ∧
      Out G W σ Θ (h a b ρ2) fun c ρ' => ∀ b H' L' Te, Loc σ ρ' L' → rel3 σ c b Te → Stt G.K G.w H' (L' ++ (Te ++ Θ)) → Q b H' := by
  obtain ⟨ρ, L, Θ, l, s, o⟩ := q
  refine ⟨ρ, L, Θ, l, s, ?_⟩
  rw [Out.bd] at o
  refine o.imp fun a ρ1 o1 x H1 L1 Te l1 r1 s1 => ?_
  refine ⟨ρ1, L1, Te ++ Θ, l1, s1, ?_⟩
  rw [Out.bd] at o1
  refine (o1.more Te).imp fun b ρ2 o2 y H2 L2 Te' l2 r2 s2 => ?_
  exact ⟨a, b, ρ2, L2, Θ, Te, Te', l2, r1, r2, s2, o2⟩
/-- one, then what is made of it -/
theorem tR.thn {α β γ δ : Type} {f : Evn → R α} {h : α → Evn → R γ} {rel : L2.St → α → β → List Ent → Prop} {rel3 : L2.St → γ → δ → List Ent → Prop} {H : Hp} {Q : δ → Hp → Prop}
    (q : tR G W (fun ρ => (f ρ).bd h) rel3 σ H Q) :
    tR G W f rel σ H fun x H1 => ∃ a ρ1 L Θ Te, Loc σ ρ1 L ∧ rel σ a x Te ∧ Stt G.K G.w H1 (L ++ (Te ++ Θ)) ∧
      Out G W σ Θ (h a ρ1) fun c ρ' => ∀ b H' L' Te, Loc σ ρ' L' → rel3 σ c b Te → Stt G.K G.w H' (L' ++ (Te ++ Θ)) → Q b H' := by
  obtain ⟨ρ, L, Θ, l, s, o⟩ := q
  refine ⟨ρ, L, Θ, l, s, ?_⟩
  rw [Out.bd] at o
  exact o.imp fun a ρ1 o1 x H1 L1 Te l1 r1 s1 => ⟨a, ρ1, L1, Θ, Te, l1, r1, s1, o1⟩
theorem tR.mono {α β : Type} {f : Evn → R α} {rel : L2.St → α → β → List Ent → Prop} {H : Hp} {Q Q' : β → Hp → Prop} (q : tR G W f rel σ H Q) (i : ∀ b H', Q b H' → Q' b H') : tR G W f rel σ H Q' := by
  obtain ⟨ρ, L, Θ, l, s, o⟩ := q
  exact ⟨ρ, L, Θ, l, s, o.imp fun a ρ1 o1 b H' L' Te l' r' s' => i _ _ (o1 b H' L' Te l' r' s')⟩
end

section
variable {F : Type} (call : F → List Sl → CR)
abbrev tE (e : Ex F) : TE := tR G W (evE call e) TmE
abbrev tEs (es : List (Ex F)) : TA := tR G W (evEs call es) TmsE
end
section
variable {F : Type} {call : F → List Sl → CR} {G : Gc} {W : WX} {σ : L2.St} {H : Hp}
theorem tEs_cons {e : Ex F} {es : List (Ex F)} {Q : List V → Hp → Prop} (q : tEs G W call (e :: es) σ H Q) : tE G W call e σ H fun x H1 => tEs G W call es σ H1 fun xs H2 => Q (x :: xs) H2 := by
  have q' : tR G W (fun ρ => (evE call e ρ).bd fun t ρ1 => (evEs call es ρ1).bd fun ts ρ2 => .ok (t :: ts) ρ2) TmsE σ H Q := by
    have e1 : evEs call (e :: es) = fun ρ => (evE call e ρ).bd fun t ρ1 => (evEs call es ρ1).bd fun ts ρ2 => .ok (t :: ts) ρ2 := by funext ρ; simp only [evEs]
    rw [← e1]; exact q
  refine (tR.seq (rel := TmE) (rel' := TmsE) q').mono fun x H1 h1 => h1.mono fun xs H2 h2 => ?_
  obtain ⟨a, b, ρ2, L, Θ, Te, Te', l, r1, r2, s, o⟩ := h2
  refine o (x :: xs) H2 L (Te ++ Te') l ⟨x, xs, Te, Te', rfl, rfl, r1, r2⟩ (s.perm (.append_left _ ?_))
  rw [List.append_assoc, ← List.append_assoc, ← List.append_assoc]
  exact List.perm_append_comm.append_right _
theorem tEs_nil {Q : List V → Hp → Prop} (q : tEs G W call [] σ H Q) : Q [] H := by
  obtain ⟨ρ, L, Θ, l, s, o⟩ := q
  simp only [evEs] at o
  exact o [] H L [] l ⟨rfl, rfl⟩ s
end
end Mi

set_option Elab.async false
set_option linter.all false
set_option maxRecDepth 100000
set_option maxHeartbeats 4000000
/-! Operations: what they hand back, over plain values. -/
namespace Mi
open PySem PySem.Spec PyProof.Rows L2

/-! ### == of data without dicts -/
mutual
def noD : PyData → Bool
  | .none | .bool _ | .int _ | .str _ => true
  | .list l => noDs l
  | .tuple l => noDs l
  | .dict _ => false
def noDs : List PyData → Bool
  | [] => true
  | d :: l => noD d && noDs l
end
mutual
theorem reads_one {h : Heap} : ∀ (d e : PyData) (v : Value) (as bs : List Addr), noD d = true → Reads h v d as → Reads h v e bs → d = e
  | d, e, v, as, bs, hn, r, q => by
    cases r with
    | none => cases q; rfl
    | bool b => cases q; rfl
    | int i t => cases q; rfl
    | str x t => cases q; rfl
    | @list a o vs n l as' g1 g2 g3 g4 =>
      cases q with
      | @list _ o' vs' n' l' bs' f1 f2 f3 f4 =>
        rw [g1] at f1; cases f1
        rw [g3] at f3; injection f3 with f3; subst f3
        rw [reads_ones l l' _ _ _ (by simpa only [noD] using hn) g4 f4]
      | tuple f1 f2 => rw [g1] at f1; cases f1; rw [g2] at f2; injection f2 with f2; exact absurd f2 (by decide)
      | dict f1 f2 => rw [g1] at f1; cases f1; rw [g2] at f2; injection f2 with f2; exact absurd f2 (by decide)
    | @tuple a o vs n l as' g1 g2 g3 g4 =>
      cases q with
      | @tuple _ o' vs' n' l' bs' f1 f2 f3 f4 =>
        rw [g1] at f1; cases f1
        rw [g3] at f3; injection f3 with f3; subst f3
        rw [reads_ones l l' _ _ _ (by simpa only [noD] using hn) g4 f4]
      | list f1 f2 => rw [g1] at f1; cases f1; rw [g2] at f2; injection f2 with f2; exact absurd f2 (by decide)
      | dict f1 f2 => rw [g1] at f1; cases f1; rw [g2] at f2; injection f2 with f2; exact absurd f2 (by decide)
    | dict => simp only [noD] at hn; cases hn
theorem reads_ones {h : Heap} : ∀ (d e : List PyData) (v : List Value) (as bs : List Addr), noDs d = true → ReadsAll h v d as → ReadsAll h v e bs → d = e
  | [], e, v, as, bs, _, r, q => by cases r; cases q; rfl
  | d :: l, e, v, as, bs, hn, r, q => by
    simp only [noDs, Bool.and_eq_true] at hn
    cases r with
    | cons r1 r2 =>
      cases q with
      | cons q1 q2 => rw [reads_one _ _ _ _ _ hn.1 r1 q1, reads_ones _ _ _ _ _ hn.2 r2 q2]
end
mutual
theorem eqv_same : ∀ d : PyData, noD d = true → PyData.eqv d d = true
  | .none, _ => by simp only [PyData.eqv]
  | .bool b, _ => by simp [PyData.eqv]
  | .int i, _ => by simp [PyData.eqv]
  | .str x, _ => by simp [PyData.eqv]
  | .list l, h => by rw [PyData.eqv]; exact eqvs_same l (by simpa only [noD] using h)
  | .tuple l, h => by rw [PyData.eqv]; exact eqvs_same l (by simpa only [noD] using h)
  | .dict _, h => by simp only [noD] at h; cases h
theorem eqvs_same : ∀ l : List PyData, noDs l = true → PyData.eqvAll l l = true
  | [], _ => by simp only [PyData.eqvAll]
  | d :: l, h => by
    simp only [noDs, Bool.and_eq_true] at h
    simp only [PyData.eqvAll, eqv_same d h.1, eqvs_same l h.2, Bool.and_self]
end
mutual
theorem eq_at : ∀ (d e : PyData) (A : Around) (s : Shared) (u v : Value) (as bs : List Addr), Reads s.heap u d as → Reads s.heap v e bs → noD d = true → noD e = true →
    A.units + min d.depth e.depth < cLine → SeqAt.EqAt A s u v (PyData.eqv d e)
  | .list l, .list l', A, s, u, v, as, bs, r, q, hd, he, hu => by
    cases r with
    | @list a o vs n _ as' g1 g2 g3 g4 =>
      cases q with
      | @list a' o' vs' n' _ bs' f1 f2 f3 f4 =>
        simp only [noD] at hd he
        have k1 : vs.size = l.length := by simpa using SeqAt.ReadsAll.length _ _ _ g4
        have k2 : vs'.size = l'.length := by simpa using SeqAt.ReadsAll.length _ _ _ f4
        have w1 : s.heap.IsList a vs := ⟨_, g1, g2, _, g3⟩
        have w2 : s.heap.IsList a' vs' := ⟨_, f1, f2, _, f3⟩
        rw [PyData.eqv]
        by_cases ha : a = a'
        · subst ha
          rw [g1] at f1; cases f1
          rw [g3] at f3; injection f3 with f3; subst f3
          rw [← reads_ones _ _ _ _ _ hd g4 f4, eqvs_same l hd]
          exact SeqAt.EqAt.same _
        · by_cases hs : vs.size = vs'.size
          · rw [← SeqAt.eqvAll_same_length (by omega : l.length = l'.length), ← k1]
            exact SeqAt.EqAt.of_refs ha (SeqAt.RcAt.lists w1 w2 hs (SeqAt.room_here hu) fun j h1 h2 => by
              have q := eq_ats l l' A.in1 s vs.toList vs'.toList _ _ g4 f4 hd he (SeqAt.room_in hu) j (by simpa using h1) (by simpa using h2)
              simpa using q)
          · rw [SeqAt.eqvAll_other_length (by omega : l.length ≠ l'.length)]
            exact SeqAt.EqAt.of_refs ha (SeqAt.RcAt.lists_lengths w1 w2 (by simpa using hs) (SeqAt.room_here hu))
  | .tuple l, .tuple l', A, s, u, v, as, bs, r, q, hd, he, hu => by
    cases r with
    | @tuple a o vs n _ as' g1 g2 g3 g4 =>
      cases q with
      | @tuple a' o' vs' n' _ bs' f1 f2 f3 f4 =>
        simp only [noD] at hd he
        have k1 : vs.size = l.length := by simpa using SeqAt.ReadsAll.length _ _ _ g4
        have k2 : vs'.size = l'.length := by simpa using SeqAt.ReadsAll.length _ _ _ f4
        have w1 : s.heap.IsTuple a vs := ⟨_, g1, g2, _, g3⟩
        have w2 : s.heap.IsTuple a' vs' := ⟨_, f1, f2, _, f3⟩
        rw [PyData.eqv]
        by_cases ha : a = a'
        · subst ha
          rw [g1] at f1; cases f1
          rw [g3] at f3; injection f3 with f3; subst f3
          rw [← reads_ones _ _ _ _ _ hd g4 f4, eqvs_same l hd]
          exact SeqAt.EqAt.same _
        · rw [← SeqAt.eqvAll_eq l l', ← k1, ← k2]
          exact SeqAt.EqAt.of_refs ha (SeqAt.RcAt.tuples w1 w2 (SeqAt.room_here hu) fun j h1 h2 => by
            have q := eq_ats l l' A.in1 s vs.toList vs'.toList _ _ g4 f4 hd he (SeqAt.room_in hu) j (by simpa using h1) (by simpa using h2)
            simpa using q)
  | .none, e, A, s, u, v, as, bs, r, q, hd, he, hu => by
    have hh := SeqAt.room_here hu
    cases r with
    | none =>
      cases q with
      | none => exact SeqAt.EqAt.same _
      | bool y => exact SeqAt.EqAt.none_bool y
      | int y u => exact SeqAt.EqAt.none_int y u
      | str y u => exact SeqAt.EqAt.none_str y u
      | list f1 f2 f3 f4 => exact SeqAt.EqAt.none_list ⟨_, f1, f2, _, f3⟩ hh
      | tuple f1 f2 f3 f4 => exact SeqAt.EqAt.none_tuple ⟨_, f1, f2, _, f3⟩ hh
      | dict => simp only [noD] at he; cases he
  | .bool x, e, A, s, u, v, as, bs, r, q, hd, he, hu => by
    have hh := SeqAt.room_here hu
    cases r with
    | bool =>
      cases q with
      | none => exact SeqAt.EqAt.bool_none x
      | bool y => exact SeqAt.EqAt.bool_bool x y
      | int y u => exact SeqAt.EqAt.bool_int x y u
      | str y u => exact SeqAt.EqAt.bool_str x y u
      | list f1 f2 f3 f4 => exact SeqAt.EqAt.bool_list x ⟨_, f1, f2, _, f3⟩ hh
      | tuple f1 f2 f3 f4 => exact SeqAt.EqAt.bool_tuple x ⟨_, f1, f2, _, f3⟩ hh
      | dict => simp only [noD] at he; cases he
  | .int x, e, A, s, u, v, as, bs, r, q, hd, he, hu => by
    have hh := SeqAt.room_here hu
    cases r with
    | int _ t =>
      cases q with
      | none => exact SeqAt.EqAt.int_none x t
      | bool y => exact SeqAt.EqAt.int_bool x t y
      | int y u => exact SeqAt.EqAt.int_int x t y u
      | str y u => exact SeqAt.EqAt.int_str x t y u
      | list f1 f2 f3 f4 => exact SeqAt.EqAt.int_list x t ⟨_, f1, f2, _, f3⟩ hh
      | tuple f1 f2 f3 f4 => exact SeqAt.EqAt.int_tuple x t ⟨_, f1, f2, _, f3⟩ hh
      | dict => simp only [noD] at he; cases he
  | .str x, e, A, s, u, v, as, bs, r, q, hd, he, hu => by
    have hh := SeqAt.room_here hu
    cases r with
    | str _ t =>
      cases q with
      | none => exact SeqAt.EqAt.str_none x t
      | bool y => exact SeqAt.EqAt.str_bool x t y
      | int y u => exact SeqAt.EqAt.str_int x t y u
      | str y u => exact SeqAt.EqAt.str_str x t y u
      | list f1 f2 f3 f4 => exact SeqAt.EqAt.str_list x t ⟨_, f1, f2, _, f3⟩ hh
      | tuple f1 f2 f3 f4 => exact SeqAt.EqAt.str_tuple x t ⟨_, f1, f2, _, f3⟩ hh
      | dict => simp only [noD] at he; cases he
  | .list l, .none, A, s, u, v, as, bs, r, q, hd, he, hu => by
    cases r with
    | list g1 g2 g3 g4 =>
      cases q with
      | none => exact SeqAt.EqAt.list_none ⟨_, g1, g2, _, g3⟩ (SeqAt.room_here hu)
  | .list l, .bool y, A, s, u, v, as, bs, r, q, hd, he, hu => by
    cases r with
    | list g1 g2 g3 g4 =>
      cases q with
      | bool _ => exact SeqAt.EqAt.list_bool y ⟨_, g1, g2, _, g3⟩ (SeqAt.room_here hu)
  | .list l, .int y, A, s, u, v, as, bs, r, q, hd, he, hu => by
    cases r with
    | list g1 g2 g3 g4 =>
      cases q with
      | int _ t => exact SeqAt.EqAt.list_int y t ⟨_, g1, g2, _, g3⟩ (SeqAt.room_here hu)
  | .list l, .str y, A, s, u, v, as, bs, r, q, hd, he, hu => by
    cases r with
    | list g1 g2 g3 g4 =>
      cases q with
      | str _ t => exact SeqAt.EqAt.list_str y t ⟨_, g1, g2, _, g3⟩ (SeqAt.room_here hu)
  | .list l, .tuple l', A, s, u, v, as, bs, r, q, hd, he, hu => by
    cases r with
    | list g1 g2 g3 g4 =>
      cases q with
      | tuple f1 f2 f3 f4 => exact SeqAt.EqAt.list_tuple ⟨_, g1, g2, _, g3⟩ ⟨_, f1, f2, _, f3⟩ (SeqAt.room_here hu)
  | .list l, .dict _, A, s, u, v, as, bs, r, q, hd, he, hu => by simp only [noD] at he; cases he
  | .tuple l, .none, A, s, u, v, as, bs, r, q, hd, he, hu => by
    cases r with
    | tuple g1 g2 g3 g4 =>
      cases q with
      | none => exact SeqAt.EqAt.tuple_none ⟨_, g1, g2, _, g3⟩ (SeqAt.room_here hu)
  | .tuple l, .bool y, A, s, u, v, as, bs, r, q, hd, he, hu => by
    cases r with
    | tuple g1 g2 g3 g4 =>
      cases q with
      | bool _ => exact SeqAt.EqAt.tuple_bool y ⟨_, g1, g2, _, g3⟩ (SeqAt.room_here hu)
  | .tuple l, .int y, A, s, u, v, as, bs, r, q, hd, he, hu => by
    cases r with
    | tuple g1 g2 g3 g4 =>
      cases q with
      | int _ t => exact SeqAt.EqAt.tuple_int y t ⟨_, g1, g2, _, g3⟩ (SeqAt.room_here hu)
  | .tuple l, .str y, A, s, u, v, as, bs, r, q, hd, he, hu => by
    cases r with
    | tuple g1 g2 g3 g4 =>
      cases q with
      | str _ t => exact SeqAt.EqAt.tuple_str y t ⟨_, g1, g2, _, g3⟩ (SeqAt.room_here hu)
  | .tuple l, .list l', A, s, u, v, as, bs, r, q, hd, he, hu => by
    cases r with
    | tuple g1 g2 g3 g4 =>
      cases q with
      | list f1 f2 f3 f4 => exact SeqAt.EqAt.tuple_list ⟨_, g1, g2, _, g3⟩ ⟨_, f1, f2, _, f3⟩ (SeqAt.room_here hu)
  | .tuple l, .dict _, A, s, u, v, as, bs, r, q, hd, he, hu => by simp only [noD] at he; cases he
  | .dict _, e, A, s, u, v, as, bs, r, q, hd, he, hu => by simp only [noD] at hd; cases hd
theorem eq_ats : ∀ (l l' : List PyData) (A : Around) (s : Shared) (us vs : List Value) (as bs : List Addr), ReadsAll s.heap us l as → ReadsAll s.heap vs l' bs → noDs l = true → noDs l' = true →
    A.units + min (PyData.depthAll l) (PyData.depthAll l') < cLine → ∀ j (h1 : j < us.length) (h2 : j < vs.length), SeqAt.EqAt A s us[j] vs[j] (SeqAt.pairEq l l' j)
  | [], _, _, _, _, _, _, _, r, _, _, _, _, j, h1, _ => by cases r; exact absurd h1 (Nat.not_lt_zero _)
  | d :: l, [], _, _, _, _, _, _, _, q, _, _, _, j, _, h2 => by cases q; exact absurd h2 (Nat.not_lt_zero _)
  | d :: l, e :: l', A, s, us, vs, as, bs, r, q, hd, he, hu, j, h1, h2 => by
    simp only [noDs, Bool.and_eq_true] at hd he
    cases r with
    | cons r1 r2 =>
      cases q with
      | cons q1 q2 =>
        cases j with
        | zero => exact eq_at d e A s _ _ _ _ r1 q1 hd.1 he.1 (SeqAt.room_head hu)
        | succ j => exact eq_ats l l' A s _ _ _ _ r2 q2 hd.2 he.2 (SeqAt.room_tail hu) j (Nat.lt_of_succ_lt_succ h1) (Nat.lt_of_succ_lt_succ h2)
end
/-- == of data, as a comparison -/
theorem rc_at {d e : PyData} {A : Around} {s : Shared} {u v : Value} {as bs : List Addr} (r : Reads s.heap u d as) (q : Reads s.heap v e bs) (hd : noD d = true) (he : noD e = true)
    (hu : A.units + min d.depth e.depth < cLine) : SeqAt.RcAt A s u v (PyData.eqv d e) := by
  have hh := SeqAt.room_here hu
  cases r with
  | none =>
    cases q with
    | none => exact SeqAt.RcAt.none_none
    | bool y => exact SeqAt.RcAt.none_bool y
    | int y z => exact SeqAt.RcAt.none_int y z
    | str y z => exact SeqAt.RcAt.none_str y z
    | list f1 f2 f3 f4 => exact SeqAt.RcAt.none_list ⟨_, f1, f2, _, f3⟩ hh
    | tuple f1 f2 f3 f4 => exact SeqAt.RcAt.none_tuple ⟨_, f1, f2, _, f3⟩ hh
    | dict => simp only [noD] at he; cases he
  | bool x =>
    cases q with
    | none => exact SeqAt.RcAt.bool_none x
    | bool y => exact SeqAt.RcAt.bool_bool x y
    | int y z => exact SeqAt.RcAt.bool_int x y z
    | str y z => exact SeqAt.RcAt.bool_str x y z
    | list f1 f2 f3 f4 => exact SeqAt.RcAt.bool_list x ⟨_, f1, f2, _, f3⟩ hh
    | tuple f1 f2 f3 f4 => exact SeqAt.RcAt.bool_tuple x ⟨_, f1, f2, _, f3⟩ hh
    | dict => simp only [noD] at he; cases he
  | int x t =>
    cases q with
    | none => exact SeqAt.RcAt.int_none x t
    | bool y => exact SeqAt.RcAt.int_bool x t y
    | int y z => exact SeqAt.RcAt.int_int x t y z
    | str y z => exact SeqAt.RcAt.int_str x t y z
    | list f1 f2 f3 f4 => exact SeqAt.RcAt.int_list x t ⟨_, f1, f2, _, f3⟩ hh
    | tuple f1 f2 f3 f4 => exact SeqAt.RcAt.int_tuple x t ⟨_, f1, f2, _, f3⟩ hh
    | dict => simp only [noD] at he; cases he
  | str x t =>
    cases q with
    | none => exact SeqAt.RcAt.str_none x t
    | bool y => exact SeqAt.RcAt.str_bool x t y
    | int y z => exact SeqAt.RcAt.str_int x t y z
    | str y z => exact SeqAt.RcAt.str_str x t y z
    | list f1 f2 f3 f4 => exact SeqAt.RcAt.str_list x t ⟨_, f1, f2, _, f3⟩ hh
    | tuple f1 f2 f3 f4 => exact SeqAt.RcAt.str_tuple x t ⟨_, f1, f2, _, f3⟩ hh
    | dict => simp only [noD] at he; cases he
  | @list a o vs n l as' g1 g2 g3 g4 =>
    have w1 : s.heap.IsList a vs := ⟨_, g1, g2, _, g3⟩
    cases q with
    | none => exact SeqAt.RcAt.list_none w1 hh
    | bool y => exact SeqAt.RcAt.list_bool y w1 hh
    | int y z => exact SeqAt.RcAt.list_int y z w1 hh
    | str y z => exact SeqAt.RcAt.list_str y z w1 hh
    | tuple f1 f2 f3 f4 => exact SeqAt.RcAt.list_tuple w1 ⟨_, f1, f2, _, f3⟩ hh
    | dict => simp only [noD] at he; cases he
    | @list a' o' vs' n' l' bs' f1 f2 f3 f4 =>
      simp only [noD] at hd he
      have k1 : vs.size = l.length := by simpa using SeqAt.ReadsAll.length _ _ _ g4
      have k2 : vs'.size = l'.length := by simpa using SeqAt.ReadsAll.length _ _ _ f4
      have w2 : s.heap.IsList a' vs' := ⟨_, f1, f2, _, f3⟩
      have el : ∀ j (h1 : j < vs.size) (h2 : j < vs'.size), SeqAt.EqAt A.in1 s vs[j] vs'[j] (SeqAt.pairEq l l' j) := fun j h1 h2 => by
        have z := eq_ats l l' A.in1 s vs.toList vs'.toList _ _ g4 f4 hd he (SeqAt.room_in hu) j (by simpa using h1) (by simpa using h2)
        simpa using z
      rw [PyData.eqv]
      by_cases hs : vs.size = vs'.size
      · rw [← SeqAt.eqvAll_same_length (by omega : l.length = l'.length), ← k1]
        exact SeqAt.RcAt.lists w1 w2 hs hh el
      · rw [SeqAt.eqvAll_other_length (by omega : l.length ≠ l'.length)]
        exact SeqAt.RcAt.lists_lengths w1 w2 (by simpa using hs) hh
  | @tuple a o vs n l as' g1 g2 g3 g4 =>
    have w1 : s.heap.IsTuple a vs := ⟨_, g1, g2, _, g3⟩
    cases q with
    | none => exact SeqAt.RcAt.tuple_none w1 hh
    | bool y => exact SeqAt.RcAt.tuple_bool y w1 hh
    | int y z => exact SeqAt.RcAt.tuple_int y z w1 hh
    | str y z => exact SeqAt.RcAt.tuple_str y z w1 hh
    | list f1 f2 f3 f4 => exact SeqAt.RcAt.tuple_list w1 ⟨_, f1, f2, _, f3⟩ hh
    | dict => simp only [noD] at he; cases he
    | @tuple a' o' vs' n' l' bs' f1 f2 f3 f4 =>
      simp only [noD] at hd he
      have k1 : vs.size = l.length := by simpa using SeqAt.ReadsAll.length _ _ _ g4
      have k2 : vs'.size = l'.length := by simpa using SeqAt.ReadsAll.length _ _ _ f4
      have w2 : s.heap.IsTuple a' vs' := ⟨_, f1, f2, _, f3⟩
      have el : ∀ j (h1 : j < vs.size) (h2 : j < vs'.size), SeqAt.EqAt A.in1 s vs[j] vs'[j] (SeqAt.pairEq l l' j) := fun j h1 h2 => by
        have z := eq_ats l l' A.in1 s vs.toList vs'.toList _ _ g4 f4 hd he (SeqAt.room_in hu) j (by simpa using h1) (by simpa using h2)
        simpa using z
      rw [PyData.eqv, ← SeqAt.eqvAll_eq l l', ← k1, ← k2]
      exact SeqAt.RcAt.tuples w1 w2 hh el
  | dict => simp only [noD] at hd; cases hd
/-- != of data, as a comparison -/
theorem rcne_at {d e : PyData} {A : Around} {s : Shared} {u v : Value} {as bs : List Addr} (r : Reads s.heap u d as) (q : Reads s.heap v e bs) (hd : noD d = true) (he : noD e = true)
    (hu : A.units + min d.depth e.depth < cLine) : SeqAt.RcNeAt A s u v (!PyData.eqv d e) := by
  have hh := SeqAt.room_here hu
  cases r with
  | none =>
    cases q with
    | none => exact SeqAt.RcNeAt.none_none
    | bool y => exact SeqAt.RcNeAt.none_bool y
    | int y z => exact SeqAt.RcNeAt.none_int y z
    | str y z => exact SeqAt.RcNeAt.none_str y z
    | list f1 f2 f3 f4 => exact SeqAt.RcNeAt.none_list ⟨_, f1, f2, _, f3⟩ hh
    | tuple f1 f2 f3 f4 => exact SeqAt.RcNeAt.none_tuple ⟨_, f1, f2, _, f3⟩ hh
    | dict => simp only [noD] at he; cases he
  | bool x =>
    cases q with
    | none => exact SeqAt.RcNeAt.bool_none x
    | bool y => exact SeqAt.RcNeAt.bool_bool x y
    | int y z => exact SeqAt.RcNeAt.bool_int x y z
    | str y z => exact SeqAt.RcNeAt.bool_str x y z
    | list f1 f2 f3 f4 => exact SeqAt.RcNeAt.bool_list x ⟨_, f1, f2, _, f3⟩ hh
    | tuple f1 f2 f3 f4 => exact SeqAt.RcNeAt.bool_tuple x ⟨_, f1, f2, _, f3⟩ hh
    | dict => simp only [noD] at he; cases he
  | int x t =>
    cases q with
    | none => exact SeqAt.RcNeAt.int_none x t
    | bool y => exact SeqAt.RcNeAt.int_bool x t y
    | int y z => exact SeqAt.RcNeAt.int_int x t y z
    | str y z => exact SeqAt.RcNeAt.int_str x t y z
    | list f1 f2 f3 f4 => exact SeqAt.RcNeAt.int_list x t ⟨_, f1, f2, _, f3⟩ hh
    | tuple f1 f2 f3 f4 => exact SeqAt.RcNeAt.int_tuple x t ⟨_, f1, f2, _, f3⟩ hh
    | dict => simp only [noD] at he; cases he
  | str x t =>
    cases q with
    | none => exact SeqAt.RcNeAt.str_none x t
    | bool y => exact SeqAt.RcNeAt.str_bool x t y
    | int y z => exact SeqAt.RcNeAt.str_int x t y z
    | str y z => exact SeqAt.RcNeAt.str_str x t y z
    | list f1 f2 f3 f4 => exact SeqAt.RcNeAt.str_list x t ⟨_, f1, f2, _, f3⟩ hh
    | tuple f1 f2 f3 f4 => exact SeqAt.RcNeAt.str_tuple x t ⟨_, f1, f2, _, f3⟩ hh
    | dict => simp only [noD] at he; cases he
  | @list a o vs n l as' g1 g2 g3 g4 =>
    have w1 : s.heap.IsList a vs := ⟨_, g1, g2, _, g3⟩
    cases q with
    | none => exact SeqAt.RcNeAt.list_none w1 hh
    | bool y => exact SeqAt.RcNeAt.list_bool y w1 hh
    | int y z => exact SeqAt.RcNeAt.list_int y z w1 hh
    | str y z => exact SeqAt.RcNeAt.list_str y z w1 hh
    | tuple f1 f2 f3 f4 => exact SeqAt.RcNeAt.list_tuple w1 ⟨_, f1, f2, _, f3⟩ hh
    | dict => simp only [noD] at he; cases he
    | @list a' o' vs' n' l' bs' f1 f2 f3 f4 =>
      simp only [noD] at hd he
      have k1 : vs.size = l.length := by simpa using SeqAt.ReadsAll.length _ _ _ g4
      have k2 : vs'.size = l'.length := by simpa using SeqAt.ReadsAll.length _ _ _ f4
      have w2 : s.heap.IsList a' vs' := ⟨_, f1, f2, _, f3⟩
      have el : ∀ j (h1 : j < vs.size) (h2 : j < vs'.size), SeqAt.EqAt A.in1 s vs[j] vs'[j] (SeqAt.pairEq l l' j) := fun j h1 h2 => by
        have z := eq_ats l l' A.in1 s vs.toList vs'.toList _ _ g4 f4 hd he (SeqAt.room_in hu) j (by simpa using h1) (by simpa using h2)
        simpa using z
      rw [PyData.eqv]
      by_cases hs : vs.size = vs'.size
      · rw [← SeqAt.eqvAll_same_length (by omega : l.length = l'.length), ← k1]
        exact SeqAt.RcNeAt.lists w1 w2 hs hh el
      · rw [SeqAt.eqvAll_other_length (by omega : l.length ≠ l'.length)]
        exact SeqAt.RcNeAt.lists_lengths w1 w2 (by simpa using hs) hh
  | @tuple a o vs n l as' g1 g2 g3 g4 =>
    have w1 : s.heap.IsTuple a vs := ⟨_, g1, g2, _, g3⟩
    cases q with
    | none => exact SeqAt.RcNeAt.tuple_none w1 hh
    | bool y => exact SeqAt.RcNeAt.tuple_bool y w1 hh
    | int y z => exact SeqAt.RcNeAt.tuple_int y z w1 hh
    | str y z => exact SeqAt.RcNeAt.tuple_str y z w1 hh
    | list f1 f2 f3 f4 => exact SeqAt.RcNeAt.tuple_list w1 ⟨_, f1, f2, _, f3⟩ hh
    | dict => simp only [noD] at he; cases he
    | @tuple a' o' vs' n' l' bs' f1 f2 f3 f4 =>
      simp only [noD] at hd he
      have k1 : vs.size = l.length := by simpa using SeqAt.ReadsAll.length _ _ _ g4
      have k2 : vs'.size = l'.length := by simpa using SeqAt.ReadsAll.length _ _ _ f4
      have w2 : s.heap.IsTuple a' vs' := ⟨_, f1, f2, _, f3⟩
      have el : ∀ j (h1 : j < vs.size) (h2 : j < vs'.size), SeqAt.EqAt A.in1 s vs[j] vs'[j] (SeqAt.pairEq l l' j) := fun j h1 h2 => by
        have z := eq_ats l l' A.in1 s vs.toList vs'.toList _ _ g4 f4 hd he (SeqAt.room_in hu) j (by simpa using h1) (by simpa using h2)
        simpa using z
      rw [PyData.eqv, ← SeqAt.eqvAll_eq l l', ← k1, ← k2]
      exact SeqAt.RcNeAt.tuples w1 w2 hh el
  | dict => simp only [noD] at hd; cases hd

/-! ### what a value reads as -/
section
variable {X : Cx} {pins : List (Addr × Obj)} {σ : L2.St} {H : Hp} {s : Shared}
open Classical in
/-- what a value reads as, if it is data -/
noncomputable def rdAs (h : Heap) (v : Value) : PyData := if q : ∃ d as, noD d = true ∧ Reads h v d as then q.choose else .none
theorem rdAs_eq {h : Heap} {v : Value} {d : PyData} {as : List Addr} (hn : noD d = true) (r : Reads h v d as) : rdAs h v = d := by
  have q : ∃ d as, noD d = true ∧ Reads h v d as := ⟨d, as, hn, r⟩
  unfold rdAs
  rw [dif_pos q]
  obtain ⟨bs, q1, q2⟩ := q.choose_spec
  exact reads_one _ _ _ _ _ q1 q2 r
theorem any_reads {h : Heap} {e : PyData} : ∀ {vs : List Value} {ds : List PyData} {as : List Addr}, ReadsAll h vs ds as → noDs ds = true → (vs.any fun u => PyData.eqv (rdAs h u) e) = ds.any fun d => PyData.eqv d e
  | _, [], _, r, _ => by cases r; rfl
  | _, d :: ds, _, r, hn => by
    simp only [noDs, Bool.and_eq_true] at hn
    cases r with
    | cons r1 r2 => simp only [List.any_cons, rdAs_eq hn.1 r1, any_reads r2 hn.2]
theorem mem_reads {h : Heap} : ∀ {vs : List Value} {ds : List PyData} {as : List Addr} {u : Value}, ReadsAll h vs ds as → u ∈ vs → ∃ d ∈ ds, ∃ bs, Reads h u d bs
  | _, [], _, u, r, hu => by cases r; cases hu
  | _, d :: ds, _, u, r, hu => by
    cases r with
    | cons r1 r2 =>
      rcases List.mem_cons.mp hu with rfl | hu
      · exact ⟨d, List.mem_cons_self, _, r1⟩
      · obtain ⟨d', m, q⟩ := mem_reads r2 hu
        exact ⟨d', List.mem_cons_of_mem _ m, q⟩
theorem noDs_mem : ∀ {ds : List PyData} {d : PyData}, noDs ds = true → d ∈ ds → noD d = true
  | d :: ds, e, h, m => by
    simp only [noDs, Bool.and_eq_true] at h
    rcases List.mem_cons.mp m with rfl | m
    · exact h.1
    · exact noDs_mem h.2 m
theorem depthAll_mem : ∀ {ds : List PyData} {d : PyData}, d ∈ ds → d.depth ≤ PyData.depthAll ds
  | d :: ds, e, m => by
    rw [PyData.depthAll]
    rcases List.mem_cons.mp m with rfl | m
    · exact Nat.le_max_left _ _
    · exact Nat.le_trans (depthAll_mem m) (Nat.le_max_right _ _)
def rEqN (K : PySem.W.Frag) (neg : Bool) : R2 := fun x y H Q => ∃ d e, Dp K H x d ∧ Dp K H y e ∧ noD d = true ∧ noD e = true ∧ min d.depth e.depth ≤ 60 ∧ Q (.bl (if neg then !PyData.eqv d e else PyData.eqv d e)) H
theorem op_eqN (hu : X.A.units + 64 < cLine) : OpR X (compareOp .Eq) (rEqN X.K false) := by
  intro pins s σ H x y v u Q I rx ry h
  obtain ⟨d, e, hd, he, nd, ne, hm, q⟩ := h
  obtain ⟨as, r1⟩ := Dp.reads I d x v hd rx
  obtain ⟨bs, r2⟩ := Dp.reads I e y u he ry
  exact rc_at r1 r2 nd ne (by omega) X.prog X.w X.xe _ ⟨.bl _, H, I, rfl, q⟩
theorem op_neN (hu : X.A.units + 64 < cLine) : OpR X (compareOp .NotEq) (rEqN X.K true) := by
  intro pins s σ H x y v u Q I rx ry h
  obtain ⟨d, e, hd, he, nd, ne, hm, q⟩ := h
  obtain ⟨as, r1⟩ := Dp.reads I d x v hd rx
  obtain ⟨bs, r2⟩ := Dp.reads I e y u he ry
  exact rcne_at r1 r2 nd ne (by omega) X.prog X.w X.xe _ ⟨.bl _, H, I, rfl, q⟩
def rInN (K : PySem.W.Frag) (neg : Bool) : R2 := fun x y H Q => ∃ d ds a vs, y = .ref a ∧ Dp K H x d ∧ (SqL K H a vs ∨ SqT K H a vs) ∧ DpAll K H vs ds ∧ noD d = true ∧ noDs ds = true ∧ d.depth ≤ 60 ∧ Q (.bl (if neg then !ds.any fun z => PyData.eqv z d else ds.any fun z => PyData.eqv z d)) H
theorem in_eqs (hu : X.A.units + 65 < cLine) {its : List Value} {ds : List PyData} {as bs : List Addr} {v : Value} {d : PyData} (ha : ReadsAll s.heap its ds as) (r1 : Reads s.heap v d bs) (nd : noD d = true) (nds : noDs ds = true) (hm : d.depth ≤ 60) :
    ∀ y, y ∈ its.toArray → SeqAt.EqAt X.A.in1 s y v (PyData.eqv (rdAs s.heap y) d) := fun y hy => by
  obtain ⟨e, me, cs, r2⟩ := mem_reads ha (by simpa using hy)
  rw [rdAs_eq (noDs_mem nds me) r2]
  have hu' : X.A.in1.units = X.A.units + 1 := by rfl
  exact eq_at e d _ s y v cs bs r2 r1 (noDs_mem nds me) nd (by rw [hu']; have := Nat.min_le_right e.depth d.depth; omega)
theorem op_inN (hu : X.A.units + 65 < cLine) : OpR X (compareOp .In) (rInN X.K false) := by
  intro pins s σ H x y v u Q I rx ry h
  obtain ⟨d, ds, a, vs, rfl, hx, hs, hv, nd, nds, hm, q⟩ := h
  cases ry
  obtain ⟨as, r1⟩ := Dp.reads I d x v hx rx
  have fin : EP X pins σ Q (.bool (ds.any fun z => PyData.eqv z d)) s := ⟨.bl _, H, I, rfl, q⟩
  rcases hs with hs | hs
  · obtain ⟨its, rv, ⟨o, n, ho, hc, _, hd⟩, _⟩ := I.list hs
    obtain ⟨bs, ha⟩ := Dp.readsAll I ds _ its hv rv
    refine SeqAt.in_listAt (fun z => PyData.eqv (rdAs s.heap z) d) ⟨o, ho, hc, n, hd⟩ (in_eqs hu ha r1 nd nds hm) ?_
    rw [List.any_toArray, any_reads ha nds]; exact fin
  · obtain ⟨its, rv, ⟨o, ho, hc, n, hd⟩, _⟩ := I.tuple hs
    obtain ⟨bs, ha⟩ := Dp.readsAll I ds _ its hv rv
    refine SeqAt.in_tupleAt (fun z => PyData.eqv (rdAs s.heap z) d) ⟨o, ho, hc, n, hd⟩ (in_eqs hu ha r1 nd nds hm) ?_
    rw [List.any_toArray, any_reads ha nds]; exact fin
theorem op_notInN (hu : X.A.units + 65 < cLine) : OpR X (compareOp .NotIn) (rInN X.K true) := by
  intro pins s σ H x y v u Q I rx ry h
  obtain ⟨d, ds, a, vs, rfl, hx, hs, hv, nd, nds, hm, q⟩ := h
  cases ry
  obtain ⟨as, r1⟩ := Dp.reads I d x v hx rx
  have fin : EP X pins σ Q (.bool (!ds.any fun z => PyData.eqv z d)) s := ⟨.bl _, H, I, rfl, q⟩
  rcases hs with hs | hs
  · obtain ⟨its, rv, ⟨o, n, ho, hc, _, hd⟩, _⟩ := I.list hs
    obtain ⟨bs, ha⟩ := Dp.readsAll I ds _ its hv rv
    refine SeqAt.notIn_listAt (fun z => PyData.eqv (rdAs s.heap z) d) ⟨o, ho, hc, n, hd⟩ (in_eqs hu ha r1 nd nds hm) ?_
    rw [List.any_toArray, any_reads ha nds]; exact fin
  · obtain ⟨its, rv, ⟨o, ho, hc, n, hd⟩, _⟩ := I.tuple hs
    obtain ⟨bs, ha⟩ := Dp.readsAll I ds _ its hv rv
    refine SeqAt.notIn_tupleAt (fun z => PyData.eqv (rdAs s.heap z) d) ⟨o, ho, hc, n, hd⟩ (in_eqs hu ha r1 nd nds hm) ?_
    rw [List.any_toArray, any_reads ha nds]; exact fin
end
end Mi

set_option Elab.async false
set_option linter.all false
set_option maxRecDepth 100000
set_option maxHeartbeats 4000000
/-! The operations' rules over plain values. -/
namespace Mi
open PySem PySem.Spec PyProof.Rows L2

section
variable (K : PySem.W.Frag) (w : World) (H : Hp) (z : Addr → Prop)
/-- an operation's argument: its top may be anybody's -/
def A1 : PV → V → Prop
  | .lst xs, v => ∃ a vs, v = .ref a ∧ H a = some (.lst vs) ∧ R0s K w H z xs vs
  | .dct ks, v => ∃ a es, v = .ref a ∧ H a = some (rawO a es) ∧ R0k K w H z ks es ∧ (ks.map (·.1)).Nodup
  | p, v => R0 K w H z p v
def A1s : List PV → List V → Prop
  | [], vs => vs = []
  | p :: ps, vs => ∃ v vs', vs = v :: vs' ∧ A1 K w H z p v ∧ A1s ps vs'
/-- an operation's answer -/
def ResOk (t : Tm) (v : V) (H' : Hp) : Prop := Ext H H' ∧ match t with
  | .v q => R0 K w H' z q v
  | .o d q => ∃ a, H a = none ∧ RO K w H' z (d + 1) q v [a]
  | _ => False
end
abbrev RP := PySem.W.Frag → World → List V → Hp → VK → Prop
def PrOk (p : Pr) (r : RP) : Prop := ∀ (K : PySem.W.Frag) (w : World) (H : Hp) (z : Addr → Prop) (ps : List PV) (vs : List V) (q : PV) (Q : VK), A1s K w H z ps vs → evP p ps = some q →
  (∀ v H', ResOk K w H z (mkTm p.fresh q) v H' → Q v H') → r K w vs H Q

section
variable {K : PySem.W.Frag} {w : World} {H H' : Hp} {z : Addr → Prop}
theorem R0.a1 {p : PV} {v : V} (h : R0 K w H z p v) : A1 K w H z p v := by
  cases p with
  | lst xs => obtain ⟨a, vs, e, _, h1, h2⟩ := h; exact ⟨a, vs, e, h1, h2⟩
  | dct ks => obtain ⟨a, es, e, _, h1, h2⟩ := h; exact ⟨a, es, e, h1, h2⟩
  | _ => exact h
theorem RO.a1 {p : PV} {v : V} {fp : List Addr} (h : RO K w H z 1 p v fp) : A1 K w H z p v := by
  cases p with
  | lst xs =>
    simp only [RO] at h
    obtain ⟨a, vs, f, e, h1, h2, _⟩ := h
    exact ⟨a, vs, e, h1, h2.r0.2⟩
  | dct ks =>
    simp only [RO] at h
    obtain ⟨a, es, f, e, h1, h2, h3, _⟩ := h
    exact ⟨a, es, e, h1, h2.r0.2, h3⟩
  | _ => exact (h.flat (fun _ e => nomatch e) fun _ e => nomatch e).1
theorem A1.zone {z' : Addr → Prop} (zz : ∀ b, z b → z' b) {p : PV} {v : V} (h : A1 K w H z p v) : A1 K w H z' p v := by
  cases p with
  | lst xs => obtain ⟨a, vs, e, h1, h2⟩ := h; exact ⟨a, vs, e, h1, h2.zone zz⟩
  | dct ks => obtain ⟨a, es, e, h1, h2, h3⟩ := h; exact ⟨a, es, e, h1, h2.zone zz, h3⟩
  | _ => exact R0.zone zz h
mutual
theorem R0.dp : ∀ {p : PV} {v : V}, p.plain = true → R0 K w H z p v → Dp K H v p.toD
  | .non, _, _, h => by cases h; simp only [PV.toD]; exact .non
  | .bl b, _, _, h => by cases h; simp only [PV.toD]; exact .bl b
  | .int i, _, _, h => by cases h; simp only [PV.toD]; exact .int i
  | .str x, _, _, h => by cases h; simp only [PV.toD]; exact .str x
  | .tup xs, _, hp, h => by
    obtain ⟨a, vs, rfl, h1, h2⟩ := h
    simp only [PV.toD]
    exact .tup h1.sq (R0s.dp (by simpa only [PV.plain] using hp) h2)
  | .lst xs, _, hp, h => by
    obtain ⟨a, vs, rfl, _, h1, h2⟩ := h
    simp only [PV.toD]
    exact .lst (.of h1) (R0s.dp (by simpa only [PV.plain] using hp) h2)
  | .dct _, _, hp, h => by simp only [PV.plain] at hp; cases hp
  | .ins _ _, _, hp, h => by simp only [PV.plain] at hp; cases hp
  | .scr _, _, hp, h => by simp only [PV.plain] at hp; cases hp
theorem R0s.dp : ∀ {ps : List PV} {vs : List V}, plains ps = true → R0s K w H z ps vs → DpAll K H vs (toDs ps)
  | [], _, _, h => by cases h; simp only [toDs]; exact .nil
  | x :: xs, _, hp, h => by
    simp only [plains, Bool.and_eq_true] at hp
    obtain ⟨v, vs', rfl, h1, h2⟩ := h
    simp only [toDs]
    exact .cons (R0.dp hp.1 h1) (R0s.dp hp.2 h2)
end
theorem A1.dp {p : PV} {v : V} (hp : p.plain = true) (h : A1 K w H z p v) : Dp K H v p.toD := by
  cases p with
  | lst xs =>
    obtain ⟨a, vs, rfl, h1, h2⟩ := h
    simp only [PV.toD]
    exact .lst (.of h1) (R0s.dp (by simpa only [PV.plain] using hp) h2)
  | dct ks => simp only [PV.plain] at hp; cases hp
  | _ => exact R0.dp (z := z) (w := w) hp h
mutual
theorem plain_noD : ∀ {p : PV}, p.plain = true → noD p.toD = true
  | .non, _ => by simp only [PV.toD, noD]
  | .bl b, _ => by simp only [PV.toD, noD]
  | .int i, _ => by simp only [PV.toD, noD]
  | .str x, _ => by simp only [PV.toD, noD]
  | .tup xs, hp => by simp only [PV.toD, noD]; exact plains_noD (by simpa only [PV.plain] using hp)
  | .lst xs, hp => by simp only [PV.toD, noD]; exact plains_noD (by simpa only [PV.plain] using hp)
  | .dct _, hp => by simp only [PV.plain] at hp; cases hp
  | .ins _ _, hp => by simp only [PV.plain] at hp; cases hp
  | .scr _, hp => by simp only [PV.plain] at hp; cases hp
theorem plains_noD : ∀ {ps : List PV}, plains ps = true → noDs (toDs ps) = true
  | [], _ => by simp only [toDs, noDs]
  | x :: xs, hp => by
    simp only [plains, Bool.and_eq_true] at hp
    simp only [toDs, noDs, Bool.and_eq_true]
    exact ⟨plain_noD hp.1, plains_noD hp.2⟩
end
mutual
theorem dep_toD : ∀ p : PV, p.toD.depth = p.dep
  | .non => by simp only [PV.toD, PyData.depth, PV.dep]
  | .bl b => by simp only [PV.toD, PyData.depth, PV.dep]
  | .int i => by simp only [PV.toD, PyData.depth, PV.dep]
  | .str x => by simp only [PV.toD, PyData.depth, PV.dep]
  | .tup xs => by simp only [PV.toD, PyData.depth, PV.dep, deps_toD xs]
  | .lst xs => by simp only [PV.toD, PyData.depth, PV.dep, deps_toD xs]
  | .dct _ => by simp only [PV.toD, PyData.depth, PV.dep]
  | .ins _ _ => by simp only [PV.toD, PyData.depth, PV.dep]
  | .scr _ => by simp only [PV.toD, PyData.depth, PV.dep]
theorem deps_toD : ∀ ps : List PV, PyData.depthAll (toDs ps) = deps ps
  | [] => by simp only [toDs, PyData.depthAll, deps]
  | x :: xs => by simp only [toDs, PyData.depthAll, deps, dep_toD x, deps_toD xs]
end
theorem toDs_eq : ∀ ps : List PV, toDs ps = ps.map PV.toD
  | [] => by simp only [toDs, List.map_nil]
  | x :: xs => by simp only [toDs, List.map_cons, toDs_eq xs]
theorem plains_all : ∀ {ps : List PV}, plains ps = ps.all PV.plain
  | [] => by simp only [plains, List.all_nil]
  | x :: xs => by simp only [plains, List.all_cons, plains_all]
theorem R0s.length : ∀ {ps : List PV} {vs : List V}, R0s K w H z ps vs → vs.length = ps.length
  | [], _, h => by cases h; rfl
  | x :: xs, _, h => by obtain ⟨v, vs', rfl, _, h2⟩ := h; simp [R0s.length h2]
theorem R0s.get : ∀ {ps : List PV} {vs : List V} {i : Nat} {p : PV}, R0s K w H z ps vs → ps[i]? = some p → ∃ v, vs[i]? = some v ∧ R0 K w H z p v
  | [], _, _, _, h, e => by simp at e
  | x :: xs, _, 0, p, h, e => by obtain ⟨v, vs', rfl, h1, h2⟩ := h; simp at e; subst e; exact ⟨v, rfl, h1⟩
  | x :: xs, _, i + 1, p, h, e => by obtain ⟨v, vs', rfl, h1, h2⟩ := h; exact R0s.get (i := i) h2 (by simpa using e)
theorem R0s.app : ∀ {ps qs : List PV} {vs us : List V}, R0s K w H z ps vs → R0s K w H z qs us → R0s K w H z (ps ++ qs) (vs ++ us)
  | [], _, _, _, h, g => by cases h; exact g
  | x :: xs, _, _, _, h, g => by obtain ⟨v, vs', rfl, h1, h2⟩ := h; exact ⟨v, vs' ++ _, rfl, h1, R0s.app h2 g⟩
theorem R0s.drop : ∀ {ps : List PV} {vs : List V} (n : Nat), R0s K w H z ps vs → R0s K w H z (ps.drop n) (vs.drop n)
  | _, _, 0, h => h
  | [], _, n + 1, h => by cases h; exact rfl
  | x :: xs, _, n + 1, h => by obtain ⟨v, vs', rfl, h1, h2⟩ := h; exact R0s.drop n h2
theorem R0s.take : ∀ {ps : List PV} {vs : List V} (n : Nat), R0s K w H z ps vs → R0s K w H z (ps.take n) (vs.take n)
  | [], _, 0, h => rfl
  | x :: xs, _, 0, h => rfl
  | [], _, n + 1, h => by cases h; exact rfl
  | x :: xs, _, n + 1, h => by obtain ⟨v, vs', rfl, h1, h2⟩ := h; exact ⟨v, _, rfl, h1, R0s.take n h2⟩
theorem R0s.rev : ∀ {ps : List PV} {vs : List V}, R0s K w H z ps vs → R0s K w H z ps.reverse vs.reverse
  | [], _, h => by cases h; exact rfl
  | x :: xs, _, h => by
    obtain ⟨v, vs', rfl, h1, h2⟩ := h
    rw [List.reverse_cons, List.reverse_cons]
    exact (R0s.rev h2).app ⟨v, [], rfl, h1, rfl⟩
theorem ints_of : ∀ {ps : List PV} {is : List Int} {vs : List V}, ints? ps = some is → R0s K w H z ps vs → vs = is.map V.int
  | [], _, _, e, h => by simp only [ints?, Option.some.injEq] at e; subst e; cases h; rfl
  | x :: xs, is, _, e, h => by
    obtain ⟨v, vs', rfl, h1, h2⟩ := h
    cases x with
    | int i =>
      simp only [ints?, Option.map_eq_some_iff] at e
      obtain ⟨js, e, rfl⟩ := e
      cases h1
      rw [ints_of e h2]
      rfl
    | _ => simp only [ints?] at e; cases e
theorem strs_of : ∀ {ps : List PV} {is : List Str} {vs : List V}, strs? ps = some is → R0s K w H z ps vs → vs = is.map V.str
  | [], _, _, e, h => by simp only [strs?, Option.some.injEq] at e; subst e; cases h; rfl
  | x :: xs, is, _, e, h => by
    obtain ⟨v, vs', rfl, h1, h2⟩ := h
    cases x with
    | str i =>
      simp only [strs?, Option.map_eq_some_iff] at e
      obtain ⟨js, e, rfl⟩ := e
      cases h1
      rw [strs_of e h2]
      rfl
    | _ => simp only [strs?] at e; cases e
/-- what an argument's walk gives -/
theorem A1.seq {p : PV} {v : V} {xs : List PV} (h : A1 K w H z p v) (e : p = .tup xs ∨ p = .lst xs) : ∃ a vs, v = .ref a ∧ (SqL K H a vs ∨ SqT K H a vs) ∧ R0s K w H z xs vs := by
  rcases e with rfl | rfl
  · obtain ⟨a, vs, e, h1, h2⟩ := h; exact ⟨a, vs, e, .inr h1.sq, h2⟩
  · obtain ⟨a, vs, e, h1, h2⟩ := h; exact ⟨a, vs, e, .inl (.of h1), h2⟩

/-! ### answers -/
theorem ResOk.flat {q : PV} {v : V} (h : R0 K w H z q v) : ResOk K w H z (.v q) v H := ⟨Kp.rfl, h⟩
theorem ResOk.newT {o : Obj} {xs : List PV} {vs : List V} {p : Addr} (h : R0s K w H z xs vs) (hp : H p = none) (hc : o.cls = .type "tuple") (hd : o.dict = none) : ResOk K w H z (.v (.tup xs)) (.ref p) (upd H p (.frz o (.tup vs))) :=
  ⟨.fresh hp, p, vs, rfl, .inl ⟨o, upd_same, hc, hd⟩, h.kp (S := fun _ => False) (.fresh hp) (fun _ x => x.elim) (fun _ x => x.elim) fun _ x => x⟩
theorem ResOk.newL {xs : List PV} {vs : List V} {p : Addr} (h : R0s K w H z xs vs) (hp : H p = none) : ResOk K w H z (.o 0 (.lst xs)) (.ref p) (upd H p (.lst vs)) := by
  refine ⟨.fresh hp, p, hp, ?_⟩
  simp only [RO]
  exact ⟨p, vs, [], rfl, upd_same, .of0 (h.kp (S := fun _ => False) (.fresh hp) (fun _ x => x.elim) (fun _ x => x.elim) fun _ x => x), rfl⟩
theorem ResOk.int {i : Int} {H : Hp} : ResOk K w H z (mkTm true (.int i)) (.int i) H := .flat rfl
theorem ResOk.bl {b : Bool} {H : Hp} : ResOk K w H z (mkTm true (.bl b)) (.bl b) H := .flat rfl
theorem ResOk.str {x : Str} {H : Hp} : ResOk K w H z (mkTm true (.str x)) (.str x) H := .flat rfl
end
end Mi

set_option Elab.async false
set_option linter.all false
set_option maxRecDepth 100000
set_option maxHeartbeats 4000000
namespace Mi
open PySem PySem.Spec PyProof.Rows L2

/-! ### from arguments to an operation -/
theorem Evn.at_eq (ρ : Evn) (i : Nat) : ρ.at i = (ρ[i]?).getD .u := by unfold Evn.at; rw [List.getD_eq_getElem?_getD]
theorem Loc.ent {σ : L2.St} {ρ : Evn} {L : List Ent} (l : Loc σ ρ L) {i : Nat} {s : Sl} (h : ρ.at i = s) (hs : s ≠ .u) : ∃ e, L[i]? = some e ∧ e.s = s ∧ σ[i]? = some e.v := by
  obtain ⟨l1, l2⟩ := l
  rw [Evn.at_eq] at h
  cases e : L[i]? with
  | none =>
    rw [← l2, List.getElem?_map, e] at h
    exact absurd h.symm hs
  | some x =>
    rw [← l2, List.getElem?_map, e] at h
    exact ⟨x, rfl, h, by rw [← l1, List.getElem?_map, e]; rfl⟩
/-- what anybody shares -/
def allZ (es : List Ent) : Addr → Prop := fun a => ∃ e ∈ es, e.z a
section
variable {G : Gc} {H H' : Hp} {σ : L2.St} {ρ : Evn} {L : List Ent} {es : List Ent}
theorem Tm.arg_ok {t : Tm} {v : V} {e : List Ent} {p : PV} (l : Loc σ ρ L) (st : Stt G.K G.w H es) (hL : ∀ x ∈ L, x ∈ es) (he : ∀ x ∈ e, x ∈ es) (r : TmE σ t v e) (h : t.arg ρ = some p) : A1 G.K G.w H (allZ es) p v := by
  cases t with
  | v q =>
    obtain ⟨z, rfl⟩ := r
    cases h
    have m := he _ List.mem_cons_self
    obtain ⟨_, _, u, e1, e2⟩ := st.ok _ m
    cases e1
    exact e2.a1.zone fun b hb => ⟨_, m, hb⟩
  | o d q =>
    obtain ⟨fp, z, rfl⟩ := r
    have m := he _ List.mem_cons_self
    obtain ⟨_, u, e1, e2⟩ := st.ok _ m
    cases e1
    cases d with
    | zero => cases h; exact e2.a1.zone fun b hb => ⟨_, m, hb⟩
    | succ d => cases h
  | s i =>
    obtain ⟨r1, rfl⟩ := r
    simp only [Tm.arg] at h
    have key : ∀ s, ρ.at i = s → s ≠ .u → (∀ x : Ent, x.s = s → x.ok G.K G.w H → x.v = some v → A1 G.K G.w H x.z p v) → A1 G.K G.w H (allZ es) p v := fun s e1 e2 k => by
      obtain ⟨x, x1, x2, x3⟩ := l.ent e1 e2
      have m := hL x (List.mem_of_getElem? x1)
      have ev : x.v = some v := Option.some.inj (x3.symm.trans r1)
      exact (k x x2 (st.ok x m) ev).zone fun b hb => ⟨x, m, hb⟩
    cases e : ρ.at i with
    | o d q =>
      rw [e] at h
      cases d with
      | zero =>
        cases h
        refine key _ e (by intro z; cases z) fun x e1 ok ev => ?_
        obtain ⟨xv, xs, xf, xz⟩ := x
        obtain rfl : xs = _ := e1
        obtain ⟨_, u, e3, e4⟩ := ok
        obtain rfl : xv = _ := ev
        cases e3
        exact e4.a1
      | succ d => cases h
    | l d q =>
      rw [e] at h
      cases d with
      | zero =>
        cases h
        refine key _ e (by intro z; cases z) fun x e1 ok ev => ?_
        obtain ⟨xv, xs, xf, xz⟩ := x
        obtain rfl : xs = _ := e1
        obtain ⟨_, u, e3, e4⟩ := ok
        obtain rfl : xv = _ := ev
        cases e3
        exact e4.a1
      | succ d => cases h
    | u => rw [e] at h; cases h
    | v q => rw [e] at h; cases h
    | b d q => rw [e] at h; cases h
  | m i d q => cases h
theorem Tm.args_ok : ∀ {ts : List Tm} {vs : List V} {e : List Ent} {ps : List PV}, Loc σ ρ L → Stt G.K G.w H es → (∀ x ∈ L, x ∈ es) → (∀ x ∈ e, x ∈ es) → TmsE σ ts vs e → Tm.args ρ ts = some ps → A1s G.K G.w H (allZ es) ps vs
  | [], _, _, _, l, st, hL, he, r, h => by
    simp only [Tm.args, Option.some.injEq] at h
    subst h
    exact r.1
  | t :: ts, _, _, ps, l, st, hL, he, r, h => by
    obtain ⟨v, vs', e, e', rfl, rfl, r1, r2⟩ := r
    simp only [Tm.args] at h
    cases h1 : t.arg ρ with
    | none => rw [h1] at h; cases h
    | some p =>
      cases h2 : Tm.args ρ ts with
      | none => rw [h1, h2] at h; cases h
      | some qs =>
        rw [h1, h2] at h
        cases h
        exact ⟨v, vs', rfl, Tm.arg_ok l st hL (fun x hx => he x (List.mem_append_left _ hx)) r1 h1, Tm.args_ok l st hL (fun x hx => he x (List.mem_append_right _ hx)) r2 h2⟩
theorem allZ_dom (st : Stt G.K G.w H es) : ∀ a, allZ es a → ∃ o, H a = some o := fun a ⟨e, m, h⟩ => (st.ok e m).1 a h
theorem allZ_free (st : Stt G.K G.w H es) : ∀ e ∈ es, e.s.excl = true → ∀ a ∈ e.fp, ¬ allZ es a := fun e m x a ha ⟨f, mf, h⟩ => st.nz e m x a ha f mf h
/-- an answer joins what is held -/
theorem Stt.res {t : Tm} {v : V} (st : Stt G.K G.w H es) (r : ResOk G.K G.w H (allZ es) t v H') : ∃ Te, (∀ σ, TmE σ t v Te) ∧ Stt G.K G.w H' (Te ++ es) := by
  obtain ⟨x, r⟩ := r
  have st' := st.ext x
  have dm : ∀ a, allZ es a → ∃ o, H' a = some o := allZ_dom st'
  cases t with
  | v q => exact ⟨[⟨some v, .v q, [], allZ es⟩], fun _ => ⟨_, rfl⟩, st'.addV r dm (allZ_free st')⟩
  | o d q =>
    obtain ⟨a, ha, r⟩ := r
    refine ⟨[⟨some v, .o d q, [a], allZ es⟩], fun _ => ⟨_, _, rfl⟩, st'.addO r (by simp) dm (allZ_free st') fun b hb => ?_⟩
    obtain rfl : b = a := by simpa using hb
    have nz : ¬ allZ es b := fun h => by obtain ⟨o, ho⟩ := allZ_dom st b h; rw [ha] at ho; cases ho
    refine ⟨nz, fun e m => ⟨fun hb => ?_, fun hz => nz ⟨e, m, hz⟩⟩⟩
    obtain ⟨o, ho⟩ := ((st.ok e m).own b hb).some
    rw [ha] at ho; cases ho
  | s i => exact r.elim
  | m i d q => exact r.elim
end
section
variable {F : Type} {call : F → List Sl → CR} {G : Gc} {W : WX} {σ : L2.St} {H : Hp}
theorem pr_args {p : Pr} {r : RP} (hp : PrOk p r) {es : List (Ex F)} {Q : VK} (q : tE G W call (.pr p es) σ H Q) : tEs G W call es σ H fun vs H2 => r G.K G.w vs H2 Q := by
  have q' : tR G W (fun ρ => (evEs call es ρ).bd fun ts ρ1 => match Tm.args ρ1 ts with
    | some ps => (match evP p ps with | some r => .ok (mkTm p.fresh r) ρ1 | none => .no)
    | none => .no) TmE σ H Q := by
    have e1 : evE call (.pr p es) = fun ρ => (evEs call es ρ).bd fun ts ρ1 => match Tm.args ρ1 ts with
      | some ps => (match evP p ps with | some r => .ok (mkTm p.fresh r) ρ1 | none => .no)
      | none => .no := by funext ρ; simp only [evE] <;> rfl
    rw [← e1]; exact q
  refine (tR.thn (rel := TmsE) q').mono fun vs H1 h1 => ?_
  obtain ⟨ts, ρ1, L, Θ, Te, l, r1, st, o⟩ := h1
  cases ha : Tm.args ρ1 ts with
  | none => rw [ha] at o; exact o.elim
  | some ps =>
    rw [ha] at o
    simp only at o
    cases he : evP p ps with
    | none => rw [he] at o; exact o.elim
    | some a =>
      rw [he] at o
      refine hp G.K G.w H1 _ ps vs a Q (Tm.args_ok l st (fun x hx => List.mem_append_left _ hx) (fun x hx => List.mem_append_right _ (List.mem_append_left _ hx)) r1 ha) he fun v H' res => ?_
      obtain ⟨Te', t1, t2⟩ := st.res res
      refine o v H' L Te' l (t1 σ) ?_
      have t3 : Stt G.K G.w H' (Te ++ (L ++ (Te' ++ Θ))) := t2.perm (by
        refine List.perm_append_comm.trans ?_
        simp only [List.append_assoc]
        refine (List.perm_append_comm (l₁ := L)).trans ?_
        simp only [List.append_assoc]
        refine .append_left _ ?_
        refine (List.perm_append_comm (l₁ := Θ)).trans ?_
        simp only [List.append_assoc]
        refine (List.perm_append_comm (l₁ := Te')).trans ?_
        simp only [List.append_assoc]
        exact .append_left _ List.perm_append_comm)
      exact t3.drop
end

/-! ### forms -/
def ofR2 (r : PySem.W.Frag → World → R2) : RP := fun K w vs H Q => ∃ x y, vs = [x, y] ∧ r K w x y H Q
def ofR1 (r : PySem.W.Frag → World → V → Hp → VK → Prop) : RP := fun K w vs H Q => ∃ x, vs = [x] ∧ r K w x H Q
section
variable {F : Type} {call : F → List Sl → CR} {G : Gc} {W : WX} {X : Cx} {p : Pr} {e1 e2 : Ex F} {a b : Expr} {pos : Pos}
theorem tEs_two {r : PySem.W.Frag → World → R2} {σ : L2.St} {H : Hp} {Q : VK} (q : tEs G W call [e1, e2] σ H fun vs H2 => ofR2 r G.K G.w vs H2 Q) : tE G W call e1 σ H fun x H1 => tE G W call e2 σ H1 fun y H2 => r G.K G.w x y H2 Q :=
  (tEs_cons q).mono fun x H1 h1 => (tEs_cons h1).mono fun y H2 h2 => by
    obtain ⟨x', y', e, q⟩ := tEs_nil h2
    cases e
    exact q
theorem tEs_one {r : PySem.W.Frag → World → V → Hp → VK → Prop} {σ : L2.St} {H : Hp} {Q : VK} (q : tEs G W call [e1] σ H fun vs H2 => ofR1 r G.K G.w vs H2 Q) : tE G W call e1 σ H fun x H1 => r G.K G.w x H1 Q :=
  (tEs_cons q).mono fun x H1 h1 => by
    obtain ⟨x', e, q⟩ := tEs_nil h1
    cases e
    exact q
theorem f_bin {op : Operator} {r : PySem.W.Frag → World → R2} (ho : OpR X (binaryOp op) (r G.K G.w)) (hp : PrOk p (ofR2 r)) (ha : PE X a (tE G W call e1)) (hb : PE X b (tE G W call e2)) : PE X (.BinOp a op b pos) (tE G W call (.pr p [e1, e2])) :=
  (pe_op ho ha hb).imp fun σ H Q q => tEs_two (pr_args hp q)
theorem f_un {op : UnaryOp} {r : PySem.W.Frag → World → V → Hp → VK → Prop} (ho : UnR X (unaryOp op) (r G.K G.w)) (hp : PrOk p (ofR1 r)) (ha : PE X a (tE G W call e1)) : PE X (.UnaryOp op a pos) (tE G W call (.pr p [e1])) :=
  (pe_un ho ha).imp fun σ H Q q => tEs_one (pr_args hp q)
def isSet : Expr → Bool
  | .Set _ _ _ => true
  | _ => false
theorem noMarks {op : CmpOp} {b : Expr} (h : isSet b = false) : behindInMarks op b = false := by
  cases b <;> first | rfl | (simp only [isSet] at h; cases h)
theorem f_cmp {op : CmpOp} {r : PySem.W.Frag → World → R2} (ho : OpR X (compareOp op) (r G.K G.w)) (hp : PrOk p (ofR2 r)) (ha : PE X a (tE G W call e1)) (hb : PE X b (tE G W call e2)) (hs : isSet b = false) : PE X (.Compare a [op] [b] pos) (tE G W call (.pr p [e1, e2])) :=
  (pe_cmpR ho ha hb (noMarks hs)).imp fun σ H Q q => tEs_two (pr_args hp q)
theorem f_ix {r : PySem.W.Frag → World → R2} (ho : IxR X (r G.K G.w)) (hp : PrOk p (ofR2 r)) (ha : PE X a (tE G W call e1)) (hb : PE X b (tE G W call e2)) (hs : PlainIx b) : PE X (.Subscript a b pos) (tE G W call (.pr p [e1, e2])) :=
  (pe_ix ho ha hb hs).imp fun σ H Q q => tEs_two (pr_args hp q)
end

/-! ### the operations, one by one -/
theorem A1s.two {K : PySem.W.Frag} {w : World} {H : Hp} {z : Addr → Prop} {a b : PV} {vs : List V} (h : A1s K w H z [a, b] vs) : ∃ x y, vs = [x, y] ∧ A1 K w H z a x ∧ A1 K w H z b y := by
  obtain ⟨x, _, rfl, h1, y, _, rfl, h2, rfl⟩ := h
  exact ⟨x, y, rfl, h1, h2⟩
theorem A1s.one {K : PySem.W.Frag} {w : World} {H : Hp} {z : Addr → Prop} {a : PV} {vs : List V} (h : A1s K w H z [a] vs) : ∃ x, vs = [x] ∧ A1 K w H z a x := by
  obtain ⟨x, _, rfl, h1, rfl⟩ := h
  exact ⟨x, rfl, h1⟩
theorem A1s.three {K : PySem.W.Frag} {w : World} {H : Hp} {z : Addr → Prop} {a b c : PV} {vs : List V} (h : A1s K w H z [a, b, c] vs) : ∃ x y u, vs = [x, y, u] ∧ A1 K w H z a x ∧ A1 K w H z b y ∧ A1 K w H z c u := by
  obtain ⟨x, _, rfl, h1, y, _, rfl, h2, u, _, rfl, h3, rfl⟩ := h
  exact ⟨x, y, u, rfl, h1, h2, h3⟩
theorem pInt_some {c : Int → Int → Bool} {f : Int → Int → Int} {a b q : PV} (h : pInt c f a b = some q) : ∃ i j, a = .int i ∧ b = .int j ∧ c i j = true ∧ q = .int (f i j) := by
  unfold pInt at h
  split at h
  · split at h
    · cases h; exact ⟨_, _, rfl, rfl, by assumption, rfl⟩
    · cases h
  · cases h
/-- two ints -/
theorem ok_int2 {p : Pr} {c : Int → Int → Bool} {f : Int → Int → Int} {C : Int → Int → Prop} (he : evP p = two (pInt c f)) (hf : p.fresh = true) (hc : ∀ i j, c i j = true → C i j) : PrOk p (ofR2 fun _ _ => rI C fun i j => .int (f i j)) := by
  intro K w H z ps vs q Q ha h hq
  rw [he] at h
  obtain ⟨a, b, rfl, h⟩ := two_some h
  obtain ⟨x, y, rfl, h1, h2⟩ := ha.two
  obtain ⟨i, j, rfl, rfl, hcc, rfl⟩ := pInt_some h
  cases h1
  cases h2
  rw [hf] at hq
  exact ⟨_, _, rfl, i, j, rfl, rfl, hc i j hcc, hq _ _ .int⟩
theorem rI_true {g : Int → Int → V} {x y : V} {H : Hp} {Q : VK} (h : rI (fun _ _ => True) g x y H Q) : rI0 g x y H Q := by
  obtain ⟨i, j, e1, e2, _, q⟩ := h
  exact ⟨i, j, e1, e2, q⟩
end Mi

set_option Elab.async false
set_option linter.all false
set_option maxRecDepth 100000
set_option maxHeartbeats 4000000
namespace Mi
open PySem PySem.Spec PyProof.Rows L2

section
variable {X : Cx} {pins : List (Addr × Obj)} {σ : L2.St} {H : Hp} {s : Shared}
/-- a new tuple -/
theorem tup_new {vs : List V} {its : List Value} {t' : Nat} (I : Inv X pins σ H s) (hv : Vals vs its) (hz : vs.length ≤ sizeLine) :
    Inv X pins σ (upd H s.heap.objs.size (.frz { cls := .type "tuple", data := .seq its.toArray } (.tup vs))) { s with heap := s.heap.push { cls := .type "tuple", data := .seq its.toArray }, toks := t' } :=
  I.laid (fun _ _ q => Heap.get?_push_of_some _ q) (Nat.le_refl _) ⟨Heap.get?_push_size _ rfl, hz, its, hv, IsTup.new _ _⟩
/-- what is wanted of a new tuple of vs -/
def NewT (H : Hp) (Q : VK) (vs : List V) : Prop := ∀ p o, H p = none → o.cls = Value.type "tuple" → o.dict = none → Q (.ref p) (upd H p (.frz o (.tup vs)))
def rCatF (K : PySem.W.Frag) : R2 := fun x y H Q => ∃ a b xs ys, x = .ref a ∧ y = .ref b ∧ SqT K H a xs ∧ SqT K H b ys ∧ xs.length + ys.length ≤ sizeLine ∧ (xs = [] → Q (.ref b) H) ∧ (xs ≠ [] → ys = [] → Q (.ref a) H) ∧ NewT H Q (xs ++ ys)
theorem op_catF : OpR X (binaryOp .Add) (rCatF X.K) := by
  intro pins s σ H x y v u Q I rx ry h
  obtain ⟨a, b, xs, ys, rfl, rfl, ha, hb, hz, q0, q1, q2⟩ := h
  cases rx
  cases ry
  obtain ⟨its, v1, p1, _⟩ := I.tuple ha
  obtain ⟨jts, v2, p2, _⟩ := I.tuple hb
  by_cases hx : xs = []
  · subst hx
    cases v1
    exact cat_tup0 p1 p2 ⟨.ref b, H, I, rfl, q0 rfl⟩
  · refine HT.cat_tup p1 p2 (fun e => hx (v1.nil_iff.mp e)) (fun e => ⟨.ref a, H, I, rfl, q1 hx (v2.nil_iff.mp e)⟩) (fun _ => ?_) (by rw [← v1.length, ← v2.length]; exact hz)
    exact ⟨.ref s.heap.objs.size, _, tup_new (t' := s.toks) I (v1.append v2) (by rw [List.length_append]; exact hz), rfl, q2 _ _ (I.hok.fresh (Nat.le_refl _)) rfl rfl⟩
def rSlF (K : PySem.W.Frag) : V → Option Int → Option Int → Hp → VK → Prop := fun x lo hi H Q => ∃ a xs, x = .ref a ∧ SqT K H a xs ∧
  (HT.sIx xs.length 0 lo = 0 ∧ HT.sIx xs.length xs.length hi = xs.length → Q (.ref a) H) ∧ NewT H Q (cutV xs lo hi)
theorem sl_tupF : SlR X (rSlF X.K) := by
  intro pins s σ H x v vl vu lo hi sl Q I rx hs pl pu h
  obtain ⟨a, xs, rfl, hx, q1, q2⟩ := h
  cases rx
  obtain ⟨its, vr, ht, hz⟩ := I.tuple hx
  have el : its.toArray.size = xs.length := by rw [List.size_toArray]; exact vr.length.symm
  refine ⟨"tuple", _, PyProof.Rows.slot_tuple_getitem.lookup, ht.typeIs, ?_⟩
  by_cases hw : HT.sIx xs.length 0 lo = 0 ∧ HT.sIx xs.length xs.length hi = xs.length
  · exact getItem_tuple_whole ht hs pl pu (by rw [el]; exact hw) ⟨.ref a, H, I, rfl, q1 hw⟩
  · refine HT.getItem_tuple_cut ht hs pl pu (by rw [el]; exact hw) ?_ (by rw [el]; exact hz)
    rw [el]
    exact ⟨.ref s.heap.objs.size, _, tup_new (t' := s.toks) I ((vr.drop (HT.sIx xs.length 0 lo)).take (HT.sIx xs.length xs.length hi - HT.sIx xs.length 0 lo)) (Nat.le_trans (cutV_length xs lo hi) hz), rfl,
      q2 _ _ (I.hok.fresh (Nat.le_refl _)) rfl rfl⟩
def rTupF (K : PySem.W.Frag) : V → Hp → VK → Prop := fun x H Q => ∃ p ys, x = .ref p ∧ ((SqL K H p ys ∧ NewT H Q ys) ∨ (SqT K H p ys ∧ Q (.ref p) H))
theorem call_tupF : CallR X (.type "tuple") (fun xs H Q => ∃ x, xs = [x] ∧ rTupF X.K x H Q) := by
  intro pins s σ H xs us Q I r h
  obtain ⟨x, rfl, p, ys, rfl, h⟩ := h
  obtain ⟨u, rfl, rx⟩ := vals1 r
  cases rx
  rcases h with ⟨hq, q⟩ | ⟨hq, q⟩
  · obtain ⟨its, vr, pl, hz⟩ := I.list hq
    have el := vr.length
    refine call_tuple_list pl.isList (fun h' kp => ?_) (by simp only [List.size_toArray] <;> omega)
    have J : Inv X pins σ H { s with heap := h' } := I.kept (t' := s.toks) kp
    exact ⟨.ref h'.objs.size, _, tup_new (t' := s.toks) J vr hz, rfl, q _ _ (J.hok.fresh (Nat.le_refl _)) rfl rfl⟩
  · obtain ⟨its, vr, pl, hz⟩ := I.tuple hq
    exact call_tuple_same pl ⟨.ref p, H, I, rfl, q⟩
/-- a display of a tuple -/
def tTupF (t : TA) : TE := fun σ H Q => t σ H fun xs H1 => xs.length ≤ sizeLine ∧ NewT H1 Q xs
theorem pe_tupF {es : List Expr} {t : TA} {pos : Pos} {x1} (h : PA X es t) : PE X (.Tuple es x1 pos) (tTupF t) := by
  refine ⟨fun pins s σ H Q I hq => ?_⟩
  refine wpAny_Tuple_spliced (thn (h.run pos pins s σ H _ I hq) fun us s1 ⟨xs, H1, J, vr, hz, q⟩ => ⟨by rw [← vr.length]; exact hz, ?_⟩)
  exact ⟨.ref s1.heap.objs.size, _, tup_new (t' := s1.toks) J vr hz, rfl, q _ _ (J.hok.fresh (Nat.le_refl _)) rfl rfl⟩
end

section
variable {K : PySem.W.Frag} {w : World} {H : Hp} {z : Addr → Prop}
theorem NewT.of {Q : VK} {xs : List PV} {vs : List V} (h : R0s K w H z xs vs) (hq : ∀ v H', ResOk K w H z (.v (.tup xs)) v H' → Q v H') : NewT H Q vs := fun p o hp hc hd => hq _ _ (.newT h hp hc hd)
theorem A1.tup {xs : List PV} {v : V} (h : A1 K w H z (.tup xs) v) : ∃ a vs, v = .ref a ∧ SqT K H a vs ∧ R0s K w H z xs vs := by
  obtain ⟨a, vs, e, h1, h2⟩ := h
  exact ⟨a, vs, e, h1.sq, h2⟩
theorem A1.lst {xs : List PV} {v : V} (h : A1 K w H z (.lst xs) v) : ∃ a vs, v = .ref a ∧ H a = some (.lst vs) ∧ R0s K w H z xs vs := h
end

/-! ### + -/
def rAdd' (K : PySem.W.Frag) (_ : World) : R2 := fun x y H Q => ((rI0 (fun i j => .int (i + j)) x y H Q ∨ (∃ i j, x = .str i ∧ y = .str j ∧ i.length + j.length ≤ sizeLine ∧ Q (.str (i ++ j)) H)) ∨ rCatF K x y H Q) ∨ rCat x y H Q
theorem op_add' {X : Cx} : OpR X (binaryOp .Add) (rAdd' X.K X.w) := ((op_add.or op_add_str).or op_catF).or op_cat
theorem len_of_R0s {K : PySem.W.Frag} {w : World} {H : Hp} {z : Addr → Prop} {xs : List PV} {vs : List V} (h : R0s K w H z xs vs) : vs.length = xs.length := h.length
theorem ok_add : PrOk .add (ofR2 rAdd') := by
  intro K w H z ps vs q Q ha h hq
  obtain ⟨a, b, rfl, h⟩ := two_some h
  obtain ⟨x, y, rfl, h1, h2⟩ := ha.two
  refine ⟨x, y, rfl, ?_⟩
  have h' : pAdd a b = some q := h
  unfold pAdd at h'
  split at h'
  · cases h'; cases h1; cases h2
    exact .inl (.inl (.inl ⟨_, _, rfl, rfl, hq _ _ .int⟩))
  · split at h'
    · cases h'; cases h1; cases h2
      exact .inl (.inl (.inr ⟨_, _, rfl, rfl, by assumption, hq _ _ .str⟩))
    · cases h'
  · split at h'
    · cases h'
      rename_i xs ys hl _
      obtain ⟨a, vs, rfl, g1, g3⟩ := h1.tup
      obtain ⟨b, us, rfl, g2, g4⟩ := h2.tup
      refine .inl (.inr ⟨a, b, vs, us, rfl, rfl, g1, g2, by rw [g3.length, g4.length]; exact hl, fun e => ?_, fun _ e => ?_, .of (g3.app g4) hq⟩)
      · subst e
        have e0 : xs = [] := List.eq_nil_of_length_eq_zero g3.length.symm
        subst e0
        exact hq _ _ (.flat h2)
      · subst e
        have e0 : ys = [] := List.eq_nil_of_length_eq_zero g4.length.symm
        subst e0
        rw [List.append_nil] at hq
        exact hq _ _ (.flat h1)
    · cases h'
  · split at h'
    · cases h'
      rename_i xs ys hl _
      obtain ⟨a, vs, rfl, h1, h3⟩ := h1.lst
      obtain ⟨b, us, rfl, h2, h4⟩ := h2.lst
      exact .inr ⟨a, b, vs, us, rfl, rfl, h1, h2, by rw [h3.length, h4.length]; exact hl, fun p hp => hq _ _ (.newL (h3.app h4) hp)⟩
    · cases h'
  · cases h'

/-! ### other operators -/
theorem ok_sub : PrOk .sub (ofR2 fun _ _ => rI0 fun i j => .int (i - j)) := by
  intro K w H z ps vs q Q ha h hq
  obtain ⟨x, y, e, r⟩ := ok_int2 (p := .sub) (C := fun _ _ => True) rfl rfl (fun _ _ _ => trivial) K w H z ps vs q Q ha h hq
  exact ⟨x, y, e, rI_true r⟩
/-- t * 1, () * k -/
theorem tuple_mul_same (l : Addr) (items : Array Value) (n : Nat) (sl : Array (Option Value)) (x : Int) (u : Tok) (c0 : (decide (x < -(2 ^ 63)) || decide (x ≥ 2 ^ 63)) = false) (c1 : (items.isEmpty || x == 1) = true) :
    Meets (Builtin.«tuple.__mul__» ⟨[.ref l, .int x u], []⟩) (fun _ R s => s.heap.get? l = some { cls := .type "tuple", dict := none, data := .seq items n, slots := sl } ∧ R (.ok (.ret (.ref l))) s) :=
  .of_wp fun prog w A R s h => by
    obtain ⟨hp, g, d, tk, os⟩ := s
    obtain ⟨hl, h⟩ := h
    have f1 := AutoSeq1.idx_int
    wp_walk using wpAny_loadPart' hl
    repeat (first
      | (refine wpAny_ite_false (decide_eq_false (by rw [c0]; exact Bool.false_ne_true)) ?_; wp_walk using wpAny_loadPart' hl)
      | (refine wpAny_ite_true (decide_eq_true c1) ?_; wp_walk using wpAny_loadPart' hl))
    exact ⟨_, rfl, h⟩
theorem tuple_mul_none (l : Addr) (items : Array Value) (n : Nat) (dd : Option Addr) (sl : Array (Option Value)) (x : Int) (u : Tok) (c0 : (decide (x < -(2 ^ 63)) || decide (x ≥ 2 ^ 63)) = false) (c1 : (items.isEmpty || x == 1) = false) (c2 : (decide (x ≤ 0) || items.isEmpty) = true) :
    Meets (Builtin.«tuple.__mul__» ⟨[.ref l, .int x u], []⟩) (fun _ R s => s.heap.get? l = some { cls := .type "tuple", dict := dd, data := .seq items n, slots := sl } ∧
      R (.ok (.ret (Value.ref s.heap.objs.size))) { s with heap := s.heap.push { cls := Value.type "tuple", data := Data.seq #[] }, toks := s.toks }) :=
  .of_wp fun prog w A R s h => by
    obtain ⟨hp, g, d, tk, os⟩ := s
    obtain ⟨hl, h⟩ := h
    have f1 := AutoSeq1.idx_int
    wp_walk using wpAny_loadPart' hl
    repeat (first
      | (refine wpAny_ite_false (decide_eq_false (by rw [c0]; exact Bool.false_ne_true)) ?_; wp_walk using wpAny_loadPart' hl)
      | (refine wpAny_ite_false (decide_eq_false (by rw [c1]; exact Bool.false_ne_true)) ?_; wp_walk using wpAny_loadPart' hl)
      | (refine wpAny_ite_true (decide_eq_true c2) ?_; wp_walk using wpAny_loadPart' hl))
    exact ⟨_, rfl, h⟩
def rRepTF (K : PySem.W.Frag) : R2 := fun x y H Q => ∃ l k xs, x = .ref l ∧ y = .int k ∧ TqT K H l xs ∧ 0 ≤ k ∧ k ≤ 1000 ∧ xs.length ≤ 1000 ∧ (xs = [] ∨ k = 1 → Q (.ref l) H) ∧ NewT H Q (List.replicate k.toNat xs).flatten
theorem TqT.at {X : Cx} {pins : List (Addr × Obj)} {σ : L2.St} {H : Hp} {s : Shared} (I : Inv X pins σ H s) {a : Addr} {vs : List V} (h : TqT X.K H a vs) : ∃ its : List Value, Vals vs its ∧ its.length ≤ sizeLine ∧ ∃ n sl, s.heap.get? a = some { cls := .type "tuple", dict := none, data := .seq its.toArray n, slots := sl } := by
  rcases h with ⟨o, h, hc, hd⟩ | ⟨o, its, n, h1, h2, h3, h4, h5, h6⟩
  · have q := I.hok a _ h
    obtain ⟨g, hz, its, r, ⟨o', g', _, n, hd'⟩⟩ := q
    rw [g] at g'
    cases g'
    refine ⟨its, r, by rw [← r.length]; exact hz, n, o.slots, ?_⟩
    rw [g]
    obtain ⟨c, d, dd, sl⟩ := o
    simp only at hc hd hd'
    subst hc hd hd'
    rfl
  · refine ⟨its.toList, h6, by simpa using h5, n, o.slots, ?_⟩
    rw [I.kIn a o h1]
    obtain ⟨c, d, dd, sl⟩ := o
    simp only at h2 h3 h4
    subst h2 h3 h4
    simp
theorem op_repTF {X : Cx} : OpR X (binaryOp .Mult) (rRepTF X.K) := by
  intro pins s σ H x y v u Q I rx ry h
  obtain ⟨l, k, xs, rfl, rfl, hT, h1, h2, hz, q1, q2⟩ := h
  cases rx
  obtain ⟨t, rfl⟩ := ry
  obtain ⟨its, r, hs, n, sl, ho⟩ := TqT.at I hT
  have hle : its.length = xs.length := r.length.symm
  have hsz0 : its.toArray.size = xs.length := by rw [List.size_toArray, hle]
  have hm : ((its.toArray.size : Nat) : Int) * k ≤ 1000000 := by
    rw [hsz0]
    have a1 : ((xs.length : Nat) : Int) * k ≤ 1000 * k := Int.mul_le_mul_of_nonneg_right (by omega) (by omega)
    omega
  have c0 : (decide (k < -(2 ^ 63)) || decide (k ≥ 2 ^ 63)) = false := by
    rw [decide_eq_false (by omega), decide_eq_false (by omega)] <;> rfl
  have go : ∀ {P : Value → Shared → Prop}, wpAny (model X.prog X.w) X.A (call (.builtin "tuple.__mul__") [.ref l, .int k t]) P X.xe s → wpAny (model X.prog X.w) X.A (binaryOp .Mult (.ref l) (.int k t)) P X.xe s := fun hq =>
    wpAny_binaryOp_repeat_ref (T := "tuple") (U := "int") (by decide) ⟨_, ho, rfl⟩ (fun s' => typeIs_int s' k t) noFill_tuple_mul F.fills_int_mul F.slot_int_rmul repeat_tuple F.slot_int_index.lookup
      (call_meets F.slot_int_rmul (typeIs_int s k t) F.entry_int_rmul (F.args_int_rmul_2 _ _) (int_rmul_tuple k t l its.toArray n none sl) ⟨ho, rfl, ⟨_, ho, rfl⟩, hq⟩)
  by_cases c1 : (its.toArray.isEmpty || k == 1) = true
  · refine go (call_meets F.slot_tuple_mul ⟨_, ho, rfl⟩ F.entry_tuple_mul (F.args_tuple_mul_2 _ _) (tuple_mul_same l its.toArray n sl k t c0 c1) ⟨ho, .ref l, H, I, rfl, q1 ?_⟩)
    rw [Bool.or_eq_true, beq_iff_eq] at c1
    refine c1.imp (fun e => ?_) fun e => e
    have e1 : its.length = 0 := by simpa using e
    exact List.eq_nil_of_length_eq_zero (by omega)
  · have c1' := Bool.eq_false_iff.mpr c1
    have hne : its.toArray.isEmpty = false ∧ k ≠ 1 := by
      rw [Bool.or_eq_false_iff, beq_eq_false_iff_ne] at c1'
      exact c1'
    by_cases hk : k ≤ 0
    · obtain rfl : k = 0 := by omega
      refine go (call_meets F.slot_tuple_mul ⟨_, ho, rfl⟩ F.entry_tuple_mul (F.args_tuple_mul_2 _ _) (tuple_mul_none l its.toArray n none sl 0 t c0 c1' rfl) ⟨ho, ?_⟩)
      exact ⟨.ref s.heap.objs.size, _, tup_new (t' := s.toks) I .nil (Nat.zero_le _), rfl, q2 _ _ (I.hok.fresh (Nat.le_refl _)) rfl rfl⟩
    · have c2 : (decide (k ≤ 0) || its.toArray.isEmpty) = false := by
        rw [hne.1, Bool.or_false]
        exact decide_eq_false hk
      have flen : (List.replicate k.toNat its).flatten.length ≤ sizeLine := by
        rw [PyProof.Rows.lm_len_rep_flat, hle, sizeLine_eq]
        have a1 : k.toNat * xs.length ≤ 1000 * 1000 := Nat.mul_le_mul (by omega) hz
        omega
      have c4 : Builtin.Tuple.tupleTooMany (((its.toArray.size : Nat) : Int) * k) = false := by
        unfold Builtin.Tuple.tupleTooMany
        rw [sizeLine_eq]
        exact decide_eq_false (by omega)
      refine go (call_meets F.slot_tuple_mul ⟨_, ho, rfl⟩ F.entry_tuple_mul (F.args_tuple_mul_2 _ _) (tuple_mulW l its.toArray n none sl k t c0 c1' c2 (by omega) c4 (by rw [size_rep, List.size_toArray]; exact flen)) ⟨ho, ?_⟩)
      rw [size_rep]
      exact ⟨.ref s.heap.objs.size, _, tup_new (t' := s.toks) I (r.rep k.toNat) (by rw [PyProof.Rows.lm_len_rep_flat, sizeLine_eq]; have a1 : k.toNat * xs.length ≤ 1000 * 1000 := Nat.mul_le_mul (by omega) hz; omega), rfl,
        q2 _ _ (I.hok.fresh (Nat.le_refl _)) rfl rfl⟩
def rMul' (K : PySem.W.Frag) (_ : World) : R2 := fun x y H Q => (rI CMul (fun i j => .int (i * j)) x y H Q ∨ rRep x y H Q) ∨ rRepTF K x y H Q
theorem op_mul' {X : Cx} : OpR X (binaryOp .Mult) (rMul' X.K X.w) := (op_mul.or op_rep).or op_repTF
theorem R0s.flat {K : PySem.W.Frag} {w : World} {H : Hp} {z : Addr → Prop} {xs : List PV} {vs : List V} (h : R0s K w H z xs vs) : ∀ n : Nat, R0s K w H z (List.replicate n xs).flatten (List.replicate n vs).flatten
  | 0 => rfl
  | n + 1 => by
    rw [List.replicate_succ, List.replicate_succ, List.flatten_cons, List.flatten_cons]
    exact h.app (R0s.flat h n)
theorem ok_mod : PrOk .mod (ofR2 fun _ _ => rI (fun _ j => 0 < j) fun i j => .int (i % j)) := ok_int2 rfl rfl fun _ _ h => of_decide_eq_true h
theorem ok_fdiv : PrOk .fdiv (ofR2 fun _ _ => rI CDiv fun i j => .int (i / j)) := ok_int2 rfl rfl fun _ _ h => dec_iff.mp h
theorem ok_pow : PrOk .pow (ofR2 fun _ _ => rI CPow fun i j => .int (i ^ j.toNat)) := ok_int2 rfl rfl fun _ _ h => dec_iff.mp h
theorem ok_shl : PrOk .shl (ofR2 fun _ _ => rI CPow fun i j => .int (i * 2 ^ j.toNat)) := ok_int2 rfl rfl fun _ _ h => dec_iff.mp h
theorem ok_shr : PrOk .shr (ofR2 fun _ _ => rI (fun _ j => 0 ≤ j) fun i j => .int (i / 2 ^ j.toNat)) := ok_int2 rfl rfl fun _ _ h => of_decide_eq_true h
theorem onI_some {f : Int → Option PV} {a q : PV} (h : onI f a = some q) : ∃ i, a = .int i ∧ f i = some q := by
  unfold onI at h
  split at h
  · exact ⟨_, rfl, h⟩
  · cases h
theorem onII_some {f : Int → Int → Option PV} {a b q : PV} (h : onII f a b = some q) : ∃ i j, a = .int i ∧ b = .int j ∧ f i j = some q := by
  unfold onII at h
  split at h
  · exact ⟨_, _, rfl, rfl, h⟩
  · cases h
theorem ok_neg : PrOk .neg (ofR1 fun _ _ => rU fun i => .int (-i)) := by
  intro K w H z ps vs q Q ha h hq
  obtain ⟨a, rfl, h⟩ := one_some h
  obtain ⟨x, rfl, h1⟩ := ha.one
  obtain ⟨i, rfl, h⟩ := onI_some h
  cases h; cases h1
  exact ⟨_, rfl, i, rfl, hq _ _ .int⟩
theorem ok_mul : PrOk .mul (ofR2 rMul') := by
  intro K w H z ps vs q Q ha h hq
  obtain ⟨a, b, rfl, g⟩ := two_some h
  clear h
  obtain ⟨x, y, rfl, h1, h2⟩ := ha.two
  refine ⟨x, y, rfl, ?_⟩
  unfold pMul at g
  split at g
  · split at g
    · rename_i hk0
      have hk := dec_iff.mp hk0
      cases g; cases h1; cases h2
      exact .inl (.inl ⟨_, _, rfl, rfl, hk, hq _ _ .int⟩)
    · cases g
  · split at g
    · cases g
      rename_i xs k hk0
      have hk := dec_iff.mp hk0
      obtain ⟨a, vs, rfl, g1, g3⟩ := h1.lst
      cases h2
      refine .inl (.inr ⟨a, k, vs, rfl, rfl, g1, by omega, by omega, ?_, fun p hp => hq _ _ (.newL (g3.flat _) hp)⟩)
      rw [g3.length, sizeLine_eq]
      have := Nat.mul_le_mul hk.2.2 (show k.toNat ≤ 1000 by omega)
      omega
    · cases g
  · split at g
    · cases g
      rename_i xs k hk0
      have hk := dec_iff.mp hk0
      obtain ⟨a, vs, e, g1, g3⟩ := id h1
      subst e
      cases h2
      refine .inr ⟨a, k, vs, rfl, rfl, g1, hk.1, hk.2.1, by rw [g3.length]; exact hk.2.2, fun e => ?_, .of (g3.flat _) hq⟩
      have e2 : (List.replicate k.toNat xs).flatten = xs := by
        rcases e with rfl | rfl
        · have : xs = [] := List.eq_nil_of_length_eq_zero g3.length.symm
          subst this
          simp
        · simp
      rw [e2] at hq
      exact hq _ _ (.flat h1)
    · cases g
  · cases g
def rEq' (neg : Bool) (K : PySem.W.Frag) (_ : World) : R2 := rEqN K neg
theorem eqOk_dp {K : PySem.W.Frag} {w : World} {H : Hp} {z : Addr → Prop} {p : PV} {v : V} (h : A1 K w H z p v) (e : p.eqOk = true) : Dp K H v p.toD ∧ noD p.toD = true ∧ p.toD.depth ≤ 60 := by
  unfold PV.eqOk at e
  rw [Bool.and_eq_true] at e
  exact ⟨h.dp e.1, plain_noD e.1, by rw [dep_toD]; exact of_decide_eq_true e.2⟩
theorem ok_eq : PrOk .eq (ofR2 (rEq' false)) := by
  intro K w H z ps vs q Q ha h hq
  obtain ⟨a, b, rfl, g⟩ := two_some h
  clear h
  obtain ⟨x, y, rfl, h1, h2⟩ := ha.two
  split at g
  · cases g
    rename_i e
    rw [Bool.and_eq_true] at e
    obtain ⟨a1, a2, a3⟩ := eqOk_dp h1 e.1
    obtain ⟨b1, b2, b3⟩ := eqOk_dp h2 e.2
    exact ⟨x, y, rfl, _, _, a1, b1, a2, b2, by omega, hq _ _ .bl⟩
  · cases g
theorem ok_ne : PrOk .ne (ofR2 (rEq' true)) := by
  intro K w H z ps vs q Q ha h hq
  obtain ⟨a, b, rfl, g⟩ := two_some h
  clear h
  obtain ⟨x, y, rfl, h1, h2⟩ := ha.two
  split at g
  · cases g
    rename_i e
    rw [Bool.and_eq_true] at e
    obtain ⟨a1, a2, a3⟩ := eqOk_dp h1 e.1
    obtain ⟨b1, b2, b3⟩ := eqOk_dp h2 e.2
    exact ⟨x, y, rfl, _, _, a1, b1, a2, b2, by omega, hq _ _ .bl⟩
  · cases g
def rCmp' (f : Int → Int → Bool) (g : List Nat → List Nat → Bool) (_ : PySem.W.Frag) (_ : World) : R2 := fun x y H Q => rI0 (fun i j => .bl (f i j)) x y H Q ∨ ∃ i j, x = .str i ∧ y = .str j ∧ Q (.bl (g i.cps.toList j.cps.toList)) H
theorem ok_cmp {p : Pr} {f : Int → Int → Bool} {g : List Nat → List Nat → Bool} (he : evP p = two (pCmp f g)) (hf : p.fresh = true) : PrOk p (ofR2 (rCmp' f g)) := by
  intro K w H z ps vs q Q ha h hq
  rw [he] at h
  obtain ⟨a, b, rfl, g⟩ := two_some h
  clear h
  obtain ⟨x, y, rfl, h1, h2⟩ := ha.two
  rw [hf] at hq
  unfold pCmp at g
  split at g
  · cases g; cases h1; cases h2; exact ⟨_, _, rfl, .inl ⟨_, _, rfl, rfl, hq _ _ .bl⟩⟩
  · cases g; cases h1; cases h2; exact ⟨_, _, rfl, .inr ⟨_, _, rfl, rfl, hq _ _ .bl⟩⟩
  · cases g
section
variable {X : Cx} {K : PySem.W.Frag} {w : World}
theorem op_lt' : OpR X (compareOp .Lt) (rCmp' (fun i j => decide (i < j)) (fun i j => decide (i < j)) K w) := op_lt.or op_lt_str
theorem op_le' : OpR X (compareOp .LtE) (rCmp' (fun i j => decide (i ≤ j)) (fun i j => !decide (j < i)) K w) := op_le.or op_le_str
theorem op_gt' : OpR X (compareOp .Gt) (rCmp' (fun i j => decide (j < i)) (fun i j => decide (j < i)) K w) := op_gt.or op_gt_str
theorem op_ge' : OpR X (compareOp .GtE) (rCmp' (fun i j => decide (j ≤ i)) (fun i j => !decide (i < j)) K w) := op_ge.or op_ge_str
end
/-- is None, is True -/
theorem isNonP_ok {K : PySem.W.Frag} {w : World} {H : Hp} {z : Addr → Prop} {p : PV} {v : V} (h : A1 K w H z p v) : decide (v = .non) = isNonP p := by
  cases p with
  | non => cases h; rfl
  | bl b => cases h; rfl
  | int i => cases h; rfl
  | str x => cases h; rfl
  | tup xs => obtain ⟨a, vs, rfl, _⟩ := h; rfl
  | lst xs => obtain ⟨a, vs, rfl, _⟩ := h; rfl
  | dct ks => obtain ⟨a, vs, rfl, _⟩ := h; rfl
  | ins c fs => exact h.elim
  | scr ns => obtain ⟨a, rfl, _⟩ := h; rfl
def rNon' (neg : Bool) (_ : PySem.W.Frag) (_ : World) : V → Hp → VK → Prop := fun x H Q => Q (.bl (if neg then !decide (x = .non) else decide (x = .non))) H
theorem ok_isNon : PrOk .isNon (ofR1 (rNon' false)) := by
  intro K w H z ps vs q Q ha h hq
  obtain ⟨a, rfl, g⟩ := one_some h
  clear h
  obtain ⟨x, rfl, h1⟩ := ha.one
  cases g
  refine ⟨x, rfl, ?_⟩
  show Q (.bl (decide (x = .non))) H
  rw [isNonP_ok h1]
  exact hq _ _ .bl
theorem ok_notNon : PrOk .notNon (ofR1 (rNon' true)) := by
  intro K w H z ps vs q Q ha h hq
  obtain ⟨a, rfl, g⟩ := one_some h
  clear h
  obtain ⟨x, rfl, h1⟩ := ha.one
  cases g
  refine ⟨x, rfl, ?_⟩
  show Q (.bl (!decide (x = .non))) H
  rw [isNonP_ok h1]
  exact hq _ _ .bl
def rTru' (c : Bool) (_ : PySem.W.Frag) (_ : World) : V → Hp → VK → Prop := fun x H Q => ∃ b, x = .bl b ∧ Q (.bl (b == c)) H
theorem ok_isTF {p : Pr} {c : Bool} (he : evP p = one (pIs c)) (hf : p.fresh = true) : PrOk p (ofR1 (rTru' c)) := by
  intro K w H z ps vs q Q ha h hq
  rw [he] at h
  obtain ⟨a, rfl, g⟩ := one_some h
  clear h
  obtain ⟨x, rfl, h1⟩ := ha.one
  unfold pIs at g
  split at g
  · cases g; cases h1
    rw [hf] at hq
    exact ⟨_, rfl, _, rfl, hq _ _ .bl⟩
  · cases g
section
variable {F : Type} {call : F → List Sl → CR} {G : Gc} {W : WX} {X : Cx} {e1 : Ex F} {a : Expr} {pos pos' : Pos} {j : Nat}
theorem f_isNon (ha : PE X a (tE G W call e1)) : PE X (.Compare a [.Is] [.Constant .none j pos'] pos) (tE G W call (.pr .isNon [e1])) :=
  (pe_cmp (pc_isN ha) rfl).imp fun σ H Q q => (tEs_one (pr_args ok_isNon q)).mono fun x H1 h => h
theorem f_notNon (ha : PE X a (tE G W call e1)) : PE X (.Compare a [.IsNot] [.Constant .none j pos'] pos) (tE G W call (.pr .notNon [e1])) :=
  (pe_cmp (pc_notN ha) rfl).imp fun σ H Q q => (tEs_one (pr_args ok_notNon q)).mono fun x H1 h => h
theorem f_isTF {p : Pr} {c : Bool} (hp : PrOk p (ofR1 (rTru' c))) (ha : PE X a (tE G W call e1)) : PE X (.Compare a [.Is] [.Constant (.bool c) j pos'] pos) (tE G W call (.pr p [e1])) :=
  (pe_cmpR op_isBl ha pe_bl rfl).imp fun σ H Q q => (tEs_one (pr_args hp q)).mono fun x H1 h => by
    obtain ⟨b, rfl, h⟩ := h
    refine ⟨b, c, rfl, rfl, ?_⟩
    have e : decide (b = c) = (b == c) := by cases b <;> cases c <;> rfl
    rw [e]; exact h
end
end Mi

set_option Elab.async false
set_option linter.all false
set_option maxRecDepth 100000
set_option maxHeartbeats 4000000
namespace Mi
open PySem PySem.Spec PyProof.Rows L2

/-! ### argument lists -/
def isStar : Expr → Bool
  | .Starred _ _ => true
  | _ => false
theorem star_cons {a : Expr} {as : List Expr} {env : Env} (h : isStar a = false) : starEach (a :: as) env = (false, eval a env) :: starEach as env := by
  cases a <;> first | rfl | (simp only [isStar] at h; cases h)
abbrev noStars (as : List Expr) : Prop := ∀ a ∈ as, isStar a = false
theorem star_none {env : Env} : ∀ {as : List Expr} {pos : Pos}, noStars as → (backTo pos (starEach as env)).any (·.1) = false
  | [], _, _ => rfl
  | a :: as, pos, h => by
    rw [star_cons (h a List.mem_cons_self)]
    show (false || (backTo pos (starEach as env)).any (·.1)) = false
    rw [star_none fun b hb => h b (List.mem_cons_of_mem _ hb)]
    rfl
theorem star_all {env : Env} : ∀ {as : List Expr} {pos : Pos}, noStars as → (backTo pos (starEach as env)).all (fun x => !x.1) = true
  | [], _, _ => rfl
  | a :: as, pos, h => by
    rw [star_cons (h a List.mem_cons_self)]
    show (true && (backTo pos (starEach as env)).all (fun x => !x.1)) = true
    rw [star_all fun b hb => h b (List.mem_cons_of_mem _ hb)]
    rfl

section
variable {F : Type} {call : F → List Sl → CR} {G : Gc} {W : WX} {X : Cx}
/-- each expression is its piece of syntax -/
def PEs (G : Gc) (W : WX) (call : F → List Sl → CR) (X : Cx) : List (Ex F) → List Expr → Prop
  | [], as => as = []
  | e :: es, as => ∃ a as', as = a :: as' ∧ PE X a (tE G W call e) ∧ PEs G W call X es as'
theorem f_args : ∀ {es : List (Ex F)} {as : List Expr}, PEs G W call X es as → noStars as → PA X as (tEs G W call es)
  | [], _, h, _ => by
    cases h
    exact pa_nil.imp fun σ H Q q => tEs_nil q
  | e :: es, _, h, hn => by
    obtain ⟨a, as', rfl, h1, h2⟩ := h
    exact (pa_cons h1 (f_args h2 fun b hb => hn b (List.mem_cons_of_mem _ hb)) (star_cons (hn a List.mem_cons_self))).imp fun σ H Q q => tEs_cons q
variable {p : Pr} {r : RP} {es : List (Ex F)} {as : List Expr} {a : Expr} {pos p' : Pos} {x : Str} {id T : String}
/-- a built-in function by its name -/
theorem f_callB (hc : CallR X (.builtin id) (r G.K G.w)) (hp : PrOk p r) (hg : Gl X x) (hm : X.mg x = none) (hv : bootBuiltins x = some (.builtin id)) (h : PEs G W call X es (a :: as)) (hn : noStars (a :: as))
    (h1 : x ≠ "__name__") (h2 : (x == ("__debug__" : Str)) = false) : PE X (.Call (.Name x p') (a :: as) [] pos) (tE G W call (.pr p es)) :=
  (pe_callB hc hg hm hv (f_args h hn) h1 h2 (star_cons (hn a List.mem_cons_self)) (star_none fun b hb => hn b (List.mem_cons_of_mem _ hb))).imp fun σ H Q q => pr_args hp q
theorem f_callTy (hc : CallR X (.type T) (r G.K G.w)) (hp : PrOk p r) (hg : Gl X x) (hm : X.mg x = none) (hv : bootBuiltins x = some (.type T)) (h : PEs G W call X es (a :: as)) (hn : noStars (a :: as))
    (h1 : x ≠ "__name__") (h2 : (x == ("__debug__" : Str)) = false) : PE X (.Call (.Name x p') (a :: as) [] pos) (tE G W call (.pr p es)) :=
  (pe_callTy hc hg hm hv (f_args h hn) h1 h2 (star_cons (hn a List.mem_cons_self)) (star_none fun b hb => hn b (List.mem_cons_of_mem _ hb))).imp fun σ H Q q => pr_args hp q

/-! ### methods -/
/-- the built-in method name of the values x that are T -/
structure MF (X : Cx) (name : Str) (T id : String) (r : V → List V → Hp → VK → Prop) : Prop where
  pa : PlainAttrs T
  slot : Slot T name id
  hty : typeOf (.builtin id) = pure (.type "method_descriptor")
  hm : MtR X id r
/-- x is a T without a dict -/
def TyI (X : Cx) (T : String) (x : V) (H : Hp) : Prop := ∀ (pins : List (Addr × Obj)) (s : Shared) (σ : L2.St) (v : Value), Inv X pins σ H s → RelV x v → s.TypeIs v T ∧ ∀ a, v = .ref a → ∃ ob, s.heap.get? a = some ob ∧ ob.dict = none
/-- a method's call, by what the value turns out to be -/
def tMG (X : Cx) (name : Str) (to : TE) (t : TA) : TE := fun σ H Q => to σ H fun x H1 => ∃ T id r, MF X name T id r ∧ TyI X T x H1 ∧ t σ H1 fun xs H2 => r x xs H2 Q
def okBase : Expr → Bool
  | .Call (.Name _ _) [] [] _ => false
  | _ => true
theorem attrBase {o : Expr} {name : Str} {env : Env} (h : okBase o = true) : attributeBase o name env (eval o env) = eval o env := by
  cases o with
  | Call f as ks p => cases f <;> cases as <;> cases ks <;> first | rfl | (simp [okBase] at h)
  | _ => rfl
theorem pe_MG {o e : Expr} {es : List Expr} {to : TE} {t : TA} {name : Str} {apos cpos : Pos} (ho : PE X o to) (ha : PA X (e :: es) t) (hn : noStars (e :: es)) (hl : es.length < 20)
    (hb : attributeBase o name X.env (eval o X.env) = eval o X.env) (hline : (apos.endLine == cpos.line) = true) : PE X (.Call (.Attribute o name apos) (e :: es) [] cpos) (tMG X name to t) := by
  refine ⟨fun pins s σ H Q I h => ?_⟩
  have hfew : ((backTo cpos (starEach (e :: es) X.env)).all (fun x => !x.1) && (backToKw cpos (keywordEach [] X.env)).all (fun x => x.1.isSome)
      && decide ((e :: es).length + ([] : List Keyword).length + (if ([] : List Keyword).isEmpty then 0 else 1) < 30)) = true := by
    rw [star_all hn]
    have q : decide ((e :: es).length + ([] : List Keyword).length + (if ([] : List Keyword).isEmpty then 0 else 1) < 30) = true := decide_eq_true (by simp; omega)
    rw [q]
    rfl
  refine wpAny_Call_method_late hb hfew hline rfl (thn (ho.run pins s σ H _ I h) fun v s1 ⟨x, H1, I1, r1, T, id, r, mf, ty, q1⟩ => ?_)
  obtain ⟨h1, h2⟩ := ty pins s1 σ v I1 r1
  refine ⟨T, id, mf.pa, mf.slot, mf.hty, h1, h2, ?_⟩
  have hA := ha.run cpos pins s1 σ H1 _ I1 q1
  rw [star_cons (hn e List.mem_cons_self)] at hA ⊢
  refine Calls.callWith_builtin (by show (false || (backTo cpos (starEach es X.env)).any (·.1)) = false; rw [star_none fun b hb => hn b (List.mem_cons_of_mem _ hb)]; rfl) (Calls.evalArgs_plain ?_)
  exact thn hA fun us s2 ⟨vs, H2, I2, r2, q2⟩ => mf.hm pins s2 σ H2 x vs v us Q I2 r1 r2 q2
def tMG0 (X : Cx) (name : Str) (to : TE) : TE := fun σ H Q => to σ H fun x H1 => ∃ T id r, MF X name T id r ∧ TyI X T x H1 ∧ r x [] H1 Q
theorem pe_MG0 {o : Expr} {to : TE} {name : Str} {apos cpos : Pos} (ho : PE X o to)
    (hb : attributeBase o name X.env (eval o X.env) = eval o X.env) (hline : (apos.endLine == cpos.line) = true) : PE X (.Call (.Attribute o name apos) [] [] cpos) (tMG0 X name to) := by
  refine ⟨fun pins s σ H Q I h => ?_⟩
  refine wpAny_Call_method0_late hb hline (thn (ho.run pins s σ H _ I h) fun v s1 ⟨x, H1, I1, r1, T, id, r, mf, ty, q1⟩ => ?_)
  obtain ⟨h1, h2⟩ := ty pins s1 σ v I1 r1
  exact ⟨T, id, mf.pa, mf.slot, mf.hty, h1, h2, Calls.callWith_builtin rfl (PySem.evalArgs_none (mf.hm pins s1 σ H1 x [] v [] Q I1 r1 .nil q1))⟩
end

section
variable {F : Type} {call : F → List Sl → CR} {G : Gc} {W : WX}
/-- what a method-like operation's evaluation gives: behind its receiver, behind its arguments -/
theorem me_args {p : Pr} {e : Ex F} {es : List (Ex F)} {σ : L2.St} {H : Hp} {Q : VK} (q : tE G W call (.me p e es) σ H Q) :
    tE G W call e σ H fun x H1 => ∃ q1 z, A1 G.K G.w H1 z q1 x ∧ p.recv q1.tag = true ∧ tEs G W call es σ H1 fun xs H2 =>
      ∃ q ps z r, q.tag = q1.tag ∧ A1 G.K G.w H2 z q x ∧ A1s G.K G.w H2 z ps xs ∧ evP p (q :: ps) = some r ∧ ∀ v H', ResOk G.K G.w H2 z (mkTm p.fresh r) v H' → Q v H' := by
  have q' : tR G W (fun ρ => (evE call e ρ).bd fun t ρ1 => match t.arg ρ1 with
    | some q1 => if p.recv q1.tag then (evEs call es ρ1).bd fun ts ρ2 => (match t.arg ρ2, Tm.args ρ2 ts with
      | some q, some ps => if q.tag = q1.tag then (match evP p (q :: ps) with | some r => .ok (mkTm p.fresh r) ρ2 | none => .no) else .no
      | _, _ => .no) else .no
    | none => .no) TmE σ H Q := by
    have e1 : evE call (.me p e es) = fun ρ => (evE call e ρ).bd fun t ρ1 => match t.arg ρ1 with
      | some q1 => if p.recv q1.tag then (evEs call es ρ1).bd fun ts ρ2 => (match t.arg ρ2, Tm.args ρ2 ts with
        | some q, some ps => if q.tag = q1.tag then (match evP p (q :: ps) with | some r => .ok (mkTm p.fresh r) ρ2 | none => .no) else .no
        | _, _ => .no) else .no
      | none => .no := by funext ρ; simp only [evE] <;> rfl
    rw [← e1]; exact q
  refine (tR.thn (rel := TmE) q').mono fun x H1 h1 => ?_
  obtain ⟨t, ρ1, L, Θ, Te, l, r1, st, o⟩ := h1
  cases ha : t.arg ρ1 with
  | none => rw [ha] at o; exact o.elim
  | some q1 =>
    rw [ha] at o
    by_cases hr : p.recv q1.tag = true
    · simp only [hr, if_true] at o
      refine ⟨q1, _, Tm.arg_ok l st (fun x hx => List.mem_append_left _ hx) (fun x hx => List.mem_append_right _ (List.mem_append_left _ hx)) r1 ha, hr, ρ1, L, Te ++ Θ, l, st, ?_⟩
      rw [Out.bd] at o
      refine (o.more Te).imp fun ts ρ2 o2 xs H2 L2 Te2 l2 r2 s2 => ?_
      cases hb : t.arg ρ2 with
      | none => rw [hb] at o2; exact o2.elim
      | some q =>
        cases hc : Tm.args ρ2 ts with
        | none => rw [hb, hc] at o2; exact o2.elim
        | some ps =>
          rw [hb, hc] at o2
          by_cases ht : q.tag = q1.tag
          · simp only [ht, if_true] at o2
            cases he : evP p (q :: ps) with
            | none => rw [he] at o2; exact o2.elim
            | some r =>
              rw [he] at o2
              refine ⟨q, ps, _, r, ht, Tm.arg_ok l2 s2 (fun x hx => List.mem_append_left _ hx) (fun x hx => List.mem_append_right _ (List.mem_append_right _ (List.mem_append_left _ hx))) r1 hb,
                Tm.args_ok l2 s2 (fun x hx => List.mem_append_left _ hx) (fun x hx => List.mem_append_right _ (List.mem_append_left _ hx)) r2 hc, he, fun v H' res => ?_⟩
              obtain ⟨Te', t1, t2⟩ := s2.res res
              refine o2 v H' L2 Te' l2 (t1 σ) ?_
              have t3 : Stt G.K G.w H' ((Te2 ++ Te) ++ (L2 ++ (Te' ++ Θ))) := t2.perm (by
                have a1 : (Te' ++ (L2 ++ (Te2 ++ (Te ++ Θ)))).Perm ((L2 ++ (Te2 ++ (Te ++ Θ))) ++ Te') := List.perm_append_comm
                refine a1.trans ?_
                have a2 : (L2 ++ (Te2 ++ (Te ++ Θ)) ++ Te').Perm ((Te2 ++ (Te ++ Θ)) ++ L2 ++ Te') := List.perm_append_comm.append_right _
                refine a2.trans ?_
                simp only [List.append_assoc]
                refine .append_left _ (.append_left _ ?_)
                refine (List.perm_append_comm (l₁ := Θ)).trans ?_
                simp only [List.append_assoc]
                exact .append_left _ (.refl _))
              exact t3.drop
          · simp only [ht, if_false] at o2; exact o2.elim
    · simp only [hr, if_false] at o; exact o.elim
variable {X : Cx}
/-- a method's rule -/
def MetOk (X : Cx) (G : Gc) (p : Pr) (name : Str) : Prop := ∀ (q1 : PV) (x : V) (H1 : Hp) (z1 : Addr → Prop), A1 G.K G.w H1 z1 q1 x → p.recv q1.tag = true → ∃ T id r, MF X name T id r ∧ TyI X T x H1 ∧
  ∀ (xs : List V) (H2 : Hp) (Q : VK) (q : PV) (ps : List PV) (z : Addr → Prop) (res : PV), q.tag = q1.tag → A1 G.K G.w H2 z q x → A1s G.K G.w H2 z ps xs → evP p (q :: ps) = some res → (∀ v H', ResOk G.K G.w H2 z (mkTm p.fresh res) v H' → Q v H') → r x xs H2 Q
theorem f_meth {p : Pr} {e : Ex F} {es : List (Ex F)} {o a : Expr} {as : List Expr} {name : Str} {apos cpos : Pos} (hm : MetOk X G p name) (ho : PE X o (tE G W call e)) (h : PEs G W call X es (a :: as)) (hn : noStars (a :: as)) (hl : as.length < 20)
    (hb : okBase o = true) (hline : (apos.endLine == cpos.line) = true) : PE X (.Call (.Attribute o name apos) (a :: as) [] cpos) (tE G W call (.me p e es)) :=
  (pe_MG ho (f_args h hn) hn hl (attrBase hb) hline).imp fun σ H Q q => (me_args q).mono fun x H1 ⟨q1, z, h1, h2, h3⟩ => by
    obtain ⟨T, id, r, mf, ty, k⟩ := hm q1 x H1 z h1 h2
    exact ⟨T, id, r, mf, ty, h3.mono fun xs H2 ⟨q, ps, z, res, a1, a2, a3, a4, a5⟩ => k xs H2 Q q ps z res a1 a2 a3 a4 a5⟩
theorem f_meth0 {p : Pr} {e : Ex F} {o : Expr} {name : Str} {apos cpos : Pos} (hm : MetOk X G p name) (ho : PE X o (tE G W call e))
    (hb : okBase o = true) (hline : (apos.endLine == cpos.line) = true) : PE X (.Call (.Attribute o name apos) [] [] cpos) (tE G W call (.me p e [])) :=
  (pe_MG0 ho (attrBase hb) hline).imp fun σ H Q q => (me_args q).mono fun x H1 ⟨q1, z, h1, h2, h3⟩ => by
    obtain ⟨T, id, r, mf, ty, k⟩ := hm q1 x H1 z h1 h2
    obtain ⟨q, ps, z, res, a1, a2, a3, a4, a5⟩ := tEs_nil h3
    exact ⟨T, id, r, mf, ty, k [] H1 Q q ps z res a1 a2 a3 a4 a5⟩
end
end Mi

set_option Elab.async false
set_option linter.all false
set_option maxRecDepth 100000
set_option maxHeartbeats 4000000
/-! Dicts. -/
namespace Mi
open PySem PySem.Spec PyProof.Rows L2

section
variable (K : PySem.W.Frag) (w : World) (H : Hp) (z : Addr → Prop)
/-- an entry's key -/
def KE (k : PV) (e : DictEntry) : Prop := ∃ kv nk, RelV kv e.key ∧ R0 K w H z k kv ∧ k.key? = some nk ∧ k.dep ≤ 7 ∧ e.hash = nk.hash w
def KEs : List PV → List DictEntry → Prop
  | [], es => es = []
  | k :: ks, es => ∃ e es', es = e :: es' ∧ KE K w H z k e ∧ KEs ks es'
def VLs : List PV → List Value → Prop
  | [], us => us = []
  | p :: ps, us => ∃ u us', us = u :: us' ∧ (∃ v, RelV v u ∧ R0 K w H z p v) ∧ VLs ps us'
def VOs (n : Nat) : List PV → List Value → List Addr → Prop
  | [], us, fp => us = [] ∧ fp = []
  | p :: ps, us, fp => ∃ u us' f f', us = u :: us' ∧ (∃ v, RelV v u ∧ RO K w H z n p v f) ∧ VOs n ps us' f' ∧ fp = f ++ f'
end
section
variable {K : PySem.W.Frag} {w : World} {H : Hp} {z : Addr → Prop}
theorem R0k_iff : ∀ {ks : List (PV × PV)} {es : List DictEntry}, R0k K w H z ks es ↔ KEs K w H z (ks.map (·.1)) es ∧ VLs K w H z (ks.map (·.2)) (es.map (·.val))
  | [], es => by
    simp only [R0k, List.map_nil, KEs, VLs]
    constructor
    · rintro rfl; exact ⟨rfl, rfl⟩
    · exact fun h => h.1
  | (k, p) :: ks, es => by
    simp only [R0k, List.map_cons, KEs, VLs]
    constructor
    · rintro ⟨e, es', rfl, h1, h2, h3⟩
      obtain ⟨g1, g2⟩ := R0k_iff.mp h3
      exact ⟨⟨e, es', rfl, h1, g1⟩, ⟨_, _, rfl, h2, g2⟩⟩
    · rintro ⟨⟨e, es', rfl, h1, h2⟩, u, us', e2, h3, h4⟩
      rw [List.map_cons] at e2
      cases e2
      exact ⟨e, es', rfl, h1, h3, R0k_iff.mpr ⟨h2, h4⟩⟩
theorem ROk_iff {n : Nat} : ∀ {ks : List (PV × PV)} {es : List DictEntry} {fp : List Addr}, ROk K w H z n ks es fp ↔ KEs K w H z (ks.map (·.1)) es ∧ VOs K w H z n (ks.map (·.2)) (es.map (·.val)) fp
  | [], es, fp => by
    simp only [ROk, List.map_nil, KEs, VOs]
    constructor
    · rintro ⟨rfl, rfl⟩; exact ⟨rfl, rfl, rfl⟩
    · rintro ⟨h1, _, h2⟩; exact ⟨h1, h2⟩
  | (k, p) :: ks, es, fp => by
    simp only [ROk, List.map_cons, KEs, VOs]
    constructor
    · rintro ⟨e, es', f, f', rfl, h1, h2, h3, rfl⟩
      obtain ⟨g1, g2⟩ := ROk_iff.mp h3
      exact ⟨⟨e, es', rfl, h1, g1⟩, ⟨_, _, f, f', rfl, h2, g2, rfl⟩⟩
    · rintro ⟨⟨e, es', rfl, h1, h2⟩, u, us', f, f', e2, h3, h4, rfl⟩
      rw [List.map_cons] at e2
      cases e2
      exact ⟨e, es', f, f', rfl, h1, h3, ROk_iff.mpr ⟨h2, h4⟩, rfl⟩
theorem KEs.length : ∀ {ks : List PV} {es : List DictEntry}, KEs K w H z ks es → es.length = ks.length
  | [], _, h => by cases h; rfl
  | k :: ks, _, h => by obtain ⟨e, es', rfl, _, h2⟩ := h; simp [KEs.length h2]
mutual
theorem key_inj : ∀ {a b : PV} {n : NestedKey}, a.key? = some n → b.key? = some n → a = b
  | a, b, n, ha, hb => by
    cases a with
    | non => simp only [PV.key?, Option.some.injEq] at ha; subst ha; cases b <;> simp_all [PV.key?]
    | int i => simp only [PV.key?, Option.some.injEq] at ha; subst ha; cases b <;> simp_all [PV.key?]
    | str x => simp only [PV.key?, Option.some.injEq] at ha; subst ha; cases b <;> simp_all [PV.key?]
    | tup xs =>
      simp only [PV.key?, Option.map_eq_some_iff] at ha
      obtain ⟨as, ha, rfl⟩ := ha
      cases b with
      | tup ys =>
        simp only [PV.key?, Option.map_eq_some_iff] at hb
        obtain ⟨bs, hb, e⟩ := hb
        cases e
        rw [keys_inj ha hb]
      | _ => simp [PV.key?] at hb
    | _ => simp [PV.key?] at ha
theorem keys_inj : ∀ {a b : List PV} {n : List NestedKey}, keys? a = some n → keys? b = some n → a = b
  | [], b, n, ha, hb => by
    simp only [keys?, Option.some.injEq] at ha
    subst ha
    cases b with
    | nil => rfl
    | cons y ys =>
      simp only [keys?] at hb
      split at hb <;> cases hb
  | x :: xs, b, n, ha, hb => by
    simp only [keys?] at ha
    split at ha
    · rename_i a as e1 e2
      cases ha
      cases b with
      | nil => simp only [keys?] at hb; cases hb
      | cons y ys =>
        simp only [keys?] at hb
        split at hb
        · rename_i c cs e3 e4
          cases hb
          rw [key_inj e1 e3, keys_inj e2 e4]
        · cases hb
    · cases ha
end
mutual
theorem key_dep : ∀ {p : PV} {n : NestedKey}, p.key? = some n → n.depth = p.dep
  | .non, n, h => by simp only [PV.key?] at h; cases h; simp only [NestedKey.depth, PV.dep]
  | .int i, n, h => by simp only [PV.key?] at h; cases h; simp only [NestedKey.depth, PV.dep]
  | .str x, n, h => by simp only [PV.key?] at h; cases h; simp only [NestedKey.depth, PV.dep]
  | .tup xs, n, h => by
    simp only [PV.key?, Option.map_eq_some_iff] at h
    obtain ⟨as, h, rfl⟩ := h
    simp only [NestedKey.depth, PV.dep, keys_dep h]
  | .bl _, n, h => by simp [PV.key?] at h
  | .lst _, n, h => by simp [PV.key?] at h
  | .dct _, n, h => by simp [PV.key?] at h
  | .ins _ _, n, h => by simp [PV.key?] at h
  | .scr _, n, h => by simp [PV.key?] at h
theorem keys_dep : ∀ {p : List PV} {n : List NestedKey}, keys? p = some n → NestedKey.depthAll n = deps p
  | [], n, h => by simp only [keys?] at h; cases h; simp only [NestedKey.depthAll, deps]
  | x :: xs, n, h => by
    simp only [keys?] at h
    split at h
    · rename_i a as e1 e2
      cases h
      simp only [NestedKey.depthAll, deps, key_dep e1, keys_dep e2]
    · cases h
end
section
variable {X : Cx} {pins : List (Addr × Obj)} {σ : L2.St} {s : Shared}
mutual
/-- a key's value is that key in the heap -/
theorem key_is (I : Inv X pins σ H s) : ∀ {p : PV} {n : NestedKey} {v : V} {u : Value}, p.key? = some n → R0 X.K w H z p v → RelV v u → NestedIs s.heap n u
  | .non, n, v, u, h, r, q => by simp only [PV.key?] at h; cases h; cases r; cases q; exact .none
  | .int i, n, v, u, h, r, q => by simp only [PV.key?] at h; cases h; cases r; obtain ⟨t, rfl⟩ := q; exact .int i t
  | .str x, n, v, u, h, r, q => by simp only [PV.key?] at h; cases h; cases r; obtain ⟨t, rfl⟩ := q; exact .text x t
  | .tup xs, n, v, u, h, r, q => by
    simp only [PV.key?, Option.map_eq_some_iff] at h
    obtain ⟨as, h, rfl⟩ := h
    obtain ⟨a, vs, rfl, h1, h2⟩ := r
    cases q
    obtain ⟨its, vr, ⟨o, ho, hc, m, hd⟩, _⟩ := I.tuple h1.sq
    exact .tup ho hc hd (keys_is I h h2 vr)
  | .bl _, n, v, u, h, r, q => by simp [PV.key?] at h
  | .lst _, n, v, u, h, r, q => by simp [PV.key?] at h
  | .dct _, n, v, u, h, r, q => by simp [PV.key?] at h
  | .ins _ _, n, v, u, h, r, q => by simp [PV.key?] at h
  | .scr _, n, v, u, h, r, q => by simp [PV.key?] at h
theorem keys_is (I : Inv X pins σ H s) : ∀ {p : List PV} {n : List NestedKey} {vs : List V} {us : List Value}, keys? p = some n → R0s X.K w H z p vs → Vals vs us → NestedAll s.heap n us
  | [], n, vs, us, h, r, q => by simp only [keys?] at h; cases h; cases r; cases q; exact .nil
  | x :: xs, n, vs, us, h, r, q => by
    simp only [keys?] at h
    split at h
    · rename_i a as e1 e2
      cases h
      obtain ⟨v, vs', rfl, r1, r2⟩ := r
      cases q with
      | cons q1 q2 => exact .cons (key_is I e1 r1 q1) (keys_is I e2 r2 q2)
    · cases h
end
/-- the object that a dict is -/
theorem raw_get (I : Inv X pins σ H s) {a : Addr} {es : List DictEntry} (h : H a = some (rawO a es)) : (a == sysModules) = false ∧ es.length ≤ sizeLine ∧ ∃ o ep, s.heap.get? a = some o ∧ o.ExactDict ∧ o.data = .dict es.toArray ep :=
  (I.hok a _ h).1
theorem raw_ok {P : Program} {w : World} {H : Hp} {h : Heap} {a : Addr} {es : List DictEntry} (h1 : (a == sysModules) = false) (h2 : es.length ≤ sizeLine) {o : Obj} {ep : Nat} (h3 : h.get? a = some o) (h4 : o.ExactDict) (h5 : o.data = .dict es.toArray ep) : ObjOk P w H h a (rawO a es) :=
  ⟨⟨h1, h2, o, ep, h3, h4, h5⟩, ⟨o, h3⟩, fun g1 g2 ⟨e1, e2, o', ep', e3, e4⟩ k => ⟨e1, e2, o', ep', k _ e3, e4⟩⟩
end

/-! ### looking up, storing: by the keys and the values beside them -/
def vFind (ks : List PV) (us : List Value) (k : PV) : Option Value := ((ks.zip us).find? fun q => decide (q.1 = k)).map (·.2)
def vPut (ks : List PV) (us : List Value) (k : PV) (u : Value) : List Value := if k ∈ ks then (ks.zip us).map (fun q => if q.1 = k then u else q.2) else us ++ [u]
def kPut (ks : List PV) (k : PV) : List PV := if k ∈ ks then ks else ks ++ [k]

/-! ### keys that are tuples -/
def nkOf (p : PV) : NestedKey := p.key?.getD .none
def addrOf : Value → Addr
  | .ref a => a
  | _ => 0
/-- the entries as the library tells them -/
def tupXs (ks : List PV) (es : List DictEntry) : List (NestedKey × Addr × Value) := (ks.zip es).map fun q => (nkOf q.1, addrOf q.2.key, q.2.val)
theorem KE.tup {k : PV} {e : DictEntry} (h : KE K w H z k e) (ht : k.isTup = true) : ∃ a, e.key = .ref a ∧ R0 K w H z k (.ref a) ∧ k.key? = some (nkOf k) ∧ k.dep ≤ 7 ∧ e.hash = (nkOf k).hash w := by
  obtain ⟨kv, nk, h1, h2, h3, h4, h5⟩ := h
  cases k with
  | tup xs =>
    obtain ⟨a, vs, rfl, g⟩ := h2
    have e1 : nkOf (.tup xs) = nk := by unfold nkOf; rw [h3]; rfl
    exact ⟨a, h1, ⟨a, vs, rfl, g⟩, by rw [e1]; exact h3, h4, by rw [e1]; exact h5⟩
  | _ => simp [PV.isTup] at ht
section
variable {X : Cx} {pins : List (Addr × Obj)} {σ : L2.St} {s : Shared}
theorem tup_entries : ∀ {ks : List PV} {es : List DictEntry}, KEs K X.w H z ks es → (∀ k ∈ ks, k.isTup = true) → es = (tupXs ks es).map (entryOfKey (nestedKind X.prog X.w)) ∧ (tupXs ks es).map (·.1) = ks.map nkOf ∧ (tupXs ks es).map (·.2.2) = es.map (·.val)
  | [], _, h, _ => by cases h; exact ⟨rfl, rfl, rfl⟩
  | k :: ks, _, h, ht => by
    obtain ⟨e, es', rfl, h1, h2⟩ := h
    obtain ⟨i1, i2, i3⟩ := tup_entries h2 fun k hk => ht k (List.mem_cons_of_mem _ hk)
    obtain ⟨a, e1, _, _, _, e2⟩ := h1.tup (ht k List.mem_cons_self)
    refine ⟨?_, ?_, ?_⟩
    · show e :: es' = _ :: (tupXs ks es').map _
      rw [← i1]
      congr 1
      obtain ⟨eh, ek, ev⟩ := e
      simp only at e1 e2
      subst e1 e2
      rfl
    · show _ :: (tupXs ks es').map _ = _; rw [i2]; rfl
    · show _ :: (tupXs ks es').map _ = _; rw [i3]; rfl
theorem tup_is (I : Inv X pins σ H s) : ∀ {ks : List PV} {es : List DictEntry}, KEs X.K X.w H z ks es → (∀ k ∈ ks, k.isTup = true) → ∀ x ∈ tupXs ks es, (nestedKind X.prog X.w).is s.heap x.1 x.2.1
  | [], _, h, _, x, hx => by cases h; cases hx
  | k :: ks, _, h, ht, x, hx => by
    obtain ⟨e, es', rfl, h1, h2⟩ := h
    rcases List.mem_cons.mp (show x ∈ (nkOf k, addrOf e.key, e.val) :: tupXs ks es' from hx) with rfl | hx
    · obtain ⟨a, e1, r, hk, hd, _⟩ := h1.tup (ht k List.mem_cons_self)
      refine ⟨?_, ?_⟩
      · show NestedIs s.heap (nkOf k) (.ref (addrOf e.key))
        rw [e1]
        exact key_is I hk r rfl
      · show (nkOf k).depth ≤ 8
        rw [key_dep hk]; omega
    · exact tup_is I h2 (fun k hk => ht k (List.mem_cons_of_mem _ hk)) x hx
theorem KEs.keys : ∀ {ks : List PV} {es : List DictEntry}, KEs K w H z ks es → ∀ k ∈ ks, k.key? = some (nkOf k)
  | [], _, _, _, hk => by cases hk
  | k :: ks, _, h, k', hk => by
    obtain ⟨e, es', rfl, ⟨_, nk, _, _, h3, _⟩, h2⟩ := h
    rcases List.mem_cons.mp hk with rfl | hk
    · unfold nkOf; rw [h3]; rfl
    · exact KEs.keys h2 k' hk
theorem nk_nodup {ks : List PV} (h : ∀ k ∈ ks, k.key? = some (nkOf k)) (nd : ks.Nodup) : (ks.map nkOf).Nodup := by
  induction ks with
  | nil => exact List.nodup_nil
  | cons k ks ih =>
    rw [List.nodup_cons] at nd
    rw [List.map_cons, List.nodup_cons]
    refine ⟨fun hm => ?_, ih (fun k hk => h k (List.mem_cons_of_mem _ hk)) nd.2⟩
    obtain ⟨k', hk', e⟩ := List.mem_map.mp hm
    have a := h k List.mem_cons_self
    have b := h k' (List.mem_cons_of_mem _ hk')
    rw [e] at b
    exact nd.1 (key_inj b a ▸ hk')
theorem tup_dict (I : Inv X pins σ H s) {a : Addr} {ks : List PV} {es : List DictEntry} (h : H a = some (rawO a es)) (hk : KEs X.K X.w H z ks es) (ht : ∀ k ∈ ks, k.isTup = true) (nd : ks.Nodup) :
    s.heap.DictOfH (nestedKind X.prog X.w) a (tupXs ks es) := by
  obtain ⟨_, _, o, ep, h1, h2, h3⟩ := raw_get I h
  obtain ⟨i1, i2, i3⟩ := tup_entries (X := X) hk ht
  exact ⟨o, es.toArray, ep, h1, h2, h3, i1, tup_is I hk ht, by rw [i2]; exact nk_nodup hk.keys nd⟩
theorem tup_at {ks : List PV} {es : List DictEntry} {k : PV} : KEs K w H z ks es → (∀ k ∈ ks, k.key? = some (nkOf k)) → k.key? = some (nkOf k) → (atKey (tupXs ks es) (nkOf k)).map (·.2) = vFind ks (es.map (·.val)) k := by
  intro h hk hk'
  induction ks generalizing es with
  | nil => cases h; rfl
  | cons q ks ih =>
    obtain ⟨e, es', rfl, h1, h2⟩ := h
    have ih' := ih h2 fun k hk2 => hk k (List.mem_cons_of_mem _ hk2)
    have eq : decide (nkOf q = nkOf k) = decide (q = k) := by
      by_cases e : q = k
      · rw [decide_eq_true e, e, decide_eq_true rfl]
      · rw [decide_eq_false e, decide_eq_false fun e2 => e (key_inj (hk q List.mem_cons_self) (by rw [e2]; exact hk'))]
    show Option.map _ (Option.map _ (List.find? _ ((nkOf q, addrOf e.key, e.val) :: tupXs ks es'))) = Option.map _ (List.find? _ ((q, e.val) :: ks.zip (es'.map (·.val))))
    rw [List.find?_cons, List.find?_cons]
    simp only [eq]
    by_cases e2 : q = k
    · simp [e2]
    · simp only [decide_eq_false e2]
      exact ih'
end

section
variable {X : Cx} {pins : List (Addr × Obj)} {σ : L2.St} {s : Shared}
theorem val_any {ks : List PV} {es : List DictEntry} {k : PV} (h : KEs K w H z ks es) : (vFind ks (es.map (·.val)) k).isSome = decide (k ∈ ks) := by
  unfold vFind
  rw [Option.isSome_map]
  induction ks generalizing es with
  | nil => simp
  | cons q ks ih =>
    obtain ⟨e, es', rfl, h1, h2⟩ := h
    rw [List.map_cons, List.zip_cons_cons, List.find?_cons]
    by_cases e2 : q = k
    · simp [e2]
    · simp only [decide_eq_false e2]
      rw [ih h2]
      simp [Ne.symm e2]
theorem KEs.app {ks ks' : List PV} {es es' : List DictEntry} (h : KEs K w H z ks es) (h' : KEs K w H z ks' es') : KEs K w H z (ks ++ ks') (es ++ es') := by
  induction ks generalizing es with
  | nil => cases h; exact h'
  | cons q ks ih =>
    obtain ⟨e, es1, rfl, h1, h2⟩ := h
    exact ⟨e, es1 ++ es', rfl, h1, ih h2⟩
/-- some values exchanged: the same keys -/
theorem KEs.vals {f : PV → DictEntry → DictEntry} (hf : ∀ k e, (f k e).key = e.key ∧ (f k e).hash = e.hash) {ks : List PV} {es : List DictEntry} (h : KEs K w H z ks es) : KEs K w H z ks (List.zipWith f ks es) := by
  induction ks generalizing es with
  | nil => cases h; rfl
  | cons q ks ih =>
    obtain ⟨e, es1, rfl, ⟨kv, nk, a1, a2, a3, a4, a5⟩, h2⟩ := h
    exact ⟨_, _, rfl, ⟨kv, nk, by rw [(hf q e).1]; exact a1, a2, a3, a4, by rw [(hf q e).2]; exact a5⟩, ih h2⟩
theorem tup_stored {ks : List PV} {es : List DictEntry} {k : PV} {b : Addr} {u : Value} (h : KEs K X.w H z ks es) (ht : ∀ k ∈ ks, k.isTup = true) (r : R0 K X.w H z k (.ref b)) (hk : k.key? = some (nkOf k)) (hd : k.dep ≤ 7) :
    ∃ es', (storedH (tupXs ks es) (nkOf k) b u).map (entryOfKey (nestedKind X.prog X.w)) = es' ∧ KEs K X.w H z (kPut ks k) es' ∧ es'.map (·.val) = vPut ks (es.map (·.val)) k u := by
  obtain ⟨i1, i2, i3⟩ := tup_entries (X := X) h ht
  have ha := tup_at (k := k) h h.keys hk
  have hs := val_any (k := k) h
  unfold storedH kPut vPut
  have e0 : (atKey (tupXs ks es) (nkOf k)).isSome = decide (k ∈ ks) := by rw [← hs, ← ha, Option.isSome_map]
  rw [e0]
  by_cases hm : k ∈ ks
  · simp only [hm, decide_true, if_true]
    refine ⟨_, rfl, ?_, ?_⟩
    · have e1 : ((tupXs ks es).map (putAt (nkOf k) u)).map (entryOfKey (nestedKind X.prog X.w)) = List.zipWith (fun q e => if q = k then { e with val := u } else e) ks es := by
        clear i2 i3 ha hs e0 hm
        induction ks generalizing es with
        | nil => cases h; rfl
        | cons q ks ih =>
          obtain ⟨e, es', rfl, h1, h2⟩ := h
          obtain ⟨j1, _, _⟩ := tup_entries (X := X) h2 fun k hk => ht k (List.mem_cons_of_mem _ hk)
          obtain ⟨a, e1, _, hq, _, e2⟩ := h1.tup (ht q List.mem_cons_self)
          have ih' := ih h2 (fun k hk => ht k (List.mem_cons_of_mem _ hk)) j1
          show entryOfKey _ (putAt (nkOf k) u (nkOf q, addrOf e.key, e.val)) :: ((tupXs ks es').map (putAt (nkOf k) u)).map _ = (if q = k then { e with val := u } else e) :: List.zipWith _ ks es'
          rw [ih']
          congr 1
          obtain ⟨eh, ek, ev⟩ := e
          simp only at e1 e2
          subst e1 e2
          unfold putAt
          by_cases hqk : q = k
          · subst hqk; simp [entryOfKey, addrOf]; rfl
          · have : nkOf q ≠ nkOf k := fun e3 => hqk (key_inj hq (by rw [e3]; exact hk))
            simp [this, hqk, entryOfKey, addrOf]; rfl
      rw [e1]
      exact h.vals fun q e => by split <;> exact ⟨rfl, rfl⟩
    · rw [List.map_map]
      clear i1 i2 i3 ha hs e0 hm
      induction ks generalizing es with
      | nil => cases h; rfl
      | cons q ks ih =>
        have hq := h.keys q List.mem_cons_self
        obtain ⟨e, es', rfl, h1, h2⟩ := h
        show (entryOfKey _ (putAt (nkOf k) u (nkOf q, addrOf e.key, e.val))).val :: ((tupXs ks es').map (putAt (nkOf k) u)).map _ = (if q = k then u else e.val) :: (ks.zip (es'.map (·.val))).map _
        rw [← ih h2 fun k hk => ht k (List.mem_cons_of_mem _ hk), List.map_map]
        congr 1
        unfold putAt
        by_cases hqk : q = k
        · subst hqk; simp [entryOfKey]
        · have : nkOf q ≠ nkOf k := fun e3 => hqk (key_inj hq (by rw [e3]; exact hk))
          simp [this, hqk, entryOfKey]
  · simp only [hm, decide_false, if_false, Bool.false_eq_true]
    refine ⟨_, rfl, ?_, ?_⟩
    · rw [List.map_append, ← i1]
      refine h.app ⟨_, [], rfl, ⟨.ref b, nkOf k, (show L2.RelV (.ref b) (.ref b) from rfl), r, hk, hd, rfl⟩, rfl⟩
    · rw [List.map_append, ← i1, List.map_append]
      rfl

/-! ### keys that are numbers or texts -/
def skOf : PV → L2.Key
  | .int i => .inl i
  | .str x => .inr x
  | _ => .inl 0
def flatK (p : PV) : Prop := (∃ i, p = .int i) ∨ ∃ x, p = .str x
theorem skOf_inj {p q : PV} (hp : flatK p) (hq : flatK q) (e : skOf p = skOf q) : p = q := by
  rcases hp with ⟨i, rfl⟩ | ⟨x, rfl⟩ <;> rcases hq with ⟨j, rfl⟩ | ⟨y, rfl⟩ <;> simp_all [skOf]
theorem KE.flat {k : PV} {e : DictEntry} (h : KE K X.w H z k e) (hk : flatK k) : keyIs (skOf k) e.key = true ∧ e.hash = keyH X.w (skOf k) := by
  obtain ⟨kv, nk, h1, h2, h3, h4, h5⟩ := h
  rcases hk with ⟨i, rfl⟩ | ⟨x, rfl⟩
  · cases h2
    obtain ⟨t, e1⟩ := h1
    simp only [PV.key?] at h3
    cases h3
    rw [e1, h5]
    exact ⟨keyIs_int i t, by simp only [NestedKey.hash]; rfl⟩
  · cases h2
    obtain ⟨t, e1⟩ := h1
    simp only [PV.key?] at h3
    cases h3
    rw [e1, h5]
    exact ⟨keyIs_str x t, by simp only [NestedKey.hash]; rfl⟩
theorem KE.ofFlat {k : PV} {e : DictEntry} (hk : flatK k) (h1 : keyIs (skOf k) e.key = true) (h2 : e.hash = keyH X.w (skOf k)) : KE K X.w H z k e := by
  rcases hk with ⟨i, rfl⟩ | ⟨x, rfl⟩
  · rcases keyIs_shape h1 with ⟨j, t, e1, e2⟩ | ⟨y, t, e1, e2⟩
    · cases e1
      exact ⟨.int i, .num i, ⟨t, e2⟩, rfl, by simp only [PV.key?], by simp only [PV.dep]; omega, by rw [h2]; simp only [NestedKey.hash]; rfl⟩
    · cases e1
  · rcases keyIs_shape h1 with ⟨j, t, e1, e2⟩ | ⟨y, t, e1, e2⟩
    · cases e1
    · cases e1
      exact ⟨.str x, .text x, ⟨t, e2⟩, rfl, by simp only [PV.key?], by simp only [PV.dep]; omega, by rw [h2]; simp only [NestedKey.hash]; rfl⟩
def flatKvs (ks : List PV) (us : List Value) : List (L2.Key × Value) := (ks.zip us).map fun q => (skOf q.1, q.2)
theorem flat_pairs : ∀ {ks : List PV} {es : List DictEntry}, KEs K X.w H z ks es → (∀ k ∈ ks, flatK k) → Pairs (mixKind X.prog X.w) es (flatKvs ks (es.map (·.val))) ∧ ∀ e ∈ es, ∃ k, (mixKind X.prog X.w).is k e.key = true ∧ e.hash = (mixKind X.prog X.w).hash k
  | [], _, h, _ => by cases h; exact ⟨.nil, fun e he => by cases he⟩
  | k :: ks, _, h, hf => by
    obtain ⟨e, es', rfl, h1, h2⟩ := h
    obtain ⟨i1, i2⟩ := flat_pairs h2 fun k hk => hf k (List.mem_cons_of_mem _ hk)
    obtain ⟨g1, g2⟩ := h1.flat (hf k List.mem_cons_self)
    exact ⟨.cons g1 rfl i1, fun x hx => by
      rcases List.mem_cons.mp hx with rfl | hx
      · exact ⟨_, g1, g2⟩
      · exact i2 x hx⟩
theorem flat_keys {ks : List PV} {us : List Value} (h : us.length = ks.length) : (flatKvs ks us).map (·.1) = ks.map skOf := by
  unfold flatKvs
  induction ks generalizing us with
  | nil => rfl
  | cons k ks ih =>
    cases us with
    | nil => simp at h
    | cons u us =>
      simp only [List.length_cons, Nat.add_right_cancel_iff] at h
      simp only [List.zip_cons_cons, List.map_cons, ih h]
theorem sk_nodup {ks : List PV} (h : ∀ k ∈ ks, flatK k) (nd : ks.Nodup) : (ks.map skOf).Nodup := by
  induction ks with
  | nil => exact List.nodup_nil
  | cons k ks ih =>
    rw [List.nodup_cons] at nd
    rw [List.map_cons, List.nodup_cons]
    refine ⟨fun hm => ?_, ih (fun k hk => h k (List.mem_cons_of_mem _ hk)) nd.2⟩
    obtain ⟨k', hk', e⟩ := List.mem_map.mp hm
    exact nd.1 (skOf_inj (h k List.mem_cons_self) (h k' (List.mem_cons_of_mem _ hk')) e.symm ▸ hk')
theorem flat_dict (I : Inv X pins σ H s) {a : Addr} {ks : List PV} {es : List DictEntry} (h : H a = some (rawO a es)) (hk : KEs X.K X.w H z ks es) (hf : ∀ k ∈ ks, flatK k) (nd : ks.Nodup) :
    s.heap.DictOf (mixKind X.prog X.w) a (flatKvs ks (es.map (·.val))) := by
  obtain ⟨_, _, o, ep, h1, h2, h3⟩ := raw_get I h
  obtain ⟨i1, i2⟩ := flat_pairs hk hf
  exact ⟨o, es.toArray, ep, h1, h2, h3, fun e he => i2 e (by simpa using he), i1, by rw [flat_keys (by simpa using hk.length)]; exact sk_nodup hf nd⟩
theorem flat_at {ks : List PV} {us : List Value} {k : PV} (hf : ∀ k ∈ ks, flatK k) (hk : flatK k) : valueAt (flatKvs ks us) (skOf k) = vFind ks us k := by
  unfold valueAt vFind flatKvs
  induction ks generalizing us with
  | nil => rfl
  | cons q ks ih =>
    cases us with
    | nil => rfl
    | cons u us =>
      rw [List.zip_cons_cons, List.map_cons, List.find?_cons, List.find?_cons]
      have eq : decide (skOf q = skOf k) = decide (q = k) := by
        by_cases e : q = k
        · rw [decide_eq_true e, e, decide_eq_true rfl]
        · rw [decide_eq_false e, decide_eq_false fun e2 => e (skOf_inj (hf q List.mem_cons_self) hk e2)]
      simp only [eq]
      by_cases e2 : q = k
      · simp [e2]
      · simp only [decide_eq_false e2]
        exact ih fun k hk => hf k (List.mem_cons_of_mem _ hk)
/-- what stands behind a store -/
theorem flat_back : ∀ {ks : List PV} {us : List Value} {es : List DictEntry}, us.length = ks.length → (∀ k ∈ ks, flatK k) → Pairs (mixKind X.prog X.w) es (flatKvs ks us) → (∀ e ∈ es, ∃ k, (mixKind X.prog X.w).is k e.key = true ∧ e.hash = (mixKind X.prog X.w).hash k) →
    KEs K X.w H z ks es ∧ es.map (·.val) = us
  | [], us, es, hl, hf, hp, hh => by
    obtain rfl : us = [] := List.eq_nil_of_length_eq_zero hl
    cases hp
    exact ⟨rfl, rfl⟩
  | k :: ks, [], es, hl, hf, hp, hh => by simp at hl
  | k :: ks, u :: us, es, hl, hf, hp, hh => by
    cases hp with
    | cons h1 h2 h3 =>
      rename_i e es'
      obtain ⟨i1, i2⟩ := flat_back (by simpa using hl) (fun k hk => hf k (List.mem_cons_of_mem _ hk)) h3 fun x hx => hh x (List.mem_cons_of_mem _ hx)
      obtain ⟨k', g1, g2⟩ := hh e List.mem_cons_self
      have ek : k' = skOf k := (mixKind X.prog X.w).inj _ _ _ g1 h1
      subst ek
      refine ⟨⟨e, es', rfl, .ofFlat (hf k List.mem_cons_self) h1 g2, i1⟩, ?_⟩
      rw [List.map_cons, i2, h2]
theorem vPut_length {ks : List PV} {us : List Value} {k : PV} {u : Value} (h : us.length = ks.length) : (vPut ks us k u).length = (kPut ks k).length := by
  unfold vPut kPut
  split
  · simp [h]
  · simp [h]
theorem flat_stored {ks : List PV} {us : List Value} {k : PV} {u : Value} (hl : us.length = ks.length) (hf : ∀ k ∈ ks, flatK k) (hk : flatK k) : stored (flatKvs ks us) (skOf k) u = flatKvs (kPut ks k) (vPut ks us k u) := by
  have ha : ((flatKvs ks us).any fun kv => kv.1 = skOf k) = decide (k ∈ ks) := by
    unfold flatKvs
    induction ks generalizing us with
    | nil => rfl
    | cons q ks ih =>
      cases us with
      | nil => simp at hl
      | cons v us =>
        rw [List.zip_cons_cons, List.map_cons, List.any_cons, ih (by simpa using hl) fun k hk => hf k (List.mem_cons_of_mem _ hk)]
        have eq : decide (skOf q = skOf k) = decide (q = k) := by
          by_cases e : q = k
          · rw [decide_eq_true e, e, decide_eq_true rfl]
          · rw [decide_eq_false e, decide_eq_false fun e2 => e (skOf_inj (hf q List.mem_cons_self) hk e2)]
        rw [eq]
        by_cases e : q = k
        · simp [e]
        · simp [e, Ne.symm e]
  unfold stored
  rw [ha]
  unfold kPut vPut
  by_cases hm : k ∈ ks
  · simp only [hm, decide_true, if_true]
    clear ha hm
    unfold flatKvs
    induction ks generalizing us with
    | nil => rfl
    | cons q ks ih =>
      cases us with
      | nil => simp at hl
      | cons v us =>
        rw [List.zip_cons_cons, List.map_cons, List.map_cons, List.map_cons, List.zip_cons_cons, List.map_cons, ih (by simpa using hl) fun k hk => hf k (List.mem_cons_of_mem _ hk)]
        congr 1
        by_cases e : q = k
        · simp [e]
        · have : skOf q ≠ skOf k := fun e2 => e (skOf_inj (hf q List.mem_cons_self) hk e2)
          simp [e, this]
  · simp only [hm, decide_false, if_false, Bool.false_eq_true]
    unfold flatKvs
    rw [List.zip_append (by rw [hl])]
    simp
end
end
end Mi

set_option Elab.async false
set_option linter.all false
set_option maxRecDepth 100000
set_option maxHeartbeats 4000000
/-! Dicts: the operations' rules. -/
namespace Mi
open PySem PySem.Spec PyProof.Rows L2

section
variable {K : PySem.W.Frag} {w : World} {H : Hp} {z : Addr → Prop}
theorem VLs.length : ∀ {ps : List PV} {us : List Value}, VLs K w H z ps us → us.length = ps.length
  | [], _, h => by cases h; rfl
  | p :: ps, _, h => by obtain ⟨u, us', rfl, _, h2⟩ := h; simp [VLs.length h2]
/-- what a look-up finds -/
theorem vFind_ok : ∀ {ks : List (PV × PV)} {us : List Value} {k : PV}, VLs K w H z (ks.map (·.2)) us → match dGet ks k with
    | some p => ∃ u v, vFind (ks.map (·.1)) us k = some u ∧ RelV v u ∧ R0 K w H z p v
    | none => vFind (ks.map (·.1)) us k = none
  | [], us, k, h => by simp [dGet, vFind]
  | q :: ks, us, k, h => by
    obtain ⟨u, us', rfl, ⟨v, r1, r2⟩, h2⟩ := h
    have ih := vFind_ok (k := k) h2
    unfold dGet vFind at ih ⊢
    rw [List.find?_cons, List.map_cons, List.zip_cons_cons, List.find?_cons]
    by_cases e : q.1 = k
    · simp only [e, decide_true, Option.map_some]
      exact ⟨u, v, rfl, r1, r2⟩
    · simp only [decide_eq_false e]
      exact ih
theorem keyLike_parts {k : PV} {ks : List (PV × PV)} (h : keyLike k ks = true) : k.key? = some (nkOf k) ∧ k.dep ≤ 7 ∧ ((k.isTup = true ∧ ∀ q ∈ ks.map (·.1), q.isTup = true) ∨ (flatK k ∧ ∀ q ∈ ks.map (·.1), flatK q)) := by
  unfold keyLike at h
  rw [Bool.and_eq_true, List.all_eq_true] at h
  obtain ⟨h1, h2⟩ := h
  have key : ∀ p : PV, p.keyOk = true → p.key? = some (nkOf p) ∧ p.dep ≤ 7 ∧ (p.isTup = true ∨ flatK p) := fun p hp => by
    cases p with
    | int i => exact ⟨by unfold nkOf; simp only [PV.key?]; rfl, by simp only [PV.dep]; omega, .inr (.inl ⟨i, rfl⟩)⟩
    | str x => exact ⟨by unfold nkOf; simp only [PV.key?]; rfl, by simp only [PV.dep]; omega, .inr (.inr ⟨x, rfl⟩)⟩
    | tup xs =>
      simp only [PV.keyOk, Bool.and_eq_true, decide_eq_true_eq] at hp
      obtain ⟨as, e⟩ := Option.isSome_iff_exists.mp hp.1
      refine ⟨?_, by simp only [PV.dep]; omega, .inl rfl⟩
      have e1 : (PV.tup xs).key? = some (.tup as) := by simp only [PV.key?, e, Option.map_some]
      unfold nkOf; rw [e1]; rfl
    | _ => simp [PV.keyOk] at hp
  obtain ⟨a1, a2, a3⟩ := key k h1
  refine ⟨a1, a2, ?_⟩
  have each : ∀ q ∈ ks.map (·.1), (q.isTup = true ∨ flatK q) ∧ q.isTup = k.isTup := fun q hq => by
    obtain ⟨x, hx, rfl⟩ := List.mem_map.mp hq
    have g := h2 x hx
    rw [Bool.and_eq_true, beq_iff_eq] at g
    exact ⟨(key x.1 g.1).2.2, g.2⟩
  by_cases hk : k.isTup = true
  · exact .inl ⟨hk, fun q hq => by rw [(each q hq).2]; exact hk⟩
  · have ff : ∀ p : PV, p.isTup ≠ true → (p.isTup = true ∨ flatK p) → flatK p := fun p h1 h2 => h2.resolve_left h1
    exact .inr ⟨ff k hk a3, fun q hq => ff q (by rw [(each q hq).2]; exact hk) (each q hq).1⟩
/-- a dict as an argument -/
theorem A1.dct {ks : List (PV × PV)} {v : V} (h : A1 K w H z (.dct ks) v) : ∃ a es, v = .ref a ∧ H a = some (rawO a es) ∧ KEs K w H z (ks.map (·.1)) es ∧ VLs K w H z (ks.map (·.2)) (es.map (·.val)) ∧ (ks.map (·.1)).Nodup := by
  obtain ⟨a, es, e, h1, h2, h3⟩ := h
  obtain ⟨g1, g2⟩ := R0k_iff.mp h2
  exact ⟨a, es, e, h1, g1, g2, h3⟩
end

section
variable {X : Cx} {pins : List (Addr × Obj)} {σ : L2.St} {H : Hp} {s : Shared} {z : Addr → Prop}
/-- a key's value in the frame -/
theorem kval (I : Inv X pins σ H s) {k : PV} {x : V} {u : Value} (r : R0 X.K X.w H z k x) (ru : RelV x u) (hk : k.key? = some (nkOf k)) (hd : k.dep ≤ 7) :
    (k.isTup = true → ∃ a, x = .ref a ∧ u = .ref a ∧ (nestedKind X.prog X.w).is s.heap (nkOf k) a) ∧ (flatK k → (mixKind X.prog X.w).is (skOf k) u = true) := by
  refine ⟨fun ht => ?_, fun hf => ?_⟩
  · cases k with
    | tup xs =>
      obtain ⟨a, vs, rfl, g⟩ := id r
      cases ru
      exact ⟨a, rfl, rfl, key_is I hk r rfl, by rw [key_dep hk]; omega⟩
    | _ => simp [PV.isTup] at ht
  · rcases hf with ⟨i, rfl⟩ | ⟨y, rfl⟩
    · cases r; obtain ⟨t, rfl⟩ := ru; exact keyIs_int i t
    · cases r; obtain ⟨t, rfl⟩ := ru; exact keyIs_str y t
theorem room9 {X : Cx} (hu : X.A.units + 64 < cLine) : (nestedKind X.prog X.w).room X.A.in1 := by
  show X.A.units + 1 + 8 < cLine
  omega
/-- k in d -/
def rDIn (neg : Bool) (K : PySem.W.Frag) (w : World) : R2 := fun x y H Q => ∃ z ks k, A1 K w H z (.dct ks) y ∧ R0 K w H z k x ∧ keyLike k ks = true ∧ Q (.bl (if neg then !(dGet ks k).isSome else (dGet ks k).isSome)) H
theorem find_some {K : PySem.W.Frag} {w : World} {H : Hp} {z : Addr → Prop} {ks : List (PV × PV)} {us : List Value} {k : PV} (h : VLs K w H z (ks.map (·.2)) us) : (vFind (ks.map (·.1)) us k).isSome = (dGet ks k).isSome := by
  have q := vFind_ok (k := k) h
  cases e : dGet ks k with
  | none => rw [e] at q; rw [show vFind _ us k = none from q]; rfl
  | some p => rw [e] at q; obtain ⟨u, v, e1, _⟩ := q; rw [e1]; rfl
theorem op_dIn (hu : X.A.units + 64 < cLine) : OpR X (compareOp .In) (rDIn false X.K X.w) := by
  intro pins s σ H x y v u Q I rx ry h
  obtain ⟨z, ks, k, hd, hk, hl, q⟩ := h
  obtain ⟨a, es, rfl, h1, h2, h3, nd⟩ := hd.dct
  cases ry
  obtain ⟨e1, e2, e3⟩ := keyLike_parts hl
  obtain ⟨k1, k2⟩ := kval I hk rx e1 e2
  obtain ⟨g0, _⟩ := raw_get I h1
  rw [← find_some (k := k) h3] at q
  rcases e3 with ⟨t1, t2⟩ | ⟨t1, t2⟩
  · obtain ⟨b, rfl, rfl, kk⟩ := k1 t1
    refine wpAny_in_heap (room9 hu) kk g0 (tup_dict I h1 h2 t2 nd) ?_
    rw [← tup_at (k := k) h2 h2.keys e1, Option.isSome_map] at q
    exact ⟨.bl _, H, I.tok _, rfl, q⟩
  · refine wpAny_in_of (k2 t1) g0 (flat_dict I h1 h2 t2 nd).mapOf ?_
    rw [flat_at t2 t1]
    exact ⟨.bl _, H, I.tok _, rfl, q⟩
theorem op_dNotIn (hu : X.A.units + 64 < cLine) : OpR X (compareOp .NotIn) (rDIn true X.K X.w) := by
  intro pins s σ H x y v u Q I rx ry h
  obtain ⟨z, ks, k, hd, hk, hl, q⟩ := h
  obtain ⟨a, es, rfl, h1, h2, h3, nd⟩ := hd.dct
  cases ry
  obtain ⟨e1, e2, e3⟩ := keyLike_parts hl
  obtain ⟨k1, k2⟩ := kval I hk rx e1 e2
  obtain ⟨g0, _⟩ := raw_get I h1
  rw [← find_some (k := k) h3] at q
  rcases e3 with ⟨t1, t2⟩ | ⟨t1, t2⟩
  · obtain ⟨b, rfl, rfl, kk⟩ := k1 t1
    refine notIn_keyed (room9 hu) kk g0 ⟨_, tup_dict I h1 h2 t2 nd, rfl⟩ ?_
    rw [← tup_at (k := k) h2 h2.keys e1, Option.isSome_map] at q
    rw [valueAt_pairsH, Option.isSome_map]
    exact ⟨.bl _, H, I.tok _, rfl, q⟩
  · refine wpAny_notIn_of (k2 t1) g0 (flat_dict I h1 h2 t2 nd).mapOf ?_
    rw [flat_at t2 t1]
    exact ⟨.bl _, H, I.tok _, rfl, q⟩
/-- d[k], k there -/
def rDIx (K : PySem.W.Frag) (w : World) : R2 := fun x y H Q => ∃ z ks k p, A1 K w H z (.dct ks) x ∧ R0 K w H z k y ∧ keyLike k ks = true ∧ dGet ks k = some p ∧ ∀ v, R0 K w H z p v → Q v H
theorem ix_dct (hu : X.A.units + 64 < cLine) : IxR X (rDIx X.K X.w) := by
  intro value slice pins s σ H x y v u Q I rx ry h hs
  obtain ⟨z, ks, k, p, hd, hk, hl, hp, q⟩ := h
  obtain ⟨a, es, rfl, h1, h2, h3, nd⟩ := hd.dct
  cases rx
  obtain ⟨e1, e2, e3⟩ := keyLike_parts hl
  obtain ⟨k1, k2⟩ := kval I hk ry e1 e2
  obtain ⟨g0, g1, o, ep, g2, g3, g4⟩ := raw_get I h1
  have f := vFind_ok (k := k) h3
  rw [hp] at f
  obtain ⟨fu, fv, f1, f2, f3⟩ := f
  refine tail_any (T := "dict") ⟨o, g2, g3.1⟩ PySem.F.slot_dict_getitem.lookup ?_ hs
  rcases e3 with ⟨t1, t2⟩ | ⟨t1, t2⟩
  · obtain ⟨b, rfl, rfl, kk⟩ := k1 t1
    have fa := tup_at (k := k) h2 h2.keys e1
    rw [f1, Option.map_eq_some_iff] at fa
    obtain ⟨c, c1, c2⟩ := fa
    subst c2
    exact wpAny_getItem_heap (room9 hu) kk (tup_dict I h1 h2 t2 nd) c1 ⟨fv, H, I.tok _, f2, q _ f3⟩
  · refine wpAny_getItem_of (v := fu) (k2 t1) (flat_dict I h1 h2 t2 nd).mapOf (by rw [flat_at t2 t1]; exact f1) ?_
    exact ⟨fv, H, I.tok _, f2, q _ f3⟩
/-- d.get(k), d.get(k, x) -/
def rDGet (K : PySem.W.Frag) (w : World) : V → List V → Hp → VK → Prop := fun x xs H Q => ∃ z ks k y, A1 K w H z (.dct ks) x ∧ R0 K w H z k y ∧ keyLike k ks = true ∧
  ((xs = [y] ∧ ∀ v, (match dGet ks k with | some p => R0 K w H z p v | none => v = .non) → Q v H) ∨ ∃ d, xs = [y, d] ∧ ∀ v, (match dGet ks k with | some p => R0 K w H z p v | none => v = d) → Q v H)
theorem mt_dGet (hu : X.A.units + 64 < cLine) : MtR X "dict.get" (rDGet X.K X.w) := by
  intro pins s σ H x xs v us Q I rx rxs h
  obtain ⟨z, ks, k, y, hd, hk, hl, q⟩ := h
  obtain ⟨a, es, rfl, h1, h2, h3, nd⟩ := hd.dct
  cases rx
  obtain ⟨e1, e2, e3⟩ := keyLike_parts hl
  obtain ⟨g0, g1, o, ep, g2, g3, g4⟩ := raw_get I h1
  have hT : s.TypeIs (.ref a) "dict" := ⟨o, g2, g3.1⟩
  have f := vFind_ok (k := k) h3
  -- what is found, or the default dv for the value du
  have fin : ∀ (du : Value) (dv : V), RelV dv du → (∀ v, (match dGet ks k with | some p => R0 X.K X.w H z p v | none => v = dv) → Q v H) → ∀ tk, EP X pins σ Q ((vFind (ks.map (·.1)) (es.map (·.val)) k).getD du) { s with toks := tk } := by
    intro du dv rd hq tk
    cases e : dGet ks k with
    | none =>
      rw [e] at f hq
      rw [show vFind (ks.map (·.1)) (es.map (·.val)) k = none from f]
      exact ⟨dv, H, I.tok _, rd, hq dv rfl⟩
    | some p =>
      rw [e] at f hq
      obtain ⟨fu, fv, f1, f2, f3⟩ := f
      rw [f1]
      exact ⟨fv, H, I.tok _, f2, hq fv f3⟩
  rcases q with ⟨rfl, hq⟩ | ⟨d, rfl, hq⟩
  · cases rxs with
    | cons r1 r2 =>
      cases r2
      obtain ⟨k1, k2⟩ := kval I hk r1 e1 e2
      rcases e3 with ⟨t1, t2⟩ | ⟨t1, t2⟩
      · obtain ⟨b, rfl, rfl, kk⟩ := k1 t1
        refine call_meetsIn PySem.F.slot_dict_get hT PySem.F.entry_dict_get (PySem.F.args_dict_get_2 _ _) (meetsH_dict_get (nestedKind X.prog X.w) a b g0) ⟨room9 hu, _, _, kk, tup_dict I h1 h2 t2 nd, ?_⟩
        rw [tup_at (k := k) h2 h2.keys e1]
        exact fin _ .non rfl hq _
      · refine call_meetsIn PySem.F.slot_dict_get hT PySem.F.entry_dict_get (PySem.F.args_dict_get_2 _ _) (meets_dict_get (mixKind X.prog X.w) a (k2 t1) g0) ⟨_, (flat_dict I h1 h2 t2 nd).mapOf, ?_⟩
        rw [flat_at t2 t1]
        exact fin _ .non rfl hq _
  · cases rxs with
    | cons r1 r2 =>
      cases r2 with
      | cons r2 r3 =>
        cases r3
        obtain ⟨k1, k2⟩ := kval I hk r1 e1 e2
        rcases e3 with ⟨t1, t2⟩ | ⟨t1, t2⟩
        · obtain ⟨b, rfl, rfl, kk⟩ := k1 t1
          refine call_meetsIn PySem.F.slot_dict_get hT PySem.F.entry_dict_get (PySem.F.args_dict_get_3 _ _ _) (meetsH_dict_get_default (nestedKind X.prog X.w) a b g0 _) ⟨room9 hu, _, _, kk, tup_dict I h1 h2 t2 nd, ?_⟩
          rw [tup_at (k := k) h2 h2.keys e1]
          exact fin _ d r2 hq _
        · refine call_meetsIn PySem.F.slot_dict_get hT PySem.F.entry_dict_get (PySem.F.args_dict_get_3 _ _ _) (meets_dict_get_default (mixKind X.prog X.w) a (k2 t1) g0 _) ⟨_, (flat_dict I h1 h2 t2 nd).mapOf, ?_⟩
          rw [flat_at t2 t1]
          exact fin _ d r2 hq _
/-- len(d) -/
theorem call_dLen : CallR X (.builtin "len") (fun xs H Q => ∃ a es, xs = [.ref a] ∧ H a = some (rawO a es) ∧ Q (.int es.length) H) := by
  intro pins s σ H xs us Q I r h
  obtain ⟨a, es, rfl, h1, q⟩ := h
  obtain ⟨u, rfl, rx⟩ := vals1 r
  cases rx
  obtain ⟨g0, g1, o, ep, g2, g3, g4⟩ := raw_get I h1
  have hT : s.TypeIs (.ref a) "dict" := ⟨o, g2, g3.1⟩
  refine PyProof.Rows.call_len_slot (n := es.length) hT PySem.F.slot_dict_len (fun Q' hq => ?_) (by omega) (by rw [sizeLine_eq] at g1; omega) ⟨.int _, H, I.tok _, ⟨_, rfl⟩, q⟩
  refine call_meetsIn PySem.F.slot_dict_len hT PySem.F.entry_dict_len (PySem.F.args_dict_len_1 _) (meets_dict_len_raw a g0) ⟨es.toArray, ep, ⟨o, g2, g3, g4⟩, ?_⟩
  rw [List.size_toArray]
  exact hq
/-- list(d) -/
theorem call_dList (hc : X.calm = true) : CallR X (.type "list") (fun xs H Q => ∃ z ks x, xs = [x] ∧ A1 X.K X.w H z (.dct ks) x ∧ ∀ p vs, H p = none → R0s X.K X.w H z (ks.map (·.1)) vs → Q (.ref p) (upd H p (.lst vs))) := by
  intro pins s σ H xs us Q I r h
  obtain ⟨z, ks, x, rfl, hd, q⟩ := h
  obtain ⟨a, es, rfl, h1, h2, h3, nd⟩ := hd.dct
  obtain ⟨u, rfl, rx⟩ := vals1 r
  cases rx
  obtain ⟨g0, g1, o, ep, g2, g3, g4⟩ := raw_get I h1
  refine PySem.W.kdl_call (PySem.KdlSrc.rawDict (es := es.toArray) (ep := ep) g0) (I.ok.hd hc) ⟨o, g2, g3, g4⟩ (by rw [List.size_toArray]; exact g1) fun h' tk acc c k1 k2 k3 => ?_
  have ea : acc.toList = es.map (·.key) := by
    obtain ⟨n1, n2⟩ := k3
    apply List.ext_getElem?
    intro i
    rw [List.getElem?_map]
    by_cases hi : i < es.length
    · have hi' : i < acc.size := by rw [n1, List.size_toArray]; exact hi
      obtain ⟨_, e⟩ := n2 i acc[i] (by simp [hi'])
      rw [List.getElem?_eq_getElem (by simpa using hi'), List.getElem?_eq_getElem hi]
      simp only [Array.getElem_toList, Option.map_some, Option.some.injEq]
      rw [e]
      simp
    · rw [List.getElem?_eq_none (by simp only [Array.length_toList]; rw [n1, List.size_toArray]; omega), List.getElem?_eq_none (by omega)]
      rfl
  have ev : ∃ vs, Vals vs (es.map (·.key)) ∧ R0s X.K X.w H z (ks.map (·.1)) vs := by
    clear q h1 h3 nd g1 g4 k3 ea hd
    generalize ks.map (·.1) = ps at h2
    induction ps generalizing es with
    | nil => cases h2; exact ⟨[], .nil, rfl⟩
    | cons k ps ih =>
      obtain ⟨e, es', rfl, ⟨kv, nk, a1, a2, _⟩, h2⟩ := h2
      obtain ⟨vs, b1, b2⟩ := ih es' h2
      exact ⟨kv :: vs, .cons a1 b1, kv, vs, rfl, a2, b2⟩
  obtain ⟨vs, v1, v2⟩ := ev
  have hl := v1.length
  refine ⟨.ref s.heap.objs.size, _, I.laid (t' := tk) (o := .lst vs) k1 (Nat.le_refl _) ⟨by rw [hl, List.length_map]; exact g1, acc.toList, c, by rw [ea]; exact v1, by simpa using k2⟩, rfl, q _ vs (I.hok.fresh (Nat.le_refl _)) v2⟩
end
end Mi

set_option Elab.async false
set_option linter.all false
set_option maxRecDepth 100000
set_option maxHeartbeats 4000000
/-! More operations' rules. -/
namespace Mi
open PySem PySem.Spec PyProof.Rows L2

section
variable {K : PySem.W.Frag} {w : World} {H : Hp} {z : Addr → Prop}
theorem A1s.toR0 {p : PV} {v : V} (h : A1 K w H z p v) (h1 : ∀ xs, p ≠ .lst xs) (h2 : ∀ ks, p ≠ .dct ks) : R0 K w H z p v := by
  cases p with
  | lst xs => exact absurd rfl (h1 _)
  | dct ks => exact absurd rfl (h2 _)
  | _ => exact h
theorem keyOk_R0 {p : PV} {v : V} (h : A1 K w H z p v) {ks : List (PV × PV)} (hk : keyLike p ks = true) : R0 K w H z p v := by
  unfold keyLike at hk
  rw [Bool.and_eq_true] at hk
  refine A1s.toR0 h (fun xs e => ?_) (fun xs e => ?_) <;> (subst e; simp [PV.keyOk] at hk)
theorem eqOks_dp {xs : List PV} {vs : List V} (h : R0s K w H z xs vs) (e : xs.all PV.eqOk = true) : DpAll K H vs (toDs xs) ∧ noDs (toDs xs) = true := by
  have hp : plains xs = true := by
    rw [plains_all, List.all_eq_true]
    intro x hx
    have q := List.all_eq_true.mp e x hx
    unfold PV.eqOk at q
    rw [Bool.and_eq_true] at q
    exact q.1
  exact ⟨R0s.dp hp h, plains_noD hp⟩
theorem R0.ofA1 {p : PV} {v : V} (h : A1 K w H z p v) (hp : p.isTup = true ∨ (∃ i, p = .int i) ∨ ∃ x, p = .str x) : R0 K w H z p v := by
  refine A1s.toR0 h (fun xs e => ?_) (fun xs e => ?_) <;> (subst e; rcases hp with hp | ⟨i, hp⟩ | ⟨x, hp⟩ <;> first | (simp [PV.isTup] at hp) | cases hp)
end

/-! ### in -/
def rIn' (neg : Bool) (K : PySem.W.Frag) (w : World) : R2 := fun x y H Q => (rInN K neg x y H Q ∨ (∃ (c : Nat) (z : Str), x = .str ⟨#[c]⟩ ∧ y = .str z ∧ Q (.bl (if neg then !decide (c ∈ z.cps.toList) else decide (c ∈ z.cps.toList))) H)) ∨ rDIn neg K w x y H Q
theorem op_in' {X : Cx} (hu : X.A.units + 65 < cLine) : OpR X (compareOp .In) (rIn' false X.K X.w) := ((op_inN hu).or op_in_sign).or (op_dIn (by omega))
theorem op_notIn' {X : Cx} (hu : X.A.units + 65 < cLine) : OpR X (compareOp .NotIn) (rIn' true X.K X.w) := ((op_notInN hu).or op_notIn_sign).or (op_dNotIn (by omega))
theorem any_toDs {x : PyData} : ∀ {ys : List PV}, ((toDs ys).any fun z => PyData.eqv z x) = ys.any fun y => PyData.eqv y.toD x
  | [] => by simp only [toDs, List.any_nil]
  | y :: ys => by simp only [toDs, List.any_cons, any_toDs]
theorem in_core {K : PySem.W.Frag} {w : World} {H : Hp} {z : Addr → Prop} {a b : PV} {x y : V} {neg c : Bool} {Q : VK} (h1 : A1 K w H z a x) (h2 : A1 K w H z b y) (g : pIn a b = some c) (hq : Q (.bl (if neg then !c else c)) H) : rIn' neg K w x y H Q := by
  have sq : ∀ ys, b = .tup ys ∨ b = .lst ys → (if a.eqOk && ys.all PV.eqOk then some (ys.any fun y => pvEq y a) else none) = some c → rIn' neg K w x y H Q := fun ys eb g => by
    split at g
    · rename_i e
      rw [Bool.and_eq_true] at e
      obtain ⟨d1, d2, d3⟩ := eqOk_dp h1 e.1
      obtain ⟨p, vs, rfl, s1, s2⟩ := h2.seq eb
      obtain ⟨g1, g2⟩ := eqOks_dp s2 e.2
      cases g
      refine .inl (.inl ⟨a.toD, toDs ys, p, vs, rfl, d1, s1, g1, d2, g2, d3, ?_⟩)
      rw [any_toDs]
      exact hq
    · cases g
  cases b with
  | tup ys => exact sq ys (.inl rfl) g
  | lst ys => exact sq ys (.inr rfl) g
  | dct ks =>
    simp only [pIn] at g
    split at g
    · rename_i e
      cases g
      exact .inr ⟨z, ks, a, h2, keyOk_R0 h1 e, e, hq⟩
    · cases g
  | str zz =>
    simp only [pIn] at g
    cases a with
    | str yy =>
      simp only at g
      split at g
      · rename_i e
        cases g
        cases h1; cases h2
        obtain ⟨cps⟩ := yy
        obtain ⟨l⟩ := cps
        match l, e with
        | [c], _ => exact .inl (.inr ⟨c, zz, rfl, rfl, hq⟩)
      · cases g
    | _ => cases g
  | _ => cases g
theorem ok_isIn : PrOk .isIn (ofR2 (rIn' false)) := by
  intro K w H z ps vs q Q ha h hq
  obtain ⟨a, b, rfl, g⟩ := two_some h
  clear h
  obtain ⟨x, y, rfl, h1, h2⟩ := ha.two
  rw [Option.map_eq_some_iff] at g
  obtain ⟨c, g, rfl⟩ := g
  exact ⟨x, y, rfl, in_core h1 h2 g (hq _ _ .bl)⟩
theorem ok_notIn : PrOk .notIn (ofR2 (rIn' true)) := by
  intro K w H z ps vs q Q ha h hq
  obtain ⟨a, b, rfl, g⟩ := two_some h
  clear h
  obtain ⟨x, y, rfl, h1, h2⟩ := ha.two
  rw [Option.map_eq_some_iff] at g
  obtain ⟨c, g, rfl⟩ := g
  exact ⟨x, y, rfl, in_core (neg := true) h1 h2 g (hq _ _ .bl)⟩

/-! ### subscripts -/
theorem R0s.atI {K : PySem.W.Frag} {w : World} {H : Hp} {z : Addr → Prop} {xs : List PV} {vs : List V} {i : Int} {p : PV} (h : R0s K w H z xs vs) (e : L2.atI xs i = some p) : ∃ v, L2.atI vs i = some v ∧ R0 K w H z p v := by
  have hl := h.length
  unfold L2.atI at e ⊢
  rw [hl]
  obtain ⟨j, e1, e2⟩ := Option.bind_eq_some_iff.mp e
  obtain ⟨v, g1, g2⟩ := h.get e2
  exact ⟨v, by rw [e1]; exact g1, g2⟩
def rIx' (K : PySem.W.Frag) (w : World) : R2 := fun x y H Q => (rIxL K x y H Q ∨ rIxT K x y H Q ∨ rIxS x y H Q) ∨ rDIx K w x y H Q
theorem ix_all {X : Cx} (hu : X.A.units + 64 < cLine) : IxR X (rIx' X.K X.w) := by
  intro value slice pins s σ H x y v u Q I rx ry h hs
  rcases h with (h | h | h) | h
  · exact ix_list value slice pins s σ H x y v u Q I rx ry h hs
  · exact ix_tup value slice pins s σ H x y v u Q I rx ry h hs
  · exact ix_str value slice pins s σ H x y v u Q I rx ry h hs
  · exact ix_dct hu value slice pins s σ H x y v u Q I rx ry h hs
theorem mkTm_false (p : PV) : mkTm false p = .v p := by cases p <;> rfl
theorem ok_ix : PrOk .ix (ofR2 rIx') := by
  intro K w H z ps vs q Q ha h hq
  obtain ⟨a, b, rfl, g⟩ := two_some h
  clear h
  obtain ⟨x, y, rfl, h1, h2⟩ := ha.two
  refine ⟨x, y, rfl, ?_⟩
  have hq' : ∀ v, R0 K w H z q v → Q v H := fun v r => hq v H (by show ResOk K w H z (mkTm false q) v H; rw [mkTm_false]; exact .flat r)
  unfold pIx at g
  split at g
  · cases h2
    obtain ⟨p, us, rfl, s1, s2⟩ := h1.tup
    obtain ⟨u, e1, e2⟩ := s2.atI g
    exact .inl (.inr (.inl ⟨p, us, _, u, rfl, rfl, s1, e1, hq' u e2⟩))
  · cases h2
    obtain ⟨p, us, rfl, s1, s2⟩ := h1.lst
    obtain ⟨u, e1, e2⟩ := s2.atI g
    exact .inl (.inl ⟨p, us, _, u, rfl, rfl, .of s1, e1, hq' u e2⟩)
  · cases h2
    rename_i ns i
    obtain ⟨p, rfl, s1⟩ := h1
    rw [Option.map_eq_some_iff] at g
    obtain ⟨j, g, rfl⟩ := g
    refine .inl (.inl ⟨p, ns.map V.int, i, .int j, rfl, rfl, s1.sq, ?_, hq' _ rfl⟩)
    unfold L2.atI at g ⊢
    rw [List.length_map]
    obtain ⟨k, e1, e2⟩ := Option.bind_eq_some_iff.mp g
    rw [e1]
    show (ns.map V.int)[k]? = _
    rw [List.getElem?_map, e2]
    rfl
  · cases h2
    split at g
    · rename_i hl
      rw [Option.map_eq_some_iff] at g
      obtain ⟨c, g, rfl⟩ := g
      cases h1
      exact .inl (.inr (.inr ⟨_, _, c, rfl, rfl, hl, g, hq' _ rfl⟩))
    · cases g
  · split at g
    · rename_i hk
      refine .inr ⟨z, _, b, q, h1, keyOk_R0 h2 hk, hk, g, hq'⟩
    · cases g
  · cases g

/-! ### slices -/
def rSl' (K : PySem.W.Frag) : V → Option Int → Option Int → Hp → VK → Prop := fun x lo hi H Q => (rSlF K x lo hi H Q ∨ rSlL K x lo hi H Q) ∨ rSlS x lo hi H Q
theorem sl_all {X : Cx} : SlR X (rSl' X.K) := (sl_tupF.or sl_list).or sl_str
theorem cutV_R0 {K : PySem.W.Frag} {w : World} {H : Hp} {z : Addr → Prop} {xs : List PV} {vs : List V} {lo hi : Option Int} (h : R0s K w H z xs vs) : R0s K w H z (cutP xs lo hi) (cutV vs lo hi) := by
  unfold cutP cutV
  rw [h.length]
  exact (h.drop _).take _
theorem slc_core {K : PySem.W.Frag} {w : World} {H : Hp} {z : Addr → Prop} {a q : PV} {x : V} {lo hi : Option Int} {Q : VK} (h1 : A1 K w H z a x) (g : pSlc lo hi a = some q) (hq : ∀ v H', ResOk K w H z (mkTm true q) v H' → Q v H') : rSl' K x lo hi H Q := by
  unfold pSlc at g
  split at g
  · cases g
    obtain ⟨p, us, rfl, s1, s2⟩ := h1.tup
    refine .inl (.inl ⟨p, us, rfl, s1, fun ⟨e1, e2⟩ => hq _ _ (.flat ?_), .of (cutV_R0 s2) hq⟩)
    have e : cutP _ lo hi = _ := (show cutP _ lo hi = _ by unfold cutP; rw [← s2.length, e1, e2, s2.length, Nat.sub_zero, List.drop_zero, List.take_length])
    rw [e]
    exact h1
  · cases g
    obtain ⟨p, us, rfl, s1, s2⟩ := h1.lst
    exact .inl (.inr ⟨p, us, rfl, .of s1, fun l hl => hq _ _ (.newL (cutV_R0 s2) hl)⟩)
  · split at g
    · rename_i hl
      cases g; cases h1
      exact .inr ⟨_, rfl, hl, hq _ _ .str⟩
    · cases g
  · cases g
section
variable {F : Type} {call : F → List Sl → CR} {G : Gc} {W : WX} {X : Cx} {e1 e2 e3 : Ex F} {a b c : Expr} {pos p2 : Pos}
def rSlc0 (K : PySem.W.Frag) (_ : World) : V → Hp → VK → Prop := fun x => rSl' K x none none
def rSlcL (K : PySem.W.Frag) (_ : World) : R2 := fun x y H Q => ∃ i, y = .int i ∧ rSl' K x (some i) none H Q
def rSlcH (K : PySem.W.Frag) (_ : World) : R2 := fun x y H Q => ∃ i, y = .int i ∧ rSl' K x none (some i) H Q
theorem ok_slc0 : PrOk (.slc false false) (ofR1 rSlc0) := by
  intro K w H z ps vs q Q ha h hq
  obtain ⟨a, rfl, g⟩ := one_some h
  clear h
  obtain ⟨x, rfl, h1⟩ := ha.one
  exact ⟨x, rfl, slc_core h1 g hq⟩
theorem ok_slcL : PrOk (.slc true false) (ofR2 rSlcL) := by
  intro K w H z ps vs q Q ha h hq
  obtain ⟨a, b, rfl, g⟩ := two_some h
  clear h
  obtain ⟨x, y, rfl, h1, h2⟩ := ha.two
  cases b with
  | int i => cases h2; exact ⟨x, _, rfl, i, rfl, slc_core h1 g hq⟩
  | _ => cases g
theorem ok_slcH : PrOk (.slc false true) (ofR2 rSlcH) := by
  intro K w H z ps vs q Q ha h hq
  obtain ⟨a, b, rfl, g⟩ := two_some h
  clear h
  obtain ⟨x, y, rfl, h1, h2⟩ := ha.two
  cases b with
  | int i => cases h2; exact ⟨x, _, rfl, i, rfl, slc_core h1 g hq⟩
  | _ => cases g
theorem f_slc0 (ha : PE X a (tE G W call e1)) (hG : G.K = X.K) : PE X (.Subscript a (.Slice none none none p2) pos) (tE G W call (.pr (.slc false false) [e1])) :=
  (pe_slice sl_all ha po_none po_none).imp fun σ H Q q => (tEs_one (pr_args ok_slc0 q)).mono fun x H1 h => by rw [← hG]; exact h
theorem f_slcL (ha : PE X a (tE G W call e1)) (hb : PE X b (tE G W call e2)) (hG : G.K = X.K) : PE X (.Subscript a (.Slice (some b) none none p2) pos) (tE G W call (.pr (.slc true false) [e1, e2])) :=
  (pe_slice sl_all ha (po_some hb) po_none).imp fun σ H Q q => (tEs_two (pr_args ok_slcL q)).mono fun x H1 h => h.mono fun y H2 ⟨i, e, h⟩ => ⟨i, e, by rw [← hG]; exact h⟩
theorem f_slcH (ha : PE X a (tE G W call e1)) (hb : PE X b (tE G W call e2)) (hG : G.K = X.K) : PE X (.Subscript a (.Slice none (some b) none p2) pos) (tE G W call (.pr (.slc false true) [e1, e2])) :=
  (pe_slice sl_all ha po_none (po_some hb)).imp fun σ H Q q => (tEs_two (pr_args ok_slcH q)).mono fun x H1 h => h.mono fun y H2 ⟨i, e, h⟩ => ⟨i, e, by rw [← hG]; exact h⟩
/-- what a two-sided cut's evaluation gives -/
theorem cut_args {σ : L2.St} {H : Hp} {Q : VK} (q : tE G W call (.cut e1 e2 e3) σ H Q) :
    tE G W call e1 σ H fun x H1 => tE G W call e2 σ H1 fun y H2 => ∃ i, y = .int i ∧ tE G W call e3 σ H2 fun u H3 => ∃ j, u = .int j ∧ rSl' G.K x (some i) (some j) H3 Q := by
  have q' : tR G W (fun ρ => (evE call e1 ρ).bd fun t ρ1 => (evE call e2 ρ1).bd fun tb ρ2 => match tb with
    | .v (.int i) => (evE call e3 ρ2).bd fun tc ρ3 => (match t.arg ρ3, tc with
      | some q, .v (.int j) => (match pSlc (some i) (some j) q with | some r => .ok (mkTm true r) ρ3 | none => .no)
      | _, _ => .no)
    | _ => .no) TmE σ H Q := by
    have e0 : evE call (.cut e1 e2 e3) = fun ρ => (evE call e1 ρ).bd fun t ρ1 => (evE call e2 ρ1).bd fun tb ρ2 => match tb with
      | .v (.int i) => (evE call e3 ρ2).bd fun tc ρ3 => (match t.arg ρ3, tc with
        | some q, .v (.int j) => (match pSlc (some i) (some j) q with | some r => .ok (mkTm true r) ρ3 | none => .no)
        | _, _ => .no)
      | _ => .no := by funext ρ; simp only [evE] <;> rfl
    rw [← e0]; exact q
  refine (tR.seq (rel := TmE) (rel' := TmE) q').mono fun x H1 h1 => h1.mono fun y H2 h2 => ?_
  obtain ⟨t, tb, ρ2, L, Θ, Te, Te', l, r1, r2, st, o⟩ := h2
  split at o
  · rename_i i
    obtain ⟨z0, rfl⟩ := r2
    have hy : y = .int i := by
      obtain ⟨_, _, u, e1, e2⟩ := st.ok _ (List.mem_append_right _ (List.mem_append_left _ List.mem_cons_self))
      cases e1
      exact e2
    refine ⟨i, hy, ρ2, L, [⟨some y, .v (.int i), [], z0⟩] ++ (Te ++ Θ), l, st, ?_⟩
    rw [Out.bd] at o
    refine ((o.more Te).more [⟨some y, .v (.int i), [], z0⟩]).imp fun tc ρ3 o3 u H3 L3 Te3 l3 r3 s3 => ?_
    cases ha : t.arg ρ3 with
    | none => rw [ha] at o3; exact o3.elim
    | some q =>
      rw [ha] at o3
      split at o3
      · rename_i q1 j eq
        cases eq
        obtain ⟨z3, rfl⟩ := r3
        have hu : u = .int j := by
          obtain ⟨_, _, u, e1, e2⟩ := s3.ok _ (List.mem_append_right _ (List.mem_append_left _ List.mem_cons_self))
          cases e1
          exact e2
        refine ⟨j, hu, ?_⟩
        cases he : pSlc (some i) (some j) q with
        | none => rw [he] at o3; exact o3.elim
        | some r =>
          rw [he] at o3
          refine slc_core (Tm.arg_ok l3 s3 (fun x hx => List.mem_append_left _ hx) (fun x hx => List.mem_append_right _ (List.mem_append_right _ (List.mem_append_right _ (List.mem_append_left _ hx)))) r1 ha) he fun v H' res => ?_
          obtain ⟨Te', t1, t2⟩ := s3.res res
          refine o3 v H' L3 Te' l3 (t1 σ) ?_
          have t3 : Stt G.K G.w H' (([⟨some u, .v (.int j), [], z3⟩] ++ ([⟨some y, .v (.int i), [], z0⟩] ++ Te)) ++ (L3 ++ (Te' ++ Θ))) := t2.perm (by
            simp only [List.append_assoc]
            refine List.perm_append_comm.trans ?_
            simp only [List.append_assoc]
            refine (List.perm_append_comm (l₁ := L3)).trans ?_
            simp only [List.append_assoc]
            refine .append_left _ (.append_left _ (.append_left _ ?_))
            refine (List.perm_append_comm (l₁ := Θ)).trans ?_
            simp only [List.append_assoc]
            refine (List.perm_append_comm (l₁ := Te')).trans ?_
            simp only [List.append_assoc]
            exact .append_left _ List.perm_append_comm)
          exact t3.drop
      · exact o3.elim
  · exact o.elim
theorem f_cut (ha : PE X a (tE G W call e1)) (hb : PE X b (tE G W call e2)) (hc : PE X c (tE G W call e3)) (hG : G.K = X.K) : PE X (.Subscript a (.Slice (some b) (some c) none p2) pos) (tE G W call (.cut e1 e2 e3)) :=
  (pe_slice sl_all ha (po_some hb) (po_some hc)).imp fun σ H Q q => (cut_args q).mono fun x H1 h => h.mono fun y H2 ⟨i, ei, h⟩ => ⟨i, ei, h.mono fun u H3 ⟨j, ej, h⟩ => ⟨j, ej, by rw [← hG]; exact h⟩⟩
end
end Mi

set_option Elab.async false
set_option linter.all false
set_option maxRecDepth 100000
set_option maxHeartbeats 4000000
/-! Turned lists and tuples. -/
namespace HT
open PySem PySem.Spec PyProof.Rows
section
variable {prog : Program} {w : World} {A : Around} {E : Value → Shared → Prop} {s : Shared}
theorem adjust_rev (n : Nat) : Builtin.Slice.sliceAdjust none none (-1) (n : Int) = ((n : Int) - 1, -1) := by
  unfold Builtin.Slice.sliceAdjust
  simp
theorem places_rev (n : Nat) : Builtin.Slice.slicePlaces ((n : Int) - 1) (-1) (-1) = n := by
  unfold Builtin.Slice.slicePlaces
  have h1 : ¬ ((-1 : Int) > 0) := by omega
  simp only [h1, if_false, show (- -1 : Int) = 1 by decide, Int.ediv_one]
  split <;> omega
theorem pick_rev (xs : Array Value) : ((List.range xs.size).filterMap fun (m : Nat) => xs[((xs.size : Int) - 1 + (m : Int) * -1).toNat]?).toArray = xs.toList.reverse.toArray := by
  congr 1
  apply List.ext_getElem?
  intro i
  have key : ∀ k, k ≤ xs.size → (List.range k).filterMap (fun (m : Nat) => xs[((xs.size : Int) - 1 + (m : Int) * -1).toNat]?) = xs.toList.reverse.take k := by
    intro k
    induction k with
    | zero => intro _; simp
    | succ k ih =>
      intro hk
      rw [List.range_succ, List.filterMap_append, ih (by omega), List.take_succ]
      congr 1
      have e1 : ((xs.size : Int) - 1 + (k : Int) * -1).toNat = xs.size - 1 - k := by omega
      have h1 : xs.size - 1 - k < xs.size := by omega
      simp only [List.filterMap_cons, e1, List.filterMap_nil]
      rw [List.getElem?_reverse (by rw [Array.length_toList]; omega)]
      simp only [Array.length_toList, Array.getElem?_toList]
      rw [Array.getElem?_eq_getElem h1]
      rfl
  rw [key _ (Nat.le_refl _), List.take_of_length_le (by simp)]
theorem getItem_tuple_rev {t sl : Addr} {items : Array Value} {vl vu vs : Value} {Q : Value → Shared → Prop} (ht : IsTup s.heap t items) (hs : s.heap.IsSliceOf sl vl vu vs) (pl : IsPart vl none) (pu : IsPart vu none) (ps : IsPart vs (some (-1)))
    (h : Q (.ref s.heap.objs.size) { s with heap := s.heap.push { cls := .type "tuple", data := .seq items.toList.reverse.toArray } })
    (hsz : items.size ≤ sizeLine) : wpAny (model prog w) A (getItem (.ref t) (.ref sl)) Q E s := by
  have htake : sizeOk (.seq items.toList.reverse.toArray) := by
    show items.toList.reverse.toArray.size ≤ sizeLine
    simpa using hsz
  cases pl
  cases pu
  cases ps with
  | int i tk =>
  obtain ⟨os, hos, hcs, hds⟩ := id hs
  have hTs : s.TypeIs (.ref sl) "slice" := ⟨os, hos, hcs⟩
  unfold getItem
  try with_reducible refine wpAny_holding ?_
  first | refine wpAny_bind (wpAny_pure ?_) | skip
  refine wpAny_bind (wpAny_sequenceKey ht.typeIs (by decide) ?_)
  refine wpAny_bind (wpAny_callSpecial?_slot (name := Str.ofString "__getitem__") ht.typeIs PyProof.Rows.slot_tuple_getitem
    (wpAny_call_entry PyProof.Rows.slot_tuple_getitem ht.typeIs entry_tuple_getitem ?_ (args_tuple_getitem _ _)))
  show wpAny _ _ (Builtin.Tuple.tupleItemsOf (.ref t) >>= _) _ _ s
  refine wpAny_bind (tupleItemsOf_ ht ?_)
  refine wpAny_bind (wpAny_typeOf hTs ?_)
  rw [if_pos (by decide)]
  have app : ∀ {Q : Int × Int × Nat → Shared → Prop} {E : Value → Shared → Prop} {A : Around}, Q ((items.size : Int) - 1, -1, items.size) s → wpAny (model prog w) A (Builtin.Slice.sliceApplied (.ref sl) (pure (items.size : Int))) Q E s := fun {Q E A} h => by
    unfold Builtin.Slice.sliceApplied Builtin.Slice.sliceFields
    refine wpAny_bind (wpAny_bind (wpAny_field hos hds (x := .none) rfl (wpAny_bind (wpAny_field hos hds (x := .none) rfl (wpAny_bind (wpAny_field hos hds (x := .int (-1) tk) rfl (wpAny_pure ?_)))))))
    refine wpAny_bind (slicePart_int ?_)
    show wpAny _ _ (if ((-1 : Int) == 0) = true then _ else _) _ _ s
    rw [if_neg (by decide)]
    refine wpAny_bind (slicePart_none (wpAny_bind (slicePart_none (wpAny_bind (wpAny_pure ?_)))))
    show wpAny _ _ (match Builtin.Slice.sliceAdjust none none (-1) (items.size : Int) with | (lo, hi) => pure (lo, (-1 : Int), Builtin.Slice.slicePlaces lo hi (-1))) _ _ s
    rw [adjust_rev]
    show wpAny _ _ (pure ((items.size : Int) - 1, (-1 : Int), Builtin.Slice.slicePlaces ((items.size : Int) - 1) (-1) (-1))) _ _ s
    rw [places_rev]
    exact wpAny_pure h
  refine wpAny_bind (app ?_)
  have hno : ¬ (((items.size : Int) - 1 == 0 && (-1 : Int) == 1 && items.size == items.size) = true) := by
    intro q
    rw [Bool.and_eq_true, Bool.and_eq_true] at q
    exact absurd q.1.2 (by decide)
  show wpAny _ _ (if ((items.size : Int) - 1 == 0 && (-1 : Int) == 1 && items.size == items.size) = true then _ else _) _ _ s
  rw [if_neg hno, pick_rev]
  first
    | exact wpAny_bind (m := Builtin.Tuple.tupleExact _) (wpAny_newObj_type (wpAny_pure ⟨_, rfl, wpAny_pure h⟩) htake)
    | exact wpAny_bind (m := Builtin.Tuple.tupleExact _) (wpAny_newObj_type (wpAny_bind (wpAny_pure (wpAny_pure ⟨_, rfl, wpAny_pure h⟩))) htake)
    | exact wpAny_bind (wpAny_bind (m := Builtin.Tuple.tupleExact _) (wpAny_newObj_type (wpAny_pure (wpAny_pure ⟨_, rfl, wpAny_pure h⟩)) htake))
    | exact wpAny_bind (wpAny_bind (m := Builtin.Tuple.tupleExact _) (wpAny_newObj_type (wpAny_pure ⟨_, rfl, wpAny_pure h⟩) htake))
end
end HT
namespace Mi
open PySem PySem.Spec PyProof.Rows L2
section
variable {F : Type} {call : F → List Sl → CR} {G : Gc} {W : WX} {X : Cx} {e1 : Ex F}
def rRev' (K : PySem.W.Frag) (_ : World) : V → Hp → VK → Prop := fun x H Q => ∃ a xs, x = .ref a ∧ ((SqL K H a xs ∧ ∀ p, H p = none → Q (.ref p) (upd H p (.lst xs.reverse))) ∨ (SqT K H a xs ∧ NewT H Q xs.reverse))
theorem ok_rev : PrOk .rev (ofR1 rRev') := by
  intro K w H z ps vs q Q ha h hq
  obtain ⟨a, rfl, g⟩ := one_some h
  clear h
  obtain ⟨x, rfl, h1⟩ := ha.one
  unfold pRev at g
  split at g
  · cases g
    obtain ⟨p, us, rfl, s1, s2⟩ := h1.tup
    exact ⟨_, rfl, p, us, rfl, .inr ⟨s1, .of s2.rev hq⟩⟩
  · cases g
    obtain ⟨p, us, rfl, s1, s2⟩ := h1.lst
    exact ⟨_, rfl, p, us, rfl, .inl ⟨.of s1, fun l hl => hq _ _ (.newL s2.rev hl)⟩⟩
  · cases g
theorem pe_rev {e : Expr} {te : TE} {k : Nat} {p1 p2 p3 pos : Pos} (he : PE X e te) : PE X (.Subscript e (.Slice none none (some (.UnaryOp .USub (.Constant (.int 1) k p1) p2)) p3) pos) (fun σ H Q => te σ H fun x H1 => rRev' X.K X.w x H1 Q) := by
  refine ⟨fun pins s σ H Q I h => ?_⟩
  refine Subscript_ (thn (he.run pins s σ H _ I h) fun v s1 ⟨x, H1, I1, r1, q1⟩ => ?_)
  obtain ⟨a, xs, ex, hx⟩ := q1
  subst ex
  cases r1
  have hst : PO X (some (.UnaryOp .USub (.Constant (.int 1) k p1) p2)) (tPart (tUn (rU fun i => .int (-i)) (tC (.int 1)))) := po_some (pe_un un_neg pe_int)
  refine wpAny_Slice (thn (po_none.run pins s1 σ H1 (fun o H2 => o = none ∧ H2 = H1) I1 ⟨rfl, rfl⟩) fun vl s2 ⟨l, H2, I2, pl, el, e2⟩ => ?_)
  subst el e2
  refine thn (po_none.run pins s2 σ H2 (fun o H3 => o = none ∧ H3 = H2) I2 ⟨rfl, rfl⟩) fun vu s3 ⟨u, H3, I3, pu, eu, e3⟩ => ?_
  subst eu e3
  refine thn (hst.run pins s3 σ H3 (fun o H4 => o = some (-1) ∧ H4 = H3) I3 ⟨1, rfl, -1, rfl, rfl, rfl⟩) fun vs s4 ⟨o, H4, I4, ps, eo, e4⟩ => ?_
  subst eo e4
  have I5 : Inv X pins σ H4 { s4 with heap := s4.heap.push { cls := .type "slice", data := .fields #[vl, vu, vs] } } := I4.kept (t' := s4.toks) fun b ob q => Heap.get?_push_of_some _ q
  show wpAny (model X.prog X.w) X.A (subscriptTail e (.Slice none none (some (.UnaryOp .USub (.Constant (.int 1) k p1) p2)) p3) (.ref a) (.ref s4.heap.objs.size)) (EP X pins σ Q) X.xe { s4 with heap := s4.heap.push { cls := .type "slice", data := .fields #[vl, vu, vs] } }
  rcases hx with ⟨hx, q⟩ | ⟨hx, q⟩
  · obtain ⟨its, r, ht, hz⟩ := I5.list hx
    have hlen := r.length
    refine tail_any (ops := [.ref a, .ref s4.heap.objs.size]) ht.isList.typeIs (PySem.slot_list_getitem.lookup) ?_ (by with_unfolding_all rfl)
    refine wpAny_getItem_list_slice ht.isList (Heap.IsSliceOf.new _ vl vu vs) pl pu ps (by decide) ?_ (by rw [List.size_toArray]; omega)
    rw [PySem.W.krv_pick]
    refine ⟨.ref _, _, I5.laid (t' := s4.toks) (o := .lst xs.reverse) (fun b ob q => Heap.get?_push_of_some _ q) (Nat.le_refl _) ?_, rfl, q _ (I5.hok.fresh (Nat.le_refl _))⟩
    exact ⟨by rw [List.length_reverse]; exact hz, _, 0, r.reverse, Heap.get?_push_size _ rfl⟩
  · obtain ⟨its, r, ht, hz⟩ := I5.tuple hx
    have hlen := r.length
    refine tail_any (ops := [.ref a, .ref s4.heap.objs.size]) ht.typeIs PyProof.Rows.slot_tuple_getitem.lookup ?_ (by with_unfolding_all rfl)
    refine HT.getItem_tuple_rev ht (Heap.IsSliceOf.new _ vl vu vs) pl pu ps ?_ (by rw [List.size_toArray]; omega)
    exact ⟨.ref _, _, tup_new (t' := s4.toks) I5 r.reverse (by rw [List.length_reverse]; exact hz), rfl, q _ _ (I5.hok.fresh (Nat.le_refl _)) rfl rfl⟩
theorem f_rev {e : Expr} {k : Nat} {p1 p2 p3 pos : Pos} (he : PE X e (tE G W call e1)) (hG : G.K = X.K) : PE X (.Subscript e (.Slice none none (some (.UnaryOp .USub (.Constant (.int 1) k p1) p2)) p3) pos) (tE G W call (.pr .rev [e1])) :=
  (pe_rev he).imp fun σ H Q q => (tEs_one (pr_args ok_rev q)).mono fun x H1 h => by unfold rRev' at h ⊢; rw [← hG]; exact h
end
end Mi

set_option Elab.async false
set_option linter.all false
set_option maxRecDepth 100000
set_option maxHeartbeats 4000000
/-! Built-in functions' rules. -/
namespace Mi
open PySem PySem.Spec PyProof.Rows L2

abbrev CallP (X : Cx) (v : Value) (r : RP) : Prop := CallR X v (r X.K X.w)

/-! ### len -/
def rLen' : RP := fun K _ vs H Q => (∃ x n, vs = [x] ∧ LenV K x H n ∧ Q (.int n) H) ∨ ∃ a es, vs = [.ref a] ∧ H a = some (rawO a es) ∧ Q (.int es.length) H
theorem cl_len {X : Cx} : CallP X (.builtin "len") rLen' := call_len.or call_dLen
theorem ok_len : PrOk .len rLen' := by
  intro K w H z ps vs q Q ha h hq
  obtain ⟨a, rfl, g⟩ := one_some h
  clear h
  obtain ⟨x, rfl, h1⟩ := ha.one
  rw [Option.map_eq_some_iff] at g
  obtain ⟨n, g, rfl⟩ := g
  have hq' : Q (.int n) H := hq _ _ .int
  cases a with
  | tup xs => cases g; obtain ⟨p, us, rfl, s1, s2⟩ := h1.tup; exact .inl ⟨_, us.length, rfl, .inr ⟨us, s1, rfl⟩, by rw [s2.length]; exact hq'⟩
  | lst xs => cases g; obtain ⟨p, us, rfl, s1, s2⟩ := h1.lst; exact .inl ⟨_, us.length, rfl, .inl ⟨us, .of s1, rfl⟩, by rw [s2.length]; exact hq'⟩
  | scr ns => cases g; obtain ⟨p, rfl, s1⟩ := h1; exact .inl ⟨_, _, rfl, .inl ⟨ns.map V.int, s1.sq, rfl⟩, by rw [List.length_map]; exact hq'⟩
  | dct ks => cases g; obtain ⟨p, es, rfl, s1, s2, _⟩ := h1.dct; exact .inr ⟨p, es, rfl, s1, by rw [s2.length, List.length_map]; exact hq'⟩
  | str y =>
    simp only [pLen] at g
    split at g
    · rename_i hl; cases g; cases h1; exact .inl ⟨_, _, rfl, ⟨hl, rfl⟩, hq'⟩
    · cases g
  | _ => cases g
/-! ### tuple, list -/
def rTup' : RP := fun K _ vs H Q => ∃ x, vs = [x] ∧ rTupF K x H Q
theorem cl_tuple {X : Cx} : CallP X (.type "tuple") rTup' := call_tupF
theorem ok_tuple : PrOk .tuple rTup' := by
  intro K w H z ps vs q Q ha h hq
  obtain ⟨a, rfl, g⟩ := one_some h
  clear h
  obtain ⟨x, rfl, h1⟩ := ha.one
  rw [Option.map_eq_some_iff] at g
  obtain ⟨xs, g, rfl⟩ := g
  cases a with
  | tup xs => cases g; obtain ⟨p, us, rfl, s1, s2⟩ := h1.tup; exact ⟨_, rfl, p, us, rfl, .inr ⟨s1, hq _ _ (.flat h1)⟩⟩
  | lst xs => cases g; obtain ⟨p, us, rfl, s1, s2⟩ := h1.lst; exact ⟨_, rfl, p, us, rfl, .inl ⟨.of s1, .of s2 hq⟩⟩
  | _ => cases g
def rList' : RP := fun K w xs H Q => (∃ p ys, xs = [.ref p] ∧ (SqL K H p ys ∨ SqT K H p ys) ∧ ∀ l, H l = none → Q (.ref l) (upd H l (.lst ys))) ∨
  ∃ z ks x, xs = [x] ∧ A1 K w H z (.dct ks) x ∧ ∀ p vs, H p = none → R0s K w H z (ks.map (·.1)) vs → Q (.ref p) (upd H p (.lst vs))
theorem cl_list {X : Cx} (hc : X.calm = true) : CallP X (.type "list") rList' := call_list_of.or (call_dList hc)
theorem ok_list : PrOk .list rList' := by
  intro K w H z ps vs q Q ha h hq
  obtain ⟨a, rfl, g⟩ := one_some h
  clear h
  obtain ⟨x, rfl, h1⟩ := ha.one
  rw [Option.map_eq_some_iff] at g
  obtain ⟨xs, g, rfl⟩ := g
  cases a with
  | tup xs => cases g; obtain ⟨p, us, rfl, s1, s2⟩ := h1.tup; exact .inl ⟨p, us, rfl, .inr s1, fun l hl => hq _ _ (.newL s2 hl)⟩
  | lst xs => cases g; obtain ⟨p, us, rfl, s1, s2⟩ := h1.lst; exact .inl ⟨p, us, rfl, .inl (.of s1), fun l hl => hq _ _ (.newL s2 hl)⟩
  | dct ks => cases g; exact .inr ⟨z, ks, x, rfl, h1, fun p vs hp hv => hq _ _ (.newL hv hp)⟩
  | _ => cases g
/-! ### sum, abs, str, int -/
theorem onInts_some {f : List Int → Option Int} {a q : PV} (h : onInts f a = some q) : ∃ is j, f is = some j ∧ q = .int j ∧ ∀ {K : PySem.W.Frag} {w : World} {H : Hp} {z : Addr → Prop} {x : V}, A1 K w H z a x → ∃ p, x = .ref p ∧ SqL K H p (is.map V.int) := by
  cases a with
  | lst xs =>
    simp only [onInts, Option.map_eq_some_iff] at h
    obtain ⟨j, h, rfl⟩ := h
    obtain ⟨is, h1, h2⟩ := Option.bind_eq_some_iff.mp h
    refine ⟨is, j, h2, rfl, fun h => ?_⟩
    obtain ⟨p, us, rfl, s1, s2⟩ := h.lst
    rw [ints_of h1 s2] at s1
    exact ⟨p, rfl, .of s1⟩
  | scr ns =>
    simp only [onInts, Option.map_eq_some_iff] at h
    obtain ⟨j, h, rfl⟩ := h
    refine ⟨ns, j, h, rfl, fun h => ?_⟩
    obtain ⟨p, rfl, s1⟩ := h
    exact ⟨p, rfl, s1.sq⟩
  | _ => simp only [onInts] at h; cases h
def rSum' : RP := fun K _ => rSum K
theorem ok_sum : PrOk .sum rSum' := by
  intro K w H z ps vs q Q ha h hq
  obtain ⟨a, rfl, g⟩ := one_some h
  clear h
  obtain ⟨x, rfl, h1⟩ := ha.one
  obtain ⟨is, j, e1, rfl, k⟩ := onInts_some g
  obtain ⟨p, rfl, s⟩ := k h1
  cases e1
  exact ⟨p, is, rfl, s, hq _ _ .int⟩
def rAbs' : RP := fun _ _ xs H Q => ∃ i, xs = [.int i] ∧ Q (.int (if i < 0 then -i else i)) H
theorem ok_abs : PrOk .abs rAbs' := by
  intro K w H z ps vs q Q ha h hq
  obtain ⟨a, rfl, g⟩ := one_some h
  clear h
  obtain ⟨x, rfl, h1⟩ := ha.one
  obtain ⟨i, rfl, g⟩ := onI_some g
  cases g; cases h1
  exact ⟨i, rfl, hq _ _ .int⟩
def rStr' : RP := fun _ _ xs H Q => ∃ i : Int, xs = [.int i] ∧ i.natAbs.log2 < 1920 ∧ Q (.str (toString i)) H
theorem ok_str : PrOk .str rStr' := by
  intro K w H z ps vs q Q ha h hq
  obtain ⟨a, rfl, g⟩ := one_some h
  clear h
  obtain ⟨x, rfl, h1⟩ := ha.one
  obtain ⟨i, rfl, g'⟩ := onI_some g
  clear g
  split at g'
  · rename_i hl; cases g'; cases h1; exact ⟨i, rfl, hl, hq _ _ .str⟩
  · cases g'
def rInt' : RP := fun _ _ xs H Q => ((∃ i, xs = [.int i] ∧ Q (.int i) H) ∨ ∃ k, xs = [.bl k] ∧ Q (.int (if k then 1 else 0)) H) ∨ ∃ a n, xs = [.str a] ∧ PySem.intText? a = some n ∧ a.length ≤ 640 ∧ Q (.int n) H
theorem cl_int {X : Cx} : CallP X (.type "int") rInt' := call_int1.or call_int_str
theorem ok_int : PrOk .int rInt' := by
  intro K w H z ps vs q Q ha h hq
  obtain ⟨a, rfl, g⟩ := one_some h
  clear h
  obtain ⟨x, rfl, h1⟩ := ha.one
  cases a with
  | int i => cases g; cases h1; exact .inl (.inl ⟨_, rfl, hq _ _ .int⟩)
  | bl b => cases g; cases h1; exact .inl (.inr ⟨_, rfl, hq _ _ .int⟩)
  | str y =>
    simp only [pToInt] at g
    split at g
    · rename_i n e
      split at g
      · rename_i hl; cases g; cases h1; exact .inr ⟨_, n, rfl, e, hl, hq _ _ .int⟩
      · cases g
    · cases g
  | _ => cases g
def rMin2' : RP := fun _ _ xs H Q => ∃ i j, xs = [.int i, .int j] ∧ Q (.int (if j < i then j else i)) H
def rMax2' : RP := fun _ _ xs H Q => ∃ i j, xs = [.int i, .int j] ∧ Q (.int (if j > i then j else i)) H
theorem ok_min2 : PrOk .min2 rMin2' := by
  intro K w H z ps vs q Q ha h hq
  obtain ⟨a, b, rfl, g⟩ := two_some h
  clear h
  obtain ⟨x, y, rfl, h1, h2⟩ := ha.two
  obtain ⟨i, j, rfl, rfl, g⟩ := onII_some g
  cases g; cases h1; cases h2
  exact ⟨i, j, rfl, hq _ _ .int⟩
theorem ok_max2 : PrOk .max2 rMax2' := by
  intro K w H z ps vs q Q ha h hq
  obtain ⟨a, b, rfl, g⟩ := two_some h
  clear h
  obtain ⟨x, y, rfl, h1, h2⟩ := ha.two
  obtain ⟨i, j, rfl, rfl, g⟩ := onII_some g
  cases g; cases h1; cases h2
  exact ⟨i, j, rfl, hq _ _ .int⟩
def rMin1' : RP := fun K _ => rMin K
def rMax1' : RP := fun K _ => rMax K
theorem minI_mem : ∀ {is : List Int} {j : Int}, minI is = some j → is ≠ [] ∧ ∀ m, m ∈ is → (∀ y, y ∈ is → m ≤ y) → m = j := by
  intro is j h
  cases is with
  | nil => cases h
  | cons a r =>
    have h' : r.foldl (fun m y => if y < m then y else m) a = j := Option.some.inj h
    have gen : ∀ (r : List Int) (a : Int), (r.foldl (fun m y => if y < m then y else m) a) ∈ a :: r ∧ ∀ y ∈ a :: r, r.foldl (fun m y => if y < m then y else m) a ≤ y := by
      intro r
      induction r with
      | nil => intro a; simp
      | cons b r ih =>
        intro a
        rw [List.foldl_cons]
        obtain ⟨c, hc, c1, c2, c3⟩ : ∃ c, (if b < a then b else a) = c ∧ c ≤ a ∧ c ≤ b ∧ (c = a ∨ c = b) := ⟨_, rfl, by split <;> omega, by split <;> omega, by split <;> simp⟩
        rw [hc]
        obtain ⟨i1, i2⟩ := ih c
        refine ⟨?_, fun y hy => ?_⟩
        · rcases List.mem_cons.mp i1 with e | e
          · rw [e]; rcases c3 with c3 | c3 <;> simp [c3]
          · exact List.mem_cons_of_mem _ (List.mem_cons_of_mem _ e)
        · have h0 := i2 _ List.mem_cons_self
          rcases List.mem_cons.mp hy with e | hy
          · omega
          · rcases List.mem_cons.mp hy with e | hy
            · omega
            · exact i2 y (List.mem_cons_of_mem _ hy)
    refine ⟨(by intro e; cases e), fun m hm hle => ?_⟩
    obtain ⟨g1, g2⟩ := gen r a
    rw [h'] at g1 g2
    have a1 := g2 m hm
    have a2 := hle j g1
    omega
theorem maxI_mem : ∀ {is : List Int} {j : Int}, maxI is = some j → is ≠ [] ∧ ∀ m, m ∈ is → (∀ y, y ∈ is → y ≤ m) → m = j := by
  intro is j h
  cases is with
  | nil => cases h
  | cons a r =>
    have h' : r.foldl (fun m y => if y > m then y else m) a = j := Option.some.inj h
    have gen : ∀ (r : List Int) (a : Int), (r.foldl (fun m y => if y > m then y else m) a) ∈ a :: r ∧ ∀ y ∈ a :: r, y ≤ r.foldl (fun m y => if y > m then y else m) a := by
      intro r
      induction r with
      | nil => intro a; simp
      | cons b r ih =>
        intro a
        rw [List.foldl_cons]
        obtain ⟨c, hc, c1, c2, c3⟩ : ∃ c, (if b > a then b else a) = c ∧ c ≥ a ∧ c ≥ b ∧ (c = a ∨ c = b) := ⟨_, rfl, by split <;> omega, by split <;> omega, by split <;> simp⟩
        rw [hc]
        obtain ⟨i1, i2⟩ := ih c
        refine ⟨?_, fun y hy => ?_⟩
        · rcases List.mem_cons.mp i1 with e | e
          · rw [e]; rcases c3 with c3 | c3 <;> simp [c3]
          · exact List.mem_cons_of_mem _ (List.mem_cons_of_mem _ e)
        · have h0 := i2 _ List.mem_cons_self
          rcases List.mem_cons.mp hy with e | hy
          · omega
          · rcases List.mem_cons.mp hy with e | hy
            · omega
            · exact i2 y (List.mem_cons_of_mem _ hy)
    refine ⟨(by intro e; cases e), fun m hm hle => ?_⟩
    obtain ⟨g1, g2⟩ := gen r a
    rw [h'] at g1 g2
    have a1 := g2 m hm
    have a2 := hle j g1
    omega
theorem ok_min1 : PrOk .min1 rMin1' := by
  intro K w H z ps vs q Q ha h hq
  obtain ⟨a, rfl, g⟩ := one_some h
  clear h
  obtain ⟨x, rfl, h1⟩ := ha.one
  obtain ⟨is, j, e1, rfl, k⟩ := onInts_some g
  obtain ⟨p, rfl, s⟩ := k h1
  obtain ⟨n1, n2⟩ := minI_mem e1
  exact ⟨p, is, rfl, s, List.length_pos_iff.mpr n1, fun m hm hl => by rw [n2 m hm hl]; exact hq _ _ .int⟩
theorem ok_max1 : PrOk .max1 rMax1' := by
  intro K w H z ps vs q Q ha h hq
  obtain ⟨a, rfl, g⟩ := one_some h
  clear h
  obtain ⟨x, rfl, h1⟩ := ha.one
  obtain ⟨is, j, e1, rfl, k⟩ := onInts_some g
  obtain ⟨p, rfl, s⟩ := k h1
  obtain ⟨n1, n2⟩ := maxI_mem e1
  exact ⟨p, is, rfl, s, List.length_pos_iff.mpr n1, fun m hm hl => by rw [n2 m hm hl]; exact hq _ _ .int⟩

/-! ### isinstance -/
def tyV (t : Ty) : V := .ty t.name
def tyOf : PV → Option String
  | .non => some "NoneType" | .bl _ => some "bool" | .int _ => some "int" | .str _ => some "str" | .tup _ => some "tuple" | .lst _ => some "list" | .scr _ => some "list"
  | _ => none
theorem A1.ty {K : PySem.W.Frag} {w : World} {H : Hp} {z : Addr → Prop} {p : PV} {v : V} {T : String} (h : A1 K w H z p v) (e : tyOf p = some T) : TyX K H v (.type T) := by
  cases p with
  | non => cases e; cases h; exact .base .non
  | bl b => cases e; cases h; exact .base (.bl b)
  | int i => cases e; cases h; exact .base (.int i)
  | str y => cases e; cases h; exact .base (.str y)
  | tup xs =>
    cases e
    obtain ⟨a, vs, rfl, h1, _⟩ := h
    rcases h1 with ⟨o, h1, _⟩ | ⟨o, its, n, h1, h2, _⟩
    · exact .fTuple h1
    · exact .kTuple h1 h2
  | lst xs => cases e; obtain ⟨a, vs, rfl, h1, _⟩ := h; exact .base (.lst h1)
  | scr ns =>
    cases e
    obtain ⟨a, rfl, h1⟩ := h
    rcases h1 with ⟨o, h1⟩ | ⟨o, its, n, h1, h2, _⟩
    · exact .base (.frz h1)
    · exact .kList h1 h2
  | _ => cases e
theorem kit_eq (K : PySem.W.Frag) (T : String) : PySem.W.kitOne K (.type T) (.type T) = some true := by
  unfold PySem.W.kitOne
  rw [if_pos (beq_self_eq_true _)]
def tyOk (T : String) (t : Ty) : Bool := T == t.name || (T == "bool" && t == .int)
theorem kit_non (K : PySem.W.Frag) (t : Ty) : PySem.W.kitOne K (.type "NoneType") (.type t.name) = some (tyOk "NoneType" t) := by cases t <;> kernel_rfl
theorem kit_bool (K : PySem.W.Frag) (t : Ty) : PySem.W.kitOne K (.type "bool") (.type t.name) = some (tyOk "bool" t) := by cases t <;> kernel_rfl
theorem kit_int (K : PySem.W.Frag) (t : Ty) : PySem.W.kitOne K (.type "int") (.type t.name) = some (tyOk "int" t) := by cases t <;> kernel_rfl
theorem kit_str (K : PySem.W.Frag) (t : Ty) : PySem.W.kitOne K (.type "str") (.type t.name) = some (tyOk "str" t) := by cases t <;> kernel_rfl
theorem kit_tup (K : PySem.W.Frag) (t : Ty) : PySem.W.kitOne K (.type "tuple") (.type t.name) = some (tyOk "tuple" t) := by cases t <;> kernel_rfl
theorem kit_lst (K : PySem.W.Frag) (t : Ty) : PySem.W.kitOne K (.type "list") (.type t.name) = some (tyOk "list" t) := by cases t <;> kernel_rfl
def rIsi' (t : Ty) : RP := fun K _ xs H Q => ∃ x, xs = [x] ∧ rIsi K [x, tyV t] H Q
theorem ok_isi (t : Ty) : PrOk (.isi t) (rIsi' t) := by
  intro K w H z ps vs q Q ha h hq
  obtain ⟨a, rfl, g⟩ := one_some h
  clear h
  obtain ⟨x, rfl, h1⟩ := ha.one
  refine ⟨x, rfl, ?_⟩
  have fin : ∀ T, tyOf a = some T → PySem.W.kitOne K (.type T) (.type t.name) = some (tyOk T t) → isTy t a = tyOk T t → q = .bl (isTy t a) → rIsi K [x, tyV t] H Q := fun T e1 e2 e3 e4 => by
    subst e4
    rw [e3] at hq
    exact ⟨x, _, _, _, _, rfl, .ty t.name, h1.ty e1, e2, hq _ _ .bl⟩
  cases a with
  | dct ks => cases g
  | ins c fs => cases g
  | non => exact fin _ rfl (kit_non K t) (by cases t <;> rfl) (by cases g; rfl)
  | bl b => exact fin _ rfl (kit_bool K t) (by cases t <;> rfl) (by cases g; rfl)
  | int b => exact fin _ rfl (kit_int K t) (by cases t <;> rfl) (by cases g; rfl)
  | str b => exact fin _ rfl (kit_str K t) (by cases t <;> rfl) (by cases g; rfl)
  | tup b => exact fin _ rfl (kit_tup K t) (by cases t <;> rfl) (by cases g; rfl)
  | lst b => exact fin _ rfl (kit_lst K t) (by cases t <;> rfl) (by cases g; rfl)
  | scr b => exact fin _ rfl (kit_lst K t) (by cases t <;> rfl) (by cases g; rfl)
end Mi

set_option Elab.async false
set_option linter.all false
set_option maxRecDepth 100000
set_option maxHeartbeats 4000000
/-! sorted, index, texts' methods. -/
namespace Mi
open PySem PySem.Spec PyProof.Rows L2

/-! ### sorted -/
theorem SortsOne {prog : Program} {w : World} {A : Around} {s : Shared} {v : Value} (h : ∃ as, Reads s.heap v (.tuple []) as) (hu : A.units + 1 < cLine) : PySem.W.SortsAt prog w A s (PySem.W.dataKind s.heap [.tuple []]) [v] := by
  have hal : PySem.W.AllAlike [PyData.tuple []] := fun d hd d' hd' => by
    obtain rfl := List.mem_singleton.mp hd
    obtain rfl := List.mem_singleton.mp hd'
    rfl
  refine ⟨fun u hu => ?_, general', ?_, fun h2 => absurd h2 (by simp)⟩
  · obtain rfl := List.mem_singleton.mp hu
    obtain ⟨as, r⟩ := h
    exact ⟨_, PySem.W.dataKind_some hal List.mem_cons_self r⟩
  · intro E x y a b Q ha hb hq
    obtain ⟨d, as, hd, ra, rfl⟩ := PySem.W.dataKind_inv ha
    obtain ⟨d', as', hd', rb, rfl⟩ := PySem.W.dataKind_inv hb
    obtain rfl := List.mem_singleton.mp hd
    obtain rfl := List.mem_singleton.mp hd'
    show wpAny _ _ (oneLt' false x y) _ _ _
    exact PySem.W.oneLt_alike (fun e => nomatch e) ra rb rfl (fun e => nomatch e) (by simpa [PyData.depth, PyData.depthAll] using hu) hq
section
variable {X : Cx} {pins : List (Addr × Obj)} {σ : L2.St} {H : Hp} {s : Shared} {z : Addr → Prop}
/-- a heap's value and what it stands for -/
def RUP (K : PySem.W.Frag) (w : World) (H : Hp) (z : Addr → Prop) (u : Value) (p : PV) : Prop := ∃ v, RelV v u ∧ R0 K w H z p v
theorem each_of {K : PySem.W.Frag} {w : World} : ∀ {ps : List PV} {vs : List V} {us : List Value}, R0s K w H z ps vs → Vals vs us → PySem.W.EachIs (RUP K w H z) us ps
  | [], _, _, h, r => by cases h; cases r; exact .nil
  | p :: ps, _, _, h, r => by
    obtain ⟨v, vs', rfl, h1, h2⟩ := h
    cases r with
    | cons r1 r2 => exact .cons ⟨v, r1, h1⟩ (each_of h2 r2)
theorem of_each {K : PySem.W.Frag} {w : World} : ∀ {ps : List PV} {us : List Value}, PySem.W.EachIs (RUP K w H z) us ps → ∃ vs, Vals vs us ∧ R0s K w H z ps vs
  | _, _, .nil => ⟨[], .nil, rfl⟩
  | _, _, .cons ⟨v, r1, h1⟩ h => by
    obtain ⟨vs, r2, h2⟩ := of_each h
    exact ⟨v :: vs, .cons r1 r2, v, vs, rfl, h1, h2⟩
theorem each_reads (I : Inv X pins σ H s) {w : World} : ∀ {ps : List PV} {us : List Value}, (∀ p ∈ ps, p.plain = true) → PySem.W.EachIs (RUP X.K w H z) us ps → PySem.W.EachIs (fun v b => ∃ as, Reads s.heap v (PV.toD b) as) us ps
  | _, _, _, .nil => .nil
  | p :: ps, _, hp, .cons ⟨v, r1, h1⟩ h => .cons (Dp.reads I _ _ _ (R0.dp (hp p List.mem_cons_self) h1) r1) (each_reads I (fun q hq => hp q (List.mem_cons_of_mem _ hq)) h)
def rSorted' : RP := fun K w vs H Q => ∃ a us xs ys z, vs = [.ref a] ∧ H a = some (.lst us) ∧ R0s K w H z xs us ∧ pSort xs = some ys ∧ ∀ p vs, H p = none → R0s K w H z ys vs → Q (.ref p) (upd H p (.lst vs))
theorem sortVals_one (κ : PyProof.Rows.KeyKind) (u : Value) : PySem.W.sortVals κ false [u] [u] = [u] := by
  unfold PySem.W.sortVals
  simp
theorem sorted_one {prog : Program} {w : World} {A : Around} {E : Value → Shared → Prop} {s : Shared} {l : Addr} {u : Value} {Q : Value → Shared → Prop} (hl : s.heap.IsList l [u].toArray) (h : ∃ as, Reads s.heap u (.tuple []) as) (hu : A.units + 3 < cLine)
    (hq : Q (.ref (s.heap.objs.size + 1)) { s with heap := sortedAll s.heap [u] [u].toArray }) : wpAny (model prog w) A (call (.builtin "sorted") [.ref l]) Q E s := by
  obtain ⟨as, rd⟩ := h
  have rd' : Reads (PySem.W.sortingHeap (PySem.W.copyHeap s.heap [u]) (s.heap.objs.size + 1) [u]) u (.tuple []) as := PyProof.Rows.Reads.keeps (fun _ _ => PySem.W.sorting_copy_old) rd
  have S : PySem.W.SortsAt prog w A.in1.in1 { s with heap := PySem.W.sortingHeap (PySem.W.copyHeap s.heap [u]) (s.heap.objs.size + 1) [u] } (PySem.W.dataKind (PySem.W.sortingHeap (PySem.W.copyHeap s.heap [u]) (s.heap.objs.size + 1) [u]) [.tuple []]) [u] :=
    SortsOne (s := { s with heap := PySem.W.sortingHeap (PySem.W.copyHeap s.heap [u]) (s.heap.objs.size + 1) [u] }) ⟨as, rd'⟩ (show A.units + 1 + 1 + 1 < cLine from hu)
  refine PySem.W.sorted_vals hl S (by simp [sizeLine_eq]) ?_
  rw [sortVals_one]
  exact hq
theorem srt_new (I : Inv X pins σ H s) {its out : List Value} {vs : List V} (o1 : Vals vs out) (hl : out.length ≤ sizeLine) :
    Inv X pins σ (upd H (s.heap.objs.size + 1) (.lst vs)) { s with heap := sortedAll s.heap its (List.toArray out) } := by
  obtain ⟨e, hat⟩ := sortedAll_at s.heap its (List.toArray out)
  have k : ∀ b o, s.heap.get? b = some o → (sortedAll s.heap its (List.toArray out)).get? b = some o := fun b o e => sortedAll_old e
  generalize sortedAll s.heap its (List.toArray out) = h' at k hat
  exact I.laid (t' := s.toks) (o := .lst vs) k (Nat.le_succ _) ⟨by rw [o1.length]; exact hl, out, e, o1, hat⟩
theorem cl_sorted (hu : X.A.units + 65 < cLine) : CallP X (.builtin "sorted") rSorted' := by
  intro pins s σ H xs us Q I r h
  obtain ⟨a, vs, ps, ys, z, rfl, ha, hr, hs, q⟩ := h
  obtain ⟨u, rfl, rx⟩ := vals1 r
  cases rx
  obtain ⟨its, rv, pl, hz⟩ := I.list (.of ha)
  have he := each_of hr rv
  have hlen : ps.length ≤ sizeLine := by rw [← hr.length]; exact hz
  have fin : ∀ out : List Value, out.length = ps.length → PySem.W.EachIs (RUP X.K X.w H z) out ys → EP X pins σ Q (.ref (s.heap.objs.size + 1)) { s with heap := sortedAll s.heap its (List.toArray out) } := fun out hl eo => by
    obtain ⟨vs', o1, o2⟩ := of_each eo
    exact ⟨.ref (s.heap.objs.size + 1), _, srt_new I o1 (by rw [hl]; exact hlen), rfl, q _ vs' (I.hok.fresh (Nat.le_succ _)) o2⟩
  by_cases hc : ps = [.tup []]
  · subst hc
    rw [show pSort [PV.tup []] = some [PV.tup []] by unfold pSort; rw [if_pos rfl]] at hs
    cases hs
    obtain ⟨u, rfl⟩ : ∃ u, its = [u] := by
      cases he with
      | cons _ h => cases h; exact ⟨_, rfl⟩
    have hrd : ∃ as, Reads s.heap u (.tuple []) as := by
      have this := each_reads I (fun p hp => by obtain rfl := List.mem_singleton.mp hp; rfl) he
      cases this with
      | cons h1 h2 => simpa only [PV.toD, toDs] using h1
    exact sorted_one pl.isList hrd (by omega) (fin [u] rfl he)
  · unfold pSort at hs
    rw [if_neg hc] at hs
    split at hs
    · rename_i hk
      obtain ⟨k1, k2, k3⟩ := hk
      have hs' := Option.some.inj hs
      subst hs'
      have er := each_reads I (fun p hp => (k3 p hp).1) he
      have hb : ∀ b, b ∈ ps → X.A.units + 2 + (PV.toD b).depth < cLine := fun b hb => by
        rw [dep_toD]
        have := (k3 b hb).2
        omega
      exact PySem.W.sorted_data (R := RUP X.K X.w H z) (enc := PV.toD) (bs := ps) pl.isList he er k1 k2 hlen hb fin
    · cases hs
theorem ok_sorted : PrOk .sorted rSorted' := by
  intro K w H z ps vs q Q ha h hq
  obtain ⟨a, rfl, g⟩ := one_some h
  clear h
  obtain ⟨x, rfl, h1⟩ := ha.one
  cases a with
  | lst xs =>
    simp only [Option.map_eq_some_iff] at g
    obtain ⟨ys, g, rfl⟩ := g
    obtain ⟨p, us, rfl, s1, s2⟩ := h1.lst
    exact ⟨p, us, xs, ys, z, rfl, s1, s2, g, fun p vs hp hv => hq _ _ (.newL hv hp)⟩
  | _ => cases g
end
end Mi

set_option Elab.async false
set_option linter.all false
set_option maxRecDepth 100000
set_option maxHeartbeats 4000000
/-! Methods' rules. -/
namespace Mi
open PySem PySem.Spec PyProof.Rows L2

section
variable {X : Cx} {H : Hp} {z : Addr → Prop}
theorem TyI.str {y : Str} : TyI X "str" (.str y) H := by
  intro pins s σ v I r
  obtain ⟨t, rfl⟩ := r
  exact ⟨typeIs_str _ _ _, fun _ e => nomatch e⟩
theorem TyI.list {a : Addr} {vs : List V} (h : H a = some (.lst vs)) : TyI X "list" (.ref a) H := by
  intro pins s σ v I r
  cases r
  obtain ⟨its, rv, ⟨o, n, ho, hc, hd, hdt⟩, _⟩ := I.list (.of h)
  refine ⟨⟨o, ho, hc⟩, fun b e => ?_⟩
  cases e
  exact ⟨o, ho, hd⟩
theorem TyI.tup {a : Addr} {vs : List V} (h : TqT X.K H a vs) : TyI X "tuple" (.ref a) H := by
  intro pins s σ v I r
  cases r
  obtain ⟨its, rv, _, n, sl, ho⟩ := TqT.at I h
  refine ⟨⟨_, ho, rfl⟩, fun b e => ?_⟩
  cases e
  exact ⟨_, ho, rfl⟩
theorem TyI.dct {a : Addr} {es : List DictEntry} (h : H a = some (rawO a es)) : TyI X "dict" (.ref a) H := by
  intro pins s σ v I r
  cases r
  obtain ⟨g0, g1, o, ep, g2, g3, g4⟩ := raw_get I h
  refine ⟨⟨o, g2, g3.1⟩, fun b e => ?_⟩
  cases e
  exact ⟨o, g2, g3.2.1⟩
end
section
variable {X : Cx} {G : Gc}
def rJoin' (K : PySem.W.Frag) : V → List V → Hp → VK → Prop := fun x xs H Q => ∃ a p, ∃ ys : List Str, x = .str a ∧ xs = [.ref p] ∧ (SqL K H p (ys.map V.str) ∨ SqT K H p (ys.map V.str)) ∧
    (ys.map (·.length)).sum + ys.length * a.length ≤ 16777216 ∧ Q (.str (Txt.join a ys)) H
theorem m_join (hG : G.K = X.K) : MetOk X G .join "join" := by
  intro q1 x H1 z1 h1 hr
  cases q1 with
  | str a =>
    cases h1
    refine ⟨"str", _, rJoin' X.K, ⟨F.plainAttrs_str, F.slot_str_join, F.type_str_join, mt_join⟩, .str, ?_⟩
    intro xs H2 Q q ps z res ht hx hxs hres hq
    obtain ⟨s, t, e, g⟩ := two_some hres
    cases e
    obtain ⟨y, rfl, hy⟩ := hxs.one
    cases q with
    | str a' =>
      have ea : V.str a = V.str a' := hx
      cases ea
      simp only [pJoin] at g
      split at g
      · rename_i ys ey
        split at g
        · rename_i hl
          cases g
          obtain ⟨us, e1, e2⟩ := Option.bind_eq_some_iff.mp ey
          have es : t = .tup us ∨ t = .lst us := by
            cases t with
            | tup us => cases e1; exact .inl rfl
            | lst us => cases e1; exact .inr rfl
            | _ => cases e1
          obtain ⟨p, vs, rfl, s1, s2⟩ := hy.seq es
          rw [strs_of e2 s2] at s1
          exact ⟨a, p, ys, rfl, rfl, by rw [← hG]; exact s1, hl, hq _ _ .str⟩
        · cases g
      · cases g
    | _ => simp [PV.tag] at ht
  | _ => simp [PV.tag, Pr.recv] at hr
def rSplit' : V → List V → Hp → VK → Prop := fun x xs H Q => ∃ a b, x = .str a ∧ xs = [.str b] ∧ (b.length == 0) = false ∧ a.length + 2 ≤ sizeLine ∧ rNewStrs (Txt.split a b) H Q
theorem R0s_strs {K : PySem.W.Frag} {w : World} {H : Hp} {z : Addr → Prop} : ∀ ys : List Str, R0s K w H z (ys.map PV.str) (ys.map V.str)
  | [] => rfl
  | y :: ys => ⟨_, _, rfl, rfl, R0s_strs ys⟩
theorem m_split : MetOk X G .split "split" := by
  intro q1 x H1 z1 h1 hr
  cases q1 with
  | str a =>
    cases h1
    refine ⟨"str", _, rSplit', ⟨F.plainAttrs_str, F.slot_str_split, F.type_str_split, mt_split⟩, .str, ?_⟩
    intro xs H2 Q q ps z res ht hx hxs hres hq
    obtain ⟨s, t, e, g⟩ := two_some hres
    cases e
    obtain ⟨y, rfl, hy⟩ := hxs.one
    cases q with
    | str a' =>
      have ea : V.str a = V.str a' := hx
      cases ea
      cases t with
      | str b =>
        simp only [pSplit] at g
        split at g
        · rename_i hl
          cases g; cases hy
          exact ⟨a, b, rfl, rfl, beq_eq_false_iff_ne.mpr hl.1, hl.2, fun p hp => hq _ _ (.newL (R0s_strs _) hp)⟩
        · cases g
      | _ => cases g
    | _ => simp [PV.tag] at ht
  | _ => simp [PV.tag, Pr.recv] at hr
/-! ### index -/
theorem idx_map (f : PyData → Bool) : ∀ ds : List PyData, (ds.map f).idxOf true = ds.findIdx f
  | [] => rfl
  | d :: ds => by
    rw [List.map_cons, List.idxOf_cons, List.findIdx_cons, idx_map f ds]
    cases f d <;> rfl
theorem idx_toDs (x : PyData) : ∀ xs : List PV, (toDs xs).findIdx (fun z => PyData.eqv z x) = xs.findIdx fun y => PyData.eqv y.toD x
  | [] => by simp only [toDs, List.findIdx_nil]
  | y :: ys => by simp only [toDs, List.findIdx_cons, idx_toDs x ys]
theorem toDs_length : ∀ xs : List PV, (toDs xs).length = xs.length
  | [] => by simp only [toDs, List.length_nil]
  | y :: ys => by simp only [toDs, List.length_cons, toDs_length ys]
theorem reads_nth {h : Heap} : ∀ {its : List Value} {ds : List PyData} {as : List Addr}, ReadsAll h its ds as → ∀ (j : Nat) (h1 : j < its.length) (h2 : j < ds.length), ∃ e, e = ds[j] ∧ ∃ cs, Reads h its[j] e cs
  | _, _, _, .cons r rs, 0, _, _ => ⟨_, rfl, _, r⟩
  | _, _, _, .cons r rs, j + 1, h1, h2 => reads_nth rs j (Nat.lt_of_succ_lt_succ h1) (Nat.lt_of_succ_lt_succ h2)
theorem items_eq {s : Shared} {A : Around} (hu : A.units + 65 < cLine) {its : List Value} {ds : List PyData} {as bs : List Addr} {v : Value} {d : PyData} (ha : ReadsAll s.heap its ds as) (r1 : Reads s.heap v d bs) (nd : noD d = true) (nds : noDs ds = true) (hm : d.depth ≤ 60) :
    SeqAt.ItemsEq A.in1 s its (ds.map fun z => PyData.eqv z d) v true := by
  refine ⟨by rw [List.length_map]; exact SeqAt.ReadsAll.length _ _ _ ha, fun j h1 h2 => ?_⟩
  rw [List.length_map] at h2
  obtain ⟨e, me, cs, r2⟩ := reads_nth ha j h1 h2
  have hu' : A.in1.units = A.units + 1 := by rfl
  have q := eq_at e d A.in1 s its[j] v cs bs r2 r1 (noDs_mem nds (by rw [me]; exact List.getElem_mem h2)) nd (by rw [hu']; have := Nat.min_le_right e.depth d.depth; omega)
  have e1 : decide ((ds.map fun z => PyData.eqv z d)[j]'(by rw [List.length_map]; exact h2) = true) = PyData.eqv e d := by
    rw [List.getElem_map, me]
    simp
  rw [e1]
  exact q
def rIdxN (K : PySem.W.Frag) (T : Bool) : V → List V → Hp → VK → Prop := fun x xs H Q => ∃ a y d ds vs, x = .ref a ∧ xs = [y] ∧ (if T then SqT K H a vs else SqL K H a vs) ∧ DpAll K H vs ds ∧ Dp K H y d ∧ noDs ds = true ∧ noD d = true ∧ d.depth ≤ 60 ∧
  ds.findIdx (fun z => PyData.eqv z d) < ds.length ∧ Q (.int (ds.findIdx fun z => PyData.eqv z d : Nat)) H
theorem mt_idxL (hu : X.A.units + 65 < cLine) : MtR X "list.index" (rIdxN X.K false) := by
  intro pins s σ H x xs v us Q I rx rxs h
  obtain ⟨a, y, d, ds, vs, rfl, rfl, hs, hd, hy, n1, n2, n3, hj, q⟩ := h
  cases rx
  obtain ⟨u, rfl, ry⟩ := vals1 rxs
  obtain ⟨its, rv, pl, hz⟩ := I.list hs
  obtain ⟨as, ha⟩ := Dp.readsAll I _ _ _ hd rv
  obtain ⟨bs, r1⟩ := Dp.reads I _ _ _ hy ry
  have ie := items_eq hu ha r1 n2 n1 n3
  have hl := ie.1
  refine SeqAt.call_list_index pl.isList ie (by rw [← hl, ← rv.length]; exact hz) (List.idxOf_lt_length_iff.mp ?_) ?_
  · rw [idx_map, List.length_map]; exact hj
  · rw [idx_map]; exact ⟨.int _, H, I.tok _, ⟨_, rfl⟩, q⟩
theorem mt_idxT (hu : X.A.units + 65 < cLine) : MtR X "tuple.index" (rIdxN X.K true) := by
  intro pins s σ H x xs v us Q I rx rxs h
  obtain ⟨a, y, d, ds, vs, rfl, rfl, hs, hd, hy, n1, n2, n3, hj, q⟩ := h
  cases rx
  obtain ⟨u, rfl, ry⟩ := vals1 rxs
  obtain ⟨its, rv, pl, hz⟩ := I.tuple hs
  obtain ⟨as, ha⟩ := Dp.readsAll I _ _ _ hd rv
  obtain ⟨bs, r1⟩ := Dp.reads I _ _ _ hy ry
  have ie := items_eq hu ha r1 n2 n1 n3
  refine SeqAt.call_tuple_index pl ie (List.idxOf_lt_length_iff.mp ?_) ?_
  · rw [idx_map, List.length_map]; exact hj
  · rw [idx_map]; exact ⟨.int _, H, I.tok _, ⟨_, rfl⟩, q⟩
theorem m_index (hG : G.K = X.K) (hu : X.A.units + 65 < cLine) : MetOk X G .index "index" := by
  intro q1 x H1 z1 h1 hr
  have core : ∀ (T : Bool) (H2 : Hp) (Q : VK) (xs : List PV) (z : Addr → Prop) (a : Addr) (vs : List V) (ys : List V) (t res : PV), (if T then SqT X.K H2 a vs else SqL X.K H2 a vs) → R0s G.K G.w H2 z xs vs → A1s G.K G.w H2 z [t] ys →
      (if t.eqOk && xs.all PV.eqOk then (if (xs.findIdx fun y => pvEq y t) < xs.length then some (PV.int (xs.findIdx fun y => pvEq y t : Nat)) else none) else none) = some res → (∀ v H', ResOk G.K G.w H2 z (mkTm Pr.index.fresh res) v H' → Q v H') → rIdxN X.K T (.ref a) ys H2 Q := by
    intro T H2 Q xs z a vs ys t res hs hr hy g hq
    obtain ⟨y, rfl, hy'⟩ := hy.one
    split at g
    · rename_i e
      rw [Bool.and_eq_true] at e
      split at g
      · rename_i hj
        cases g
        obtain ⟨d1, d2, d3⟩ := eqOk_dp hy' e.1
        obtain ⟨g1, g2⟩ := eqOks_dp hr e.2
        rw [hG] at d1 g1
        refine ⟨a, y, t.toD, toDs xs, vs, rfl, rfl, hs, g1, d1, g2, d2, d3, ?_, ?_⟩
        · rw [idx_toDs, toDs_length]; exact hj
        · rw [idx_toDs]; exact hq _ _ .int
      · cases g
    · cases g
  cases q1 with
  | tup xs0 =>
    obtain ⟨a, vs, rfl, s1, s2⟩ := id h1
    refine ⟨"tuple", _, rIdxN X.K true, ⟨F.plainAttrs_tuple, F.slot_tuple_index, F.type_tuple_index, mt_idxT hu⟩, .tup (by rw [← hG]; exact s1), ?_⟩
    intro ys H2 Q q ps z res ht hx hxs hres hq
    obtain ⟨s, t, e, g⟩ := two_some hres
    cases e
    cases q with
    | tup xs =>
      obtain ⟨a', vs', e, s3, s4⟩ := id hx
      cases e
      exact core true H2 Q xs z a vs' ys t res (by rw [← hG]; exact s3.sq) s4 hxs g hq
    | _ => simp [PV.tag] at ht
  | lst xs0 =>
    obtain ⟨a, vs, rfl, s1, s2⟩ := id h1
    refine ⟨"list", _, rIdxN X.K false, ⟨F.plainAttrs_list, F.slot_list_index, F.type_list_index, mt_idxL hu⟩, .list s1, ?_⟩
    intro ys H2 Q q ps z res ht hx hxs hres hq
    obtain ⟨s, t, e, g⟩ := two_some hres
    cases e
    cases q with
    | lst xs =>
      obtain ⟨a', vs', e, s3, s4⟩ := id hx
      cases e
      exact core false H2 Q xs z a vs' ys t res (.of s3) s4 hxs g hq
    | _ => simp [PV.tag] at ht
  | _ => simp [PV.tag, Pr.recv] at hr
theorem m_get1 (hG : G.K = X.K ∧ G.w = X.w) (hu : X.A.units + 65 < cLine) : MetOk X G .get1 "get" := by
  intro q1 x H1 z1 h1 hr
  cases q1 with
  | dct ks0 =>
    obtain ⟨a, es, rfl, s1, s2⟩ := id h1
    refine ⟨"dict", _, rDGet X.K X.w, ⟨F.plainAttrs_dict, F.slot_dict_get, F.type_dict_get, mt_dGet (by omega)⟩, .dct s1, ?_⟩
    intro ys H2 Q q ps z res ht hx hxs hres hq
    obtain ⟨s, t, e, g⟩ := two_some hres
    cases e
    obtain ⟨y, rfl, hy⟩ := hxs.one
    cases q with
    | dct ks =>
      have g' : (if keyLike t ks then some ((dGet ks t).getD .non) else none) = some res := g
      split at g'
      · rename_i hk
        cases g'
        rw [hG.1, hG.2] at hx hy hq
        refine ⟨z, ks, t, y, hx, keyOk_R0 hy hk, hk, .inl ⟨rfl, fun v hv => hq v H2 (?_ : ResOk X.K X.w H2 z (mkTm false _) v H2)⟩⟩
        rw [mkTm_false]
        refine .flat ?_
        cases e : dGet ks t with
        | none => rw [e] at hv; exact hv
        | some p => rw [e] at hv; exact hv
      · cases g'
    | _ => simp [PV.tag] at ht
  | _ => simp [PV.tag, Pr.recv] at hr
theorem m_get2 (hG : G.K = X.K ∧ G.w = X.w) (hu : X.A.units + 65 < cLine) : MetOk X G .get2 "get" := by
  intro q1 x H1 z1 h1 hr
  cases q1 with
  | dct ks0 =>
    obtain ⟨a, es, rfl, s1, s2⟩ := id h1
    refine ⟨"dict", _, rDGet X.K X.w, ⟨F.plainAttrs_dict, F.slot_dict_get, F.type_dict_get, mt_dGet (by omega)⟩, .dct s1, ?_⟩
    intro ys H2 Q q ps z res ht hx hxs hres hq
    obtain ⟨s, t, dd, e, g⟩ := three_some hres
    cases e
    obtain ⟨y, d, rfl, hy, hd⟩ := hxs.two
    cases q with
    | dct ks =>
      obtain ⟨n1, n2, g'⟩ : (∀ xs, dd ≠ .lst xs) ∧ (∀ ks, dd ≠ .dct ks) ∧ (if keyLike t ks then some ((dGet ks t).getD dd) else none) = some res := by
        cases dd with
        | lst _ => cases g
        | dct _ => cases g
        | _ => exact ⟨(fun _ e => nomatch e), (fun _ e => nomatch e), g⟩
      split at g'
      · rename_i hk
        cases g'
        rw [hG.1, hG.2] at hx hy hq hd
        refine ⟨z, ks, t, y, hx, keyOk_R0 hy hk, hk, .inr ⟨d, rfl, fun v hv => hq v H2 (?_ : ResOk X.K X.w H2 z (mkTm false _) v H2)⟩⟩
        rw [mkTm_false]
        refine .flat ?_
        cases e : dGet ks t with
        | none => rw [e] at hv; subst hv; exact A1s.toR0 hd n1 n2
        | some p => rw [e] at hv; exact hv
      · cases g'
    | _ => simp [PV.tag] at ht
  | _ => simp [PV.tag, Pr.recv] at hr
end
end Mi

set_option Elab.async false
set_option linter.all false
set_option maxRecDepth 100000
set_option maxHeartbeats 4000000
/-! Stores into dicts; dict(pairs). -/
namespace Mi
open PySem PySem.Spec PyProof.Rows L2

theorem put_keys {ks : List (PV × PV)} {k p : PV} : (dPut ks k p).map (·.1) = kPut (ks.map (·.1)) k := by
  have e : (ks.any fun q => decide (q.1 = k)) = decide (k ∈ ks.map (·.1)) := by
    induction ks with
    | nil => rfl
    | cons q ks ih =>
      rw [List.any_cons, ih, List.map_cons]
      by_cases h : q.1 = k
      · simp [h]
      · simp [h, Ne.symm h]
  unfold dPut kPut
  rw [e]
  by_cases h : k ∈ ks.map (·.1)
  · simp only [h, decide_true, if_true]
    rw [List.map_map]
    apply List.map_congr_left
    intro q _
    simp only [Function.comp]
    split <;> rfl
  · simp only [h, decide_false, if_false, Bool.false_eq_true, List.map_append]
    rfl
section
variable {K : PySem.W.Frag} {w : World} {H : Hp} {z : Addr → Prop}
theorem VLs.app : ∀ {ps qs : List PV} {us us' : List Value}, VLs K w H z ps us → VLs K w H z qs us' → VLs K w H z (ps ++ qs) (us ++ us')
  | [], _, _, _, h, g => by cases h; exact g
  | p :: ps, _, _, _, h, g => by
    obtain ⟨u, us1, rfl, h1, h2⟩ := h
    exact ⟨u, _, rfl, h1, VLs.app h2 g⟩
theorem VLs.put {ks : List (PV × PV)} {us : List Value} {k p : PV} {u : Value} (h : VLs K w H z (ks.map (·.2)) us) (hu : ∃ v, RelV v u ∧ R0 K w H z p v) :
    VLs K w H z ((dPut ks k p).map (·.2)) (vPut (ks.map (·.1)) us k u) := by
  have e : (ks.any fun q => decide (q.1 = k)) = decide (k ∈ ks.map (·.1)) := by
    clear h
    induction ks with
    | nil => rfl
    | cons q ks ih =>
      rw [List.any_cons, ih, List.map_cons]
      by_cases h : q.1 = k
      · simp [h]
      · simp [h, Ne.symm h]
  unfold dPut vPut
  rw [e]
  by_cases hm : k ∈ ks.map (·.1)
  · simp only [hm, decide_true, if_true]
    clear hm e
    induction ks generalizing us with
    | nil => cases h; exact rfl
    | cons q ks ih =>
      obtain ⟨u1, us', rfl, h1, h2⟩ := h
      refine ⟨_, _, rfl, ?_, ih h2⟩
      by_cases hq : q.1 = k
      · simp only [hq, if_true]; exact hu
      · simp only [hq, if_false]; exact h1
  · simp only [hm, decide_false, if_false, Bool.false_eq_true, List.map_append]
    exact h.app ⟨u, [], rfl, hu, rfl⟩
theorem kPut_nodup {ks : List PV} {k : PV} (h : ks.Nodup) : (kPut ks k).Nodup := by
  unfold kPut
  split
  · exact h
  · rename_i hk
    exact List.nodup_append.mpr ⟨h, by simp, fun a ha b hb => by obtain rfl := List.mem_singleton.mp hb; exact fun e => hk (e ▸ ha)⟩
theorem kPut_mem {ks : List PV} {k : PV} {P : PV → Prop} (h : ∀ q ∈ ks, P q) (hk : P k) : ∀ q ∈ kPut ks k, P q := by
  unfold kPut
  split
  · exact h
  · intro q hq
    rcases List.mem_append.mp hq with hq | hq
    · exact h q hq
    · rw [List.mem_singleton.mp hq]; exact hk
theorem fold_keys (P : PV → Prop) : ∀ {ps d : List (PV × PV)}, (∀ q ∈ d.map (·.1), P q) → (∀ q ∈ ps.map (·.1), P q) → (d.map (·.1)).Nodup →
    (∀ q ∈ (ps.foldl (fun d q => dPut d q.1 q.2) d).map (·.1), P q) ∧ ((ps.foldl (fun d q => dPut d q.1 q.2) d).map (·.1)).Nodup
  | [], d, h, _, nd => ⟨h, nd⟩
  | q :: ps, d, h, hp, nd => by
    rw [List.foldl_cons]
    exact fold_keys P (by rw [put_keys]; exact kPut_mem h (hp _ List.mem_cons_self)) (fun x hx => hp x (List.mem_cons_of_mem _ hx)) (by rw [put_keys]; exact kPut_nodup nd)
theorem dPut_length (d : List (PV × PV)) (k p : PV) : (dPut d k p).length ≤ d.length + 1 := by
  unfold dPut
  split
  · simp
  · simp
theorem fold_length : ∀ (ps d : List (PV × PV)), (ps.foldl (fun d q => dPut d q.1 q.2) d).length ≤ d.length + ps.length
  | [], d => Nat.le_refl _
  | q :: ps, d => by
    rw [List.foldl_cons]
    have h1 := fold_length ps (dPut d q.1 q.2)
    have h2 := dPut_length d q.1 q.2
    simp only [List.length_cons]
    omega
/-- pairs merged, keys by value -/
theorem flat_merge : ∀ {ps d : List (PV × PV)} {us us0 : List Value}, VLs K w H z (d.map (·.2)) us0 → VLs K w H z (ps.map (·.2)) us → (∀ q ∈ d.map (·.1), flatK q) → (∀ q ∈ ps.map (·.1), flatK q) →
    ∃ us1, merged (flatKvs (d.map (·.1)) us0) (flatKvs (ps.map (·.1)) us) = flatKvs ((ps.foldl (fun d q => dPut d q.1 q.2) d).map (·.1)) us1 ∧ VLs K w H z ((ps.foldl (fun d q => dPut d q.1 q.2) d).map (·.2)) us1
  | [], d, us, us0, h0, h, f0, f => by cases h; exact ⟨us0, rfl, h0⟩
  | q :: ps, d, us, us0, h0, h, f0, f => by
    obtain ⟨u, us', rfl, h1, h2⟩ := h
    have fq := f q.1 List.mem_cons_self
    obtain ⟨us1, g1, g2⟩ := flat_merge (ps := ps) (d := dPut d q.1 q.2) (h0.put (k := q.1) h1) h2 (by rw [put_keys]; exact kPut_mem f0 fq) fun x hx => f x (List.mem_cons_of_mem _ hx)
    refine ⟨us1, ?_, g2⟩
    rw [List.foldl_cons, ← g1, put_keys]
    show List.foldl _ (stored (flatKvs (d.map (·.1)) us0) (skOf q.1) u) (flatKvs (ps.map (·.1)) us') = _
    rw [flat_stored (by have := h0.length; rw [List.length_map] at this ⊢; exact this) f0 fq]
    rfl
end
section
variable {X : Cx} {pins : List (Addr × Obj)} {σ : L2.St} {H : Hp} {s : Shared} {z : Addr → Prop} {K : PySem.W.Frag}
theorem tupXs_back : ∀ {ks : List PV} {l : List (NestedKey × Addr × Value)}, l.map (·.1) = ks.map nkOf → tupXs ks (l.map (entryOfKey (nestedKind X.prog X.w))) = l
  | [], l, h => by
    have : l = [] := by simpa using h
    subst this
    rfl
  | k :: ks, [], h => by simp at h
  | k :: ks, x :: l, h => by
    simp only [List.map_cons, List.cons.injEq] at h
    unfold tupXs
    rw [List.map_cons, List.zip_cons_cons, List.map_cons]
    have := tupXs_back h.2
    unfold tupXs at this
    rw [this]
    obtain ⟨a, b, c⟩ := x
    simp only at h
    simp only [entryOfKey, addrOf, ← h.1]
theorem storedH_keys {l : List (NestedKey × Addr × Value)} {ks : List PV} {k : PV} {b : Addr} {u : Value} (h : l.map (·.1) = ks.map nkOf) (hk : ∀ q ∈ ks, q.key? = some (nkOf q)) (hk' : k.key? = some (nkOf k)) : (storedH l (nkOf k) b u).map (·.1) = (kPut ks k).map nkOf := by
  have mem : (atKey l (nkOf k)).isSome = decide (k ∈ ks) := by
    have e1 : (atKey l (nkOf k)).isSome = decide (nkOf k ∈ l.map (·.1)) := by
      unfold atKey
      induction l generalizing ks with
      | nil => rfl
      | cons x l ih =>
        cases ks with
        | nil => simp at h
        | cons q ks =>
          simp only [List.map_cons, List.cons.injEq] at h
          rw [List.find?_cons, List.map_cons]
          by_cases e : x.1 = nkOf k
          · simp [e]
          · simp only [decide_eq_false e]
            rw [ih h.2 fun q hq => hk q (List.mem_cons_of_mem _ hq)]
            simp [Ne.symm e]
    rw [e1, h]
    congr 1
    apply propext
    constructor
    · intro hm
      obtain ⟨q, hq, e⟩ := List.mem_map.mp hm
      have := key_inj (hk q hq) (by rw [e]; exact hk')
      exact this ▸ hq
    · intro hm
      exact List.mem_map.mpr ⟨k, hm, rfl⟩
  unfold storedH kPut
  rw [mem]
  by_cases hm : k ∈ ks
  · simp only [hm, decide_true, if_true]
    rw [← h, List.map_map]
    apply List.map_congr_left
    intro x _
    simp only [Function.comp, putAt]
    split <;> rfl
  · simp only [hm, decide_false, if_false, Bool.false_eq_true, List.map_append, h]
    rfl
theorem pairs_parts {K : PySem.W.Frag} {w : World} : ∀ {xs : List PV} {ks : List (PV × PV)} {us : List V}, pairs? xs = some ks → R0s K w H z xs us → ∃ ps : List Addr, us = ps.map V.ref ∧ ps.length = ks.length ∧
    ∀ (j : Nat) (a : Addr) (q : PV × PV), ps[j]? = some a → ks[j]? = some q → ∃ k v, TqT K H a [k, v] ∧ R0 K w H z q.1 k ∧ R0 K w H z q.2 v
  | [], ks, us, e, h => by
    simp only [pairs?, Option.some.injEq] at e
    subst e
    cases h
    exact ⟨[], rfl, rfl, fun j a q e => by simp at e⟩
  | x :: xs, ks, us, e, h => by
    obtain ⟨v, us', rfl, h1, h2⟩ := h
    obtain ⟨k, p, rfl⟩ : ∃ k p, x = .tup [k, p] := by
      unfold pairs? at e
      split at e
      · rename_i e2; cases e2
      · rename_i k p _ e2; cases e2; exact ⟨k, p, rfl⟩
      · cases e
    simp only [pairs?, Option.map_eq_some_iff] at e
    obtain ⟨ks', e, rfl⟩ := e
    obtain ⟨ps, rfl, g1, g2⟩ := pairs_parts e h2
    obtain ⟨a, vs, rfl, t1, t2⟩ := h1
    obtain ⟨kv, _, rfl, r1, pv, _, rfl, r2, rfl⟩ := t2
    refine ⟨a :: ps, rfl, by simp [g1], fun j b q e1 e2 => ?_⟩
    cases j with
    | zero =>
      simp only [List.getElem?_cons_zero, Option.some.injEq] at e1 e2
      subst e1 e2
      exact ⟨kv, pv, t1, r1, r2⟩
    | succ j => exact g2 j b q (by simpa using e1) (by simpa using e2)
/-- the pairs' keys and values in the heap -/
theorem pairs_heap (I : Inv X pins σ H s) : ∀ {ps : List Addr} {ks : List (PV × PV)}, ps.length = ks.length → (∀ (j : Nat) (a : Addr) (q : PV × PV), ps[j]? = some a → ks[j]? = some q → ∃ k v, TqT X.K H a [k, v] ∧ R0 X.K X.w H z q.1 k ∧ R0 X.K X.w H z q.2 v) →
    ∃ kus us : List Value, kus.length = ks.length ∧ us.length = ks.length ∧ (∀ (j : Nat) (a : Addr) (k u : Value), ps[j]? = some a → kus[j]? = some k → us[j]? = some u → IsTup s.heap a #[k, u]) ∧ VLs X.K X.w H z (ks.map (·.1)) kus ∧ VLs X.K X.w H z (ks.map (·.2)) us
  | [], [], _, _ => ⟨[], [], rfl, rfl, fun j a k u e => by simp at e, rfl, rfl⟩
  | p :: ps, q :: ks, hl, h => by
    obtain ⟨kus, us, l1, l2, g1, g2, g3⟩ := pairs_heap I (ps := ps) (ks := ks) (by simpa using hl) fun j a x e1 e2 => h (j + 1) a x (by simpa using e1) (by simpa using e2)
    obtain ⟨k, v, t, r1, r2⟩ := h 0 p q rfl rfl
    obtain ⟨its, rv, ht, _⟩ := I.tuple t.sq
    obtain ⟨ku, u, rfl, rk, ru⟩ := vals2 rv
    refine ⟨ku :: kus, u :: us, by simp [l1], by simp [l2], fun j a x y e1 e2 e3 => ?_, ⟨ku, kus, rfl, ⟨k, rk, r1⟩, g2⟩, ⟨u, us, rfl, ⟨v, ru, r2⟩, g3⟩⟩
    cases j with
    | zero =>
      simp only [List.getElem?_cons_zero, Option.some.injEq] at e1 e2 e3
      subst e1 e2 e3
      exact ht
    | succ j => exact g1 j a x y (by simpa using e1) (by simpa using e2) (by simpa using e3)
def likeKs (ks : List (PV × PV)) : Bool := match ks with | [] => true | q :: _ => keyLike q.1 ks
def rDictP' : RP := fun K w vs H Q => ∃ a us xs ks z, vs = [.ref a] ∧ H a = some (.lst us) ∧ R0s K w H z xs us ∧ pairs? xs = some ks ∧ likeKs ks = true ∧
  ∀ p es, H p = none → R0k K w H z (ks.foldl (fun d q => dPut d q.1 q.2) []) es → ((ks.foldl (fun d q => dPut d q.1 q.2) []).map (·.1)).Nodup → Q (.ref p) (upd H p (rawO p es))
theorem likeKs_parts {ks : List (PV × PV)} (h : likeKs ks = true) : (∀ q ∈ ks.map (·.1), q.key? = some (nkOf q) ∧ q.dep ≤ 7) ∧ ((∀ q ∈ ks.map (·.1), q.isTup = true) ∨ ∀ q ∈ ks.map (·.1), flatK q) := by
  cases ks with
  | nil => exact ⟨(fun q hq => absurd hq (by simp)), .inr (fun q hq => absurd hq (by simp))⟩
  | cons x ks =>
    have h' : keyLike x.1 (x :: ks) = true := h
    obtain ⟨a1, a2, a3⟩ := keyLike_parts h'
    refine ⟨fun q hq => ?_, a3.imp (fun e => e.2) fun e => e.2⟩
    obtain ⟨y, hy, rfl⟩ := List.mem_map.mp hq
    have hy' : keyLike y.1 [] = true := by
      unfold keyLike at h' ⊢
      rw [Bool.and_eq_true, List.all_eq_true] at h'
      have g := h'.2 y hy
      rw [Bool.and_eq_true] at g
      simp [g.1]
    exact ⟨(keyLike_parts hy').1, (keyLike_parts hy').2.1⟩
theorem VLs.get {K : PySem.W.Frag} {w : World} : ∀ {ps : List PV} {us : List Value} {j : Nat} {u : Value}, VLs K w H z ps us → us[j]? = some u → ∃ p v, ps[j]? = some p ∧ RelV v u ∧ R0 K w H z p v
  | [], _, _, _, h, e => by cases h; simp at e
  | p :: ps, _, 0, u, h, e => by
    obtain ⟨u1, us', rfl, ⟨v, r1, r2⟩, h2⟩ := h
    simp only [List.getElem?_cons_zero, Option.some.injEq] at e
    subst e
    exact ⟨p, v, rfl, r1, r2⟩
  | p :: ps, _, j + 1, u, h, e => by
    obtain ⟨u1, us', rfl, h1, h2⟩ := h
    obtain ⟨q, v, a1, a2⟩ := VLs.get (j := j) h2 (by simpa using e)
    exact ⟨q, v, by simpa using a1, a2⟩
/-- pairs merged, keys that are tuples -/
def prs3 (ks : List (PV × PV)) (kus us : List Value) : List (NestedKey × Addr × Value) := (ks.zip (kus.zip us)).map fun q => (nkOf q.1.1, addrOf q.2.1, q.2.2)
theorem tup_merge {K : PySem.W.Frag} : ∀ {ks d : List (PV × PV)} {l : List (NestedKey × Addr × Value)} {kus us : List Value}, l.map (·.1) = (d.map (·.1)).map nkOf → KEs K X.w H z (d.map (·.1)) (l.map (entryOfKey (nestedKind X.prog X.w))) → VLs K X.w H z (d.map (·.2)) (l.map (·.2.2)) →
    VLs K X.w H z (ks.map (·.1)) kus → VLs K X.w H z (ks.map (·.2)) us → (∀ q ∈ d.map (·.1), q.isTup = true) → (∀ q ∈ ks.map (·.1), q.isTup = true) → (∀ q ∈ ks.map (·.1), q.key? = some (nkOf q) ∧ q.dep ≤ 7) →
    ∃ l1, storedAllH l (prs3 ks kus us) = l1 ∧ KEs K X.w H z ((ks.foldl (fun d q => dPut d q.1 q.2) d).map (·.1)) (l1.map (entryOfKey (nestedKind X.prog X.w))) ∧ VLs K X.w H z ((ks.foldl (fun d q => dPut d q.1 q.2) d).map (·.2)) (l1.map (·.2.2))
  | [], d, l, kus, us, h1, h2, h3, h4, h5, h6, h7, h8 => by
    cases h4
    exact ⟨l, rfl, h2, h3⟩
  | q :: ks, d, l, kus, us, h1, h2, h3, h4, h5, h6, h7, h8 => by
    obtain ⟨ku, kus', rfl, ⟨kv, rk, r0⟩, h4⟩ := h4
    obtain ⟨u, us', rfl, ru, h5⟩ := h5
    have t0 := h7 q.1 List.mem_cons_self
    have k0 := h8 q.1 List.mem_cons_self
    have r0 : R0 K X.w H z q.1 kv := r0
    obtain ⟨b, rfl⟩ : ∃ b, kv = .ref b := by
      cases e : q.1 with
      | tup xs => rw [e] at r0; obtain ⟨a, _, rfl, _⟩ := r0; exact ⟨a, rfl⟩
      | _ => rw [e] at t0; simp [PV.isTup] at t0
    cases rk
    obtain ⟨es', e1, e2, e3⟩ := tup_stored (X := X) (k := q.1) (b := b) (u := u) h2 h6 r0 k0.1 k0.2
    rw [tupXs_back h1] at e1
    have hl : (storedH l (nkOf q.1) b u).map (·.1) = ((dPut d q.1 q.2).map (·.1)).map nkOf := by
      rw [put_keys]
      exact storedH_keys h1 h2.keys k0.1
    subst e1
    have hv : VLs K X.w H z ((dPut d q.1 q.2).map (·.2)) ((storedH l (nkOf q.1) b u).map (·.2.2)) := by
      have e4 : ∀ l : List (NestedKey × Addr × Value), (l.map (entryOfKey (nestedKind X.prog X.w))).map (·.val) = l.map (·.2.2) := fun l => by rw [List.map_map]; rfl
      rw [e4, e4] at e3
      rw [e3]
      exact h3.put ru
    obtain ⟨l1, f1, f2, f3⟩ := tup_merge (ks := ks) (d := dPut d q.1 q.2) hl (by rw [put_keys]; exact e2) hv h4 h5 (by rw [put_keys]; exact kPut_mem h6 t0) (fun x hx => h7 x (List.mem_cons_of_mem _ hx)) fun x hx => h8 x (List.mem_cons_of_mem _ hx)
    exact ⟨l1, f1, f2, f3⟩
theorem cl_dictP (hc : X.calm = true) (hu : X.A.units + 65 < cLine) : CallP X (.type "dict") rDictP' := by
  intro pins s σ H xs us Q I r h
  obtain ⟨a, us1, ps, ks, z, rfl, ha, hr, hp, hl, q⟩ := h
  obtain ⟨u, rfl, rx⟩ := vals1 r
  cases rx
  obtain ⟨as, rfl, l1, g⟩ := pairs_parts hp hr
  obtain ⟨kus, us, l2, l3, g1, g2, g3⟩ := pairs_heap I l1 g
  obtain ⟨its, rv, pl, hz⟩ := I.list (.of ha)
  have ei := refs_at rv
  subst ei
  rw [List.length_map] at hz
  obtain ⟨k1, k2⟩ := likeKs_parts hl
  have hm : (s.heap.objs.size == sysModules) = false := beq_eq_false_iff_ne.mpr (Nat.ne_of_gt I.big)
  have hlen : (ks.foldl (fun d q => dPut d q.1 q.2) []).length ≤ sizeLine := by
    have := fold_length ks []
    simp only [List.length_nil] at this
    omega
  -- from what lies in the heap to the answer
  have fin : ∀ (h' : Heap) (tk : Nat) (es : List DictEntry) (o : Obj) (ep : Nat), (∀ b ob, s.heap.get? b = some ob → h'.get? b = some ob) → h'.get? s.heap.objs.size = some o → o.ExactDict → o.data = .dict es.toArray ep →
      KEs X.K X.w H z ((ks.foldl (fun d q => dPut d q.1 q.2) []).map (·.1)) es → VLs X.K X.w H z ((ks.foldl (fun d q => dPut d q.1 q.2) []).map (·.2)) (es.map (·.val)) → EP X pins σ Q (.ref s.heap.objs.size) { s with heap := h', toks := tk } := by
    intro h' tk es o ep k h1 h2 h3 h4 h5
    have nd := (fold_keys (fun _ => True) (ps := ks) (d := []) (fun _ _ => trivial) (fun _ _ => trivial) List.nodup_nil).2
    refine ⟨.ref s.heap.objs.size, upd H s.heap.objs.size (rawO s.heap.objs.size es), I.laid (t' := tk) k (Nat.le_refl _) (raw_ok hm ?_ h1 h2 h3), rfl, q _ es (I.hok.fresh (Nat.le_refl _)) (R0k_iff.mpr ⟨h4, h5⟩) nd⟩
    have := h4.length
    rw [List.length_map] at this
    omega
  -- the argument as pairs
  obtain ⟨o, n, ho, hcl, hd, hdat⟩ := pl
  let Ts : Nat → Addr := fun j => as.getD j 0
  let prs : List (Value × Value) := kus.zip us
  have hpl : prs.length = ks.length := by simp [prs, l2, l3]
  have hpi : PairItems s.heap (as.map Value.ref).toArray Ts prs := by
    refine ⟨by rw [List.size_toArray, List.length_map, hpl, l1], fun j k v hj => ?_⟩
    have hj' : j < ks.length := by rw [← hpl]; exact (List.getElem?_eq_some_iff.mp hj).1
    obtain ⟨e1, e2⟩ := List.getElem?_zip_eq_some.mp hj
    have ea : as[j]? = some as[j] := List.getElem?_eq_getElem (by omega)
    have eT : Ts j = as[j] := by simp [Ts, List.getD_eq_getElem?_getD, ea]
    refine ⟨by simp [eT, ea], ?_⟩
    rw [eT]
    exact .inl (g1 j _ k v ea e1 e2)
  have P := PairArg.list (prog := X.prog) (w := X.w) a (as.map Value.ref).toArray Ts prs
  have ok : PlainSeq "list" s.heap a (as.map Value.ref).toArray ∧ PairItems s.heap (as.map Value.ref).toArray Ts prs := ⟨⟨o, n, ho, hcl, hd, hdat⟩, hpi⟩
  have keyAt : ∀ (i : Nat) (key v : Value), prs[i]? = some (key, v) → ∃ (q : PV × PV) (kv : V), ks[i]? = some q ∧ us[i]? = some v ∧ kus[i]? = some key ∧ RelV kv key ∧ R0 X.K X.w H z q.1 kv ∧ q.1.key? = some (nkOf q.1) ∧ q.1.dep ≤ 7 := by
    intro i key v e
    obtain ⟨e1, e2⟩ := List.getElem?_zip_eq_some.mp e
    obtain ⟨p, kv, f1, f2, f3⟩ := g2.get e1
    rw [List.getElem?_map, Option.map_eq_some_iff] at f1
    obtain ⟨q, f1, rfl⟩ := f1
    obtain ⟨m1, m2⟩ := k1 q.1 (List.mem_map.mpr ⟨q, List.mem_of_getElem? f1, rfl⟩)
    exact ⟨q, kv, f1, e2, e1, f2, f3, m1, m2⟩
  rcases k2 with k2 | k2
  · refine call_dict_pairsH (knd := nestedKind X.prog X.w) (ps := prs3 ks kus us) P (I.ok.hd hc) (show X.A.units + 1 + 1 + 8 < cLine by omega) ok ⟨by simp [prs3, prs, l2, l3], fun i key v e => ?_⟩ ?_ (by rw [hpl]; omega) fun h' tk hd' k => ?_
    · obtain ⟨q, kv, f1, f2, f3, f4, f5, f6, f7⟩ := keyAt i key v e
      have t0 := k2 q.1 (List.mem_map.mpr ⟨q, List.mem_of_getElem? f1, rfl⟩)
      obtain ⟨b, b1, b2, _⟩ := (kval I f5 f4 f6 f7).1 t0
      subst b2
      refine ⟨nkOf q.1, b, ?_, rfl⟩
      have e0 : (ks.zip (kus.zip us))[i]? = some (q, .ref b, v) := List.getElem?_zip_eq_some.mpr ⟨f1, List.getElem?_zip_eq_some.mpr ⟨f3, f2⟩⟩
      unfold prs3
      rw [List.getElem?_map, e0]
      rfl
    · intro h' hk x hx
      unfold prs3 at hx
      obtain ⟨⟨q, ku, u⟩, hq, rfl⟩ := List.mem_map.mp hx
      obtain ⟨i, hi⟩ := List.mem_iff_getElem?.mp hq
      obtain ⟨f1, f2⟩ := List.getElem?_zip_eq_some.mp hi
      obtain ⟨q', kv, c1, c2, c3, c4, c5, c6, c7⟩ := keyAt i ku u f2
      rw [f1] at c1
      cases c1
      have t0 := k2 q.1 (List.mem_map.mpr ⟨q, List.mem_of_getElem? f1, rfl⟩)
      obtain ⟨b, b1, b2, b3⟩ := (kval I c5 c4 c6 c7).1 t0
      subst b2
      exact ⟨NestedIs.at (fun c oc vs n hc _ => hk c oc (Nat.ne_of_lt (Heap.lt_size hc)) (fun m => nomatch m) hc) _ _ b3.1, b3.2⟩
    · obtain ⟨o', es, ep, d1, d2, d3, d4, d5, d6⟩ := hd'
      obtain ⟨lr, m1, m2, m3⟩ := tup_merge (X := X) (ks := ks) (d := []) (l := []) (K := X.K) (H := H) (z := z) rfl rfl rfl g2 g3 (fun q hq => absurd hq (by simp)) k2 k1
      rw [m1] at d4
      refine fin h' tk es.toList o' ep (fun b ob hb => k b ob (fun m => nomatch m) hb) d1 d2 (by rw [Array.toArray_toList]; exact d3) (by rw [d4]; exact m2) ?_
      rw [d4, List.map_map]
      exact m3
  · refine call_dict_pairs (knd := mixKind X.prog X.w) (kvs := flatKvs (ks.map (·.1)) us) P (I.ok.hd hc) ok ⟨by simp [flatKvs, prs, l2, l3], fun i key v e => ?_⟩ (by rw [hpl]; omega) fun h' tk hd' k => ?_
    · obtain ⟨q, kv, f1, f2, f3, f4, f5, f6, f7⟩ := keyAt i key v e
      refine ⟨skOf q.1, ?_, (kval I f5 f4 f6 f7).2 (k2 q.1 (List.mem_map.mpr ⟨q, List.mem_of_getElem? f1, rfl⟩))⟩
      have e0 : ((ks.map (·.1)).zip us)[i]? = some (q.1, v) := List.getElem?_zip_eq_some.mpr ⟨by rw [List.getElem?_map, f1]; rfl, f2⟩
      unfold flatKvs
      rw [List.getElem?_map, e0]
      rfl
    · obtain ⟨o', es, ep, d1, d2, d3, d4, d5, d6⟩ := hd'
      obtain ⟨us1, m1, m2⟩ := flat_merge (K := X.K) (w := X.w) (H := H) (z := z) (ps := ks) (d := []) (us0 := []) rfl g3 (fun q hq => absurd hq (by simp)) k2
      have m1' : merged [] (flatKvs (ks.map (·.1)) us) = flatKvs ((ks.foldl (fun (d : List (PV × PV)) (q : PV × PV) => dPut d q.1 q.2) []).map (·.1)) us1 := m1
      rw [m1'] at d5
      have fl := (fold_keys flatK (ps := ks) (d := []) (fun q hq => absurd hq (by simp)) k2 List.nodup_nil).1
      obtain ⟨b1, b2⟩ := flat_back (X := X) (K := X.K) (H := H) (z := z) (by have := m2.length; rw [List.length_map] at this ⊢; exact this) fl d5 (fun e he => d4 e (by simpa using he))
      exact fin h' tk es.toList o' ep (fun b ob hb => k b ob (fun m => nomatch m) hb) d1 d2 (by rw [Array.toArray_toList]; exact d3) b1 (by rw [b2]; exact m2)
theorem ok_dictP : PrOk .dictP rDictP' := by
  intro K w H z ps vs q Q ha h hq
  obtain ⟨a, rfl, g⟩ := one_some h
  clear h
  obtain ⟨x, rfl, h1⟩ := ha.one
  unfold pDictP at g
  split at g
  · split at g
    · rename_i _ xs _ ks e
      have g' : (if likeKs ks = true then some (PV.dct (ks.foldl (fun d q => dPut d q.1 q.2) [])) else none) = some q := g
      split at g'
      · rename_i hl
        cases g'
        obtain ⟨p, us, rfl, s1, s2⟩ := h1.lst
        refine ⟨p, us, xs, ks, z, rfl, s1, s2, e, hl, fun p es hp hr nd => hq _ _ ⟨.fresh hp, p, hp, ?_⟩⟩
        simp only [RO]
        exact ⟨p, es, [], rfl, upd_same, .of0 (hr.kp (S := fun _ => False) (.fresh hp) (fun _ x => x.elim) (fun _ x => x.elim) fun _ x => x), nd, rfl⟩
      · cases g'
    · cases g
  · cases g
end
end Mi

set_option Elab.async false
set_option linter.all false
set_option maxRecDepth 100000
set_option maxHeartbeats 4000000
/-! Names, constants, displays, tests. -/
namespace Mi
open PySem PySem.Spec PyProof.Rows L2

/-! ### slots taken and put -/
theorem erase_perm {α : Type} : ∀ {L : List α} {i : Nat} {e : α}, L[i]? = some e → L.Perm (e :: L.eraseIdx i)
  | [], _, _, h => by simp at h
  | a :: L, 0, e, h => by simp at h; subst h; exact .refl _
  | a :: L, i + 1, e, h => by
    simp only [List.getElem?_cons_succ] at h
    exact ((erase_perm h).cons a).trans (.swap _ _ _)
theorem set_perm {α : Type} : ∀ {L : List α} {i : Nat} (x : α), i < L.length → (L.set i x).Perm (x :: L.eraseIdx i)
  | [], _, _, h => by simp at h
  | a :: L, 0, x, h => .refl _
  | a :: L, i + 1, x, h => ((set_perm x (Nat.lt_of_succ_lt_succ h)).cons a).trans (.swap _ _ _)
section
variable {K : PySem.W.Frag} {w : World} {H : Hp} {L R : List Ent} {i : Nat} {e x : Ent}
theorem Stt.out (st : Stt K w H (L ++ R)) (h : L[i]? = some e) : Stt K w H (e :: (L.eraseIdx i ++ R)) := st.perm ((erase_perm h).append_right R)
theorem Stt.put (st : Stt K w H (x :: (L.eraseIdx i ++ R))) (h : i < L.length) : Stt K w H (L.set i x ++ R) := st.perm ((set_perm x h).append_right R).symm
/-- an empty place -/
def eU (v : Option V) : Ent := ⟨v, .u, [], fun _ => False⟩
theorem Stt.addU {es : List Ent} (v : Option V) (st : Stt K w H es) : Stt K w H (eU v :: es) := by
  refine ⟨fun e m => ?_, by simpa [eU] using st.nd, fun e m q a ha f mf => ?_⟩
  · rcases List.mem_cons.mp m with rfl | m
    · exact ⟨fun _ h => h.elim, rfl⟩
    · exact st.ok e m
  · rcases List.mem_cons.mp m with rfl | m
    · cases ha
    · rcases List.mem_cons.mp mf with rfl | mf
      · exact fun h => h
      · exact st.nz e m q a ha f mf
/-- what was ours is shared from here on -/
theorem Stt.fz {es : List Ent} {v : V} {d : Nat} {p : PV} {fp : List Addr} {z : Addr → Prop} (st : Stt K w H (⟨some v, .o d p, fp, z⟩ :: es)) : Stt K w H (⟨some v, .v p, [], fun a => z a ∨ a ∈ fp⟩ :: es) := by
  obtain ⟨dm, u, e1, r⟩ := st.ok _ List.mem_cons_self
  cases e1
  have ow := Ent.ok.own (st.ok _ List.mem_cons_self)
  refine st.tail.addV r.froz (fun a ha => ?_) fun f mf q a ha hz => ?_
  · rcases ha with ha | ha
    · exact dm a ha
    · exact (ow a ha).some
  · rcases hz with hz | hz
    · exact st.nz f (List.mem_cons_of_mem _ mf) q a ha _ List.mem_cons_self hz
    · have nd := st.nd
      rw [List.flatMap_cons] at nd
      exact (List.nodup_append.mp nd).2.2 a hz a (List.mem_flatMap.mpr ⟨f, mf, ha⟩) rfl
/-- a shared value twice -/
theorem Stt.dup {es : List Ent} {v : V} {p : PV} {fp : List Addr} {z : Addr → Prop} (st : Stt K w H es) (m : ⟨some v, .v p, fp, z⟩ ∈ es) : Stt K w H (⟨some v, .v p, [], z⟩ :: es) := by
  obtain ⟨dm, _, u, e1, r⟩ := st.ok _ m
  cases e1
  exact st.addV r dm fun f mf q a ha => st.nz f mf q a ha _ m
end
section
variable {σ : L2.St} {ρ : Evn} {L : List Ent} {i : Nat} {e x : Ent}
theorem set_same {α : Type} : ∀ {L : List α} {i : Nat} {e : α}, L[i]? = some e → L.set i e = L
  | [], _, _, h => by simp at h
  | a :: L, 0, e, h => by simp at h; subst h; rfl
  | a :: L, i + 1, e, h => by simp only [List.getElem?_cons_succ] at h; simp only [List.set_cons_succ, set_same h]
theorem Loc.set (l : Loc σ ρ L) (h : L[i]? = some e) (hv : x.v = e.v) : Loc σ (ρ.set i x.s) (L.set i x) := by
  obtain ⟨l1, l2⟩ := l
  refine ⟨?_, ?_⟩
  · rw [List.map_set, hv, l1]
    exact set_same (by rw [← l1, List.getElem?_map, h]; rfl)
  · rw [List.map_set, l2]
end
theorem lt_of_get {α : Type} {L : List α} {i : Nat} {e : α} (h : L[i]? = some e) : i < L.length := (List.getElem?_eq_some_iff.mp h).1

section
variable {F : Type} {call : F → List Sl → CR} {G : Gc} {W : WX} {X : Cx} {i : Nat} {x : Str} {pos : Pos}
/-- a name's value -/
theorem name_core {E : Ex F} (hv : ∀ σ H Q, tE G W call E σ H Q → tVar i σ H Q) (hN : X.N[i]? = some x) (hl : Vis X.env.scope x) (hd : (x == ("__debug__" : Str)) = false) (hcd : (x == ("__classdict__" : Str)) = false) : PE X (.Name x pos) (tE G W call E) :=
  (pe_var hN hl hd hcd).imp hv
theorem var_core {σ : L2.St} {H : Hp} {Q : VK} (q : tE G W call (.var i) σ H Q) : tVar i σ H Q := by
  obtain ⟨ρ, L, Θ, l, st, o⟩ := q
  simp only [evE] at o
  cases h : ρ.at i with
  | u => rw [h] at o; exact o.elim
  | b d p => rw [h] at o; exact o.elim
  | v p =>
    rw [h] at o
    obtain ⟨⟨ev, es, ef, ez⟩, e1, rfl, e3⟩ := l.ent h (by intro z; cases z)
    obtain ⟨_, _, v, e4, _⟩ := st.ok _ (List.mem_append_left _ (List.mem_of_getElem? e1))
    cases e4
    refine ⟨v, e3, o v H L [⟨some v, .v p, [], ez⟩] l ⟨ez, rfl⟩ ?_⟩
    exact (st.dup (List.mem_append_left _ (List.mem_of_getElem? e1))).perm List.perm_middle.symm
  | o d p =>
    rw [h] at o
    obtain ⟨⟨ev, es, ef, ez⟩, e1, rfl, e3⟩ := l.ent h (by intro z; cases z)
    obtain ⟨_, v, e4, _⟩ := st.ok _ (List.mem_append_left _ (List.mem_of_getElem? e1))
    cases e4
    exact ⟨v, e3, o v H L [] l ⟨e3, rfl⟩ st⟩
  | l d p =>
    rw [h] at o
    obtain ⟨⟨ev, es, ef, ez⟩, e1, rfl, e3⟩ := l.ent h (by intro z; cases z)
    obtain ⟨_, v, e4, _⟩ := st.ok _ (List.mem_append_left _ (List.mem_of_getElem? e1))
    cases e4
    exact ⟨v, e3, o v H L [] l ⟨e3, rfl⟩ st⟩
theorem mv_core {σ : L2.St} {H : Hp} {Q : VK} (q : tE G W call (.mv i) σ H Q) : tVar i σ H Q := by
  obtain ⟨ρ, L, Θ, l, st, o⟩ := q
  simp only [evE] at o
  cases h : ρ.at i with
  | u => rw [h] at o; exact o.elim
  | b d p => rw [h] at o; exact o.elim
  | l d p => rw [h] at o; exact o.elim
  | v p =>
    rw [h] at o
    obtain ⟨⟨ev, es, ef, ez⟩, e1, rfl, e3⟩ := l.ent h (by intro z; cases z)
    obtain ⟨_, _, v, e4, _⟩ := st.ok _ (List.mem_append_left _ (List.mem_of_getElem? e1))
    cases e4
    refine ⟨v, e3, o v H L [⟨some v, .v p, [], ez⟩] l ⟨ez, rfl⟩ ?_⟩
    exact (st.dup (List.mem_append_left _ (List.mem_of_getElem? e1))).perm List.perm_middle.symm
  | o d p =>
    rw [h] at o
    obtain ⟨⟨ev, es, ef, ez⟩, e1, rfl, e3⟩ := l.ent h (by intro z; cases z)
    obtain ⟨_, v, e4, _⟩ := st.ok _ (List.mem_append_left _ (List.mem_of_getElem? e1))
    cases e4
    refine ⟨v, e3, o v H (L.set i (eU (some v))) [⟨some v, .o d p, ef, ez⟩] (l.set e1 rfl) ⟨_, _, rfl⟩ ?_⟩
    refine Stt.put (x := eU (some v)) ?_ (lt_of_get e1)
    refine ((st.out e1).addU (some v)).perm (.cons _ ?_)
    exact List.perm_middle.symm
theorem fz_core {σ : L2.St} {H : Hp} {Q : VK} (q : tE G W call (.fz i) σ H Q) : tVar i σ H Q := by
  obtain ⟨ρ, L, Θ, l, st, o⟩ := q
  simp only [evE] at o
  cases h : ρ.at i with
  | u => rw [h] at o; exact o.elim
  | b d p => rw [h] at o; exact o.elim
  | l d p => rw [h] at o; exact o.elim
  | v p =>
    rw [h] at o
    obtain ⟨⟨ev, es, ef, ez⟩, e1, rfl, e3⟩ := l.ent h (by intro z; cases z)
    obtain ⟨_, _, v, e4, _⟩ := st.ok _ (List.mem_append_left _ (List.mem_of_getElem? e1))
    cases e4
    refine ⟨v, e3, o v H L [⟨some v, .v p, [], ez⟩] l ⟨ez, rfl⟩ ?_⟩
    exact (st.dup (List.mem_append_left _ (List.mem_of_getElem? e1))).perm List.perm_middle.symm
  | o d p =>
    rw [h] at o
    obtain ⟨⟨ev, es, ef, ez⟩, e1, rfl, e3⟩ := l.ent h (by intro z; cases z)
    obtain ⟨_, v, e4, _⟩ := st.ok _ (List.mem_append_left _ (List.mem_of_getElem? e1))
    cases e4
    have s1 := (st.out e1).fz
    refine ⟨v, e3, o v H (L.set i ⟨some v, .v p, [], fun a => ez a ∨ a ∈ ef⟩) [⟨some v, .v p, [], fun a => ez a ∨ a ∈ ef⟩] (l.set e1 rfl) ⟨_, rfl⟩ ?_⟩
    refine Stt.put (x := ⟨some v, .v p, [], fun a => ez a ∨ a ∈ ef⟩) ?_ (lt_of_get e1)
    exact (s1.dup List.mem_cons_self).perm ((List.Perm.swap _ _ _).trans (.cons _ List.perm_middle.symm))
theorem io_core {σ : L2.St} {H : Hp} {Q : VK} (q : tE G W call (.io i) σ H Q) : tVar i σ H Q := by
  obtain ⟨ρ, L, Θ, l, st, o⟩ := q
  simp only [evE] at o
  cases h : ρ.at i with
  | u => rw [h] at o; exact o.elim
  | b d p => rw [h] at o; exact o.elim
  | l d p => rw [h] at o; exact o.elim
  | v p => rw [h] at o; exact o.elim
  | o d p =>
    rw [h] at o
    obtain ⟨⟨ev, es, ef, ez⟩, e1, rfl, e3⟩ := l.ent h (by intro z; cases z)
    obtain ⟨_, v, e4, _⟩ := st.ok _ (List.mem_append_left _ (List.mem_of_getElem? e1))
    cases e4
    exact ⟨v, e3, o v H L [] l ⟨e3, rfl⟩ st⟩
theorem tE_v {σ : L2.St} {H : Hp} {Q : VK} {E : Ex F} {p : PV} {v : V} (he : ∀ ρ, evE call E ρ = .ok (.v p) ρ) (hr : R0 G.K G.w H (fun _ => False) p v) (q : tE G W call E σ H Q) : Q v H := by
  obtain ⟨ρ, L, Θ, l, st, o⟩ := q
  rw [he] at o
  refine o v H L [⟨some v, .v p, [], fun _ => False⟩] l ⟨_, rfl⟩ ?_
  exact (st.addV hr (fun _ h => h.elim) fun _ _ _ _ _ h => h).perm List.perm_middle.symm
theorem f_int {k : Int} {j : Nat} : PE X (.Constant (.int k) j pos) (tE G W call (.c (.int k))) := pe_int.imp fun σ H Q q => tE_v (p := .int k) (fun ρ => by simp only [evE] <;> rfl) rfl q
theorem f_bl {k : Bool} {j : Nat} : PE X (.Constant (.bool k) j pos) (tE G W call (.c (.bl k))) := pe_bl.imp fun σ H Q q => tE_v (p := .bl k) (fun ρ => by simp only [evE] <;> rfl) rfl q
theorem f_str {k : Str} {j : Nat} : PE X (.Constant (.str k) j pos) (tE G W call (.c (.str k))) := pe_str.imp fun σ H Q q => tE_v (p := .str k) (fun ρ => by simp only [evE] <;> rfl) rfl q
theorem f_non {j : Nat} : PE X (.Constant .none j pos) (tE G W call (.c .non)) := pe_non.imp fun σ H Q q => tE_v (p := .non) (fun ρ => by simp only [evE] <;> rfl) rfl q
/-- a module's constant -/
def GlR (G : Gc) (mg : Str → Option Value) (x : Str) (p : PV) : Prop := ∃ u v, mg x = some u ∧ RelV v u ∧ ∀ H, R0 G.K G.w H (fun _ => False) p v
theorem f_gl {p : PV} (hg : Gl X x) (h : GlR G X.mg x p) (hd : (x == ("__debug__" : Str)) = false) : PE X (.Name x pos) (tE G W call (.gl x p)) := by
  obtain ⟨u, v, hm, r, hr⟩ := h
  exact (pe_glob hg hm r hd).imp fun σ H Q q => tE_v (p := p) (fun ρ => by simp only [evE]) (hr H) q
end
end Mi

set_option Elab.async false
set_option linter.all false
set_option maxRecDepth 100000
set_option maxHeartbeats 4000000
/-! Displays, tests. -/
namespace Mi
open PySem PySem.Spec PyProof.Rows L2

section
variable {K : PySem.W.Frag} {w : World} {H : Hp} {σ : L2.St}
/-- f and z can join what is held -/
structure Hold (H : Hp) (es : List Ent) (z : Addr → Prop) (f : List Addr) : Prop where
  dom : ∀ a, z a → ∃ o, H a = some o
  own : ∀ a ∈ f, Own (H a)
  nd : f.Nodup
  ex : ∀ e ∈ es, e.s.excl = true → ∀ a ∈ e.fp, ¬ z a
  fr : ∀ a ∈ f, ¬ z a ∧ ∀ e ∈ es, a ∉ e.fp ∧ ¬ e.z a
theorem hold_one {t : Tm} {v : V} {Te es : List Ent} {d : Nat} {p : PV} (st : Stt K w H (Te ++ es)) (r : TmE σ t v Te) (h : t.dn d = some p) :
    ∃ z f, RO K w H z d p v f ∧ (∀ a, z a → (∃ e ∈ Te, e.z a ∨ (e.s.excl = true ∧ a ∈ e.fp))) ∧ (∀ a ∈ f, ∃ e ∈ Te, e.s.excl = true ∧ a ∈ e.fp) ∧ Hold H es z f := by
  cases t with
  | s i => cases d <;> cases h
  | m i d2 p2 => cases d <;> cases h
  | v q =>
    obtain ⟨z, rfl⟩ := r
    cases d with
    | succ d => cases h
    | zero =>
      cases h
      obtain ⟨dm, _, u, e1, r0⟩ := st.ok _ List.mem_cons_self
      cases e1
      refine ⟨z, [], RO_zero.mpr ⟨r0, rfl⟩, fun a ha => ⟨_, List.mem_cons_self, .inl ha⟩, (fun a ha => by cases ha), ⟨dm, (fun a ha => by cases ha), List.nodup_nil, fun e m x a ha => st.nz e (List.mem_cons_of_mem _ m) x a ha _ List.mem_cons_self, (fun a ha => by cases ha)⟩⟩
  | o d' q =>
    obtain ⟨fp, z, rfl⟩ := r
    obtain ⟨dm, u, e1, r0⟩ := st.ok _ List.mem_cons_self
    cases e1
    have ow := Ent.ok.own (st.ok _ List.mem_cons_self)
    have nd := st.nd
    rw [List.singleton_append, List.flatMap_cons] at nd
    obtain ⟨nd1, nd2, nd3⟩ := List.nodup_append.mp nd
    obtain ⟨rfl, hd⟩ : q = p ∧ d ≤ d' + 1 := by
      cases d with
      | zero => cases h; exact ⟨rfl, Nat.zero_le _⟩
      | succ n =>
        simp only [Tm.dn] at h
        split at h
        · cases h; exact ⟨rfl, by omega⟩
        · cases h
    obtain ⟨fp', g, hp, r1⟩ := RO.less hd r0
    have nd4 := (hp.nodup_iff).mp nd1
    obtain ⟨n1, n2, n3⟩ := List.nodup_append.mp nd4
    have m1 : ∀ a ∈ fp', a ∈ fp := fun a ha => hp.mem_iff.mpr (List.mem_append_left _ ha)
    have m2 : ∀ a ∈ g, a ∈ fp := fun a ha => hp.mem_iff.mpr (List.mem_append_right _ ha)
    have dis : ∀ a ∈ fp, ∀ e ∈ es, a ∉ e.fp := fun a ha e me he => nd3 a ha a (List.mem_flatMap.mpr ⟨e, me, he⟩) rfl
    refine ⟨_, fp', r1, fun a ha => ⟨_, List.mem_cons_self, ha.imp id fun q => ⟨rfl, m2 a q⟩⟩, fun a ha => ⟨_, List.mem_cons_self, rfl, m1 a ha⟩, ⟨fun a ha => ha.elim (dm a) fun q => (ow a (m2 a q)).some, fun a ha => ow a (m1 a ha), n1, ?_, ?_⟩⟩
    · intro e me x a ha hz
      rcases hz with hz | hz
      · exact st.nz e (List.mem_cons_of_mem _ me) x a ha _ List.mem_cons_self hz
      · exact dis a (m2 a hz) e me ha
    · intro a ha
      refine ⟨fun hz => ?_, fun e me => ⟨dis a (m1 a ha) e me, st.nz _ List.mem_cons_self rfl a (m1 a ha) e (List.mem_cons_of_mem _ me)⟩⟩
      rcases hz with hz | hz
      · exact st.nz _ List.mem_cons_self rfl a (m1 a ha) _ List.mem_cons_self hz
      · exact n3 a ha a hz rfl
theorem mapM_cons {α β : Type} {f : α → Option β} {a : α} {as : List α} {bs : List β} (h : (a :: as).mapM f = some bs) : ∃ b bs', f a = some b ∧ as.mapM f = some bs' ∧ bs = b :: bs' := by
  rw [List.mapM_cons] at h
  obtain ⟨b, h1, h2⟩ := Option.bind_eq_some_iff.mp h
  obtain ⟨bs', h3, h4⟩ := Option.bind_eq_some_iff.mp h2
  cases h4
  exact ⟨b, bs', h1, h3, rfl⟩
theorem ROs.len {z : Addr → Prop} : ∀ {d : Nat} {ps : List PV} {vs : List V} {f : List Addr}, ROs K w H z d ps vs f → vs.length = ps.length
  | _, [], _, _, h => by simp only [ROs] at h; rw [h.1]; rfl
  | d, p :: ps, _, _, h => by
    simp only [ROs] at h
    obtain ⟨v, vs', f, f', rfl, h1, h2, _⟩ := h
    simp [ROs.len h2]
theorem hold_all : ∀ {ts : List Tm} {vs : List V} {Te es : List Ent} {d : Nat} {ps : List PV}, Stt K w H (Te ++ es) → TmsE σ ts vs Te → ts.mapM (Tm.dn d) = some ps →
    ∃ z f, ROs K w H z d ps vs f ∧ (∀ a, z a → (∃ e ∈ Te, e.z a ∨ (e.s.excl = true ∧ a ∈ e.fp))) ∧ (∀ a ∈ f, ∃ e ∈ Te, e.s.excl = true ∧ a ∈ e.fp) ∧ Hold H es z f
  | [], vs, Te, es, d, ps, st, r, h => by
    obtain ⟨rfl, rfl⟩ := r
    simp only [List.mapM_nil, Option.pure_def, Option.some.injEq] at h
    subst h
    refine ⟨fun _ => False, [], ?_, (fun a h => h.elim), (fun a ha => by cases ha), ⟨(fun a h => h.elim), (fun a ha => by cases ha), List.nodup_nil, (fun _ _ _ _ _ h => h), (fun a ha => by cases ha)⟩⟩
    simp only [ROs]
    exact ⟨trivial, trivial⟩
  | t :: ts, vs, Te, es, d, ps, st, r, h => by
    obtain ⟨v, vs', e1, Te', rfl, rfl, r1, r2⟩ := r
    obtain ⟨p, ps', h1, h2, rfl⟩ := mapM_cons h
    rw [List.append_assoc] at st
    obtain ⟨z1, f1, o1, a1, b1, H1⟩ := hold_one st r1 h1
    obtain ⟨z2, f2, o2, a2, b2, H2⟩ := hold_all (es := e1 ++ es) (st.perm (by rw [← List.append_assoc, ← List.append_assoc]; exact List.perm_append_comm.append_right es)) r2 h2
    refine ⟨fun a => z1 a ∨ z2 a, f1 ++ f2, ?_, ?_, ?_, ⟨?_, ?_, ?_, ?_, ?_⟩⟩
    · simp only [ROs]
      exact ⟨v, vs', f1, f2, rfl, o1.zone fun _ => .inl, o2.zone fun _ => .inr, rfl⟩
    · rintro a (ha | ha)
      · obtain ⟨e, m, q⟩ := a1 a ha; exact ⟨e, List.mem_append_left _ m, q⟩
      · obtain ⟨e, m, q⟩ := a2 a ha; exact ⟨e, List.mem_append_right _ m, q⟩
    · intro a ha
      rcases List.mem_append.mp ha with ha | ha
      · obtain ⟨e, m, q⟩ := b1 a ha; exact ⟨e, List.mem_append_left _ m, q⟩
      · obtain ⟨e, m, q⟩ := b2 a ha; exact ⟨e, List.mem_append_right _ m, q⟩
    · rintro a (ha | ha)
      · exact H1.dom a ha
      · exact H2.dom a ha
    · intro a ha
      rcases List.mem_append.mp ha with ha | ha
      · exact H1.own a ha
      · exact H2.own a ha
    · refine List.nodup_append.mpr ⟨H1.nd, H2.nd, fun a ha b hb e => ?_⟩
      subst e
      obtain ⟨e, m, _, q⟩ := b1 a ha
      exact ((H2.fr a hb).2 e (List.mem_append_left _ m)).1 q
    · rintro e m x a ha (hz | hz)
      · exact H1.ex e (List.mem_append_right _ m) x a ha hz
      · exact H2.ex e (List.mem_append_right _ m) x a ha hz
    · intro a ha
      rcases List.mem_append.mp ha with ha | ha
      · obtain ⟨c1, c2⟩ := H1.fr a ha
        refine ⟨fun hz => hz.elim c1 fun hz => ?_, fun e m => c2 e (List.mem_append_right _ m)⟩
        obtain ⟨e, m, x, q⟩ := b1 a ha
        exact H2.ex e (List.mem_append_left _ m) x a q hz
      · obtain ⟨c1, c2⟩ := H2.fr a ha
        refine ⟨fun hz => hz.elim (fun hz => ?_) c1, fun e m => c2 e (List.mem_append_right _ m)⟩
        obtain ⟨e, m, q⟩ := a1 a hz
        rcases q with q | ⟨x, q⟩
        · exact (c2 e (List.mem_append_left _ m)).2 q
        · exact (c2 e (List.mem_append_left _ m)).1 q
/-- a shared value joins -/
theorem Hold.addV {es : List Ent} {z : Addr → Prop} {p : PV} {v : V} (h : Hold H es z []) (st : Stt K w H es) (r : R0 K w H z p v) : Stt K w H (⟨some v, .v p, [], z⟩ :: es) := st.addV r h.dom h.ex
theorem Hold.addO {es : List Ent} {z : Addr → Prop} {d : Nat} {p : PV} {v : V} {f : List Addr} (h : Hold H es z f) (st : Stt K w H es) (r : RO K w H z (d + 1) p v f) : Stt K w H (⟨some v, .o d p, f, z⟩ :: es) := st.addO r h.nd h.dom h.ex h.fr
theorem Hold.ext {H' : Hp} {es : List Ent} {z : Addr → Prop} {f : List Addr} (h : Hold H es z f) (x : Ext H H') : Hold H' es z f :=
  ⟨fun a ha => let ⟨o, e⟩ := h.dom a ha; ⟨o, x.get e⟩, fun a ha => by
    rcases h.own a ha with ⟨xs, e⟩ | ⟨φ, e⟩
    · exact .inl ⟨xs, x.get e⟩
    · exact .inr ⟨φ, x.get e⟩, h.nd, h.ex, h.fr⟩
theorem Hold.new {o : HO} {a : Addr} {es : List Ent} {z : Addr → Prop} {f : List Addr} (h : Hold H es z f) (st : Stt K w H es) (ha : H a = none) (ho : Own (some o)) : Hold (upd H a o) es z (a :: f) := by
  have h' := h.ext (Kp.fresh (o := o) ha)
  have nf : ∀ b, (∃ o, H b = some o) → b ≠ a := fun b ⟨o, e⟩ z => by rw [z, ha] at e; cases e
  refine ⟨h'.dom, fun b hb => ?_, List.nodup_cons.mpr ⟨fun hb => nf a (h.own a hb).some rfl, h.nd⟩, h.ex, fun b hb => ?_⟩
  · rcases List.mem_cons.mp hb with rfl | hb
    · rw [upd_same]; exact ho
    · exact h'.own b hb
  · rcases List.mem_cons.mp hb with rfl | hb
    · refine ⟨fun hz => nf b (h.dom b hz) rfl, fun e m => ⟨fun he => nf b ((st.ok e m).own b he).some rfl, fun hz => nf b ((st.ok e m).1 b hz) rfl⟩⟩
    · exact h.fr b hb
end
section
variable {F : Type} {call : F → List Sl → CR} {G : Gc} {W : WX} {X : Cx} {es : List (Ex F)} {as : List Expr} {pos : Pos}
theorem tup_core {σ : L2.St} {H : Hp} {Q : VK} (q : tE G W call (.tup es) σ H Q) : tTupF (tEs G W call es) σ H Q := by
  have q' : tR G W (fun ρ => (evEs call es ρ).bd fun ts ρ1 => match ts.mapM (Tm.dn 0) with
    | some ps => if ps.length ≤ lim then .ok (.v (.tup ps)) ρ1 else .no
    | none => .no) TmE σ H Q := by
    have e1 : evE call (.tup es) = fun ρ => (evEs call es ρ).bd fun ts ρ1 => match ts.mapM (Tm.dn 0) with
      | some ps => if ps.length ≤ lim then .ok (.v (.tup ps)) ρ1 else .no
      | none => .no := by funext ρ; simp only [evE] <;> rfl
    rw [← e1]; exact q
  refine (tR.thn (rel := TmsE) q').mono fun vs H1 h1 => ?_
  obtain ⟨ts, ρ1, L, Θ, Te, l, r1, st, o⟩ := h1
  cases ha : ts.mapM (Tm.dn 0) with
  | none => rw [ha] at o; exact o.elim
  | some ps =>
    rw [ha] at o
    by_cases hl : ps.length ≤ lim
    · simp only [hl, if_true] at o
      have st1 : Stt G.K G.w H1 (Te ++ (L ++ Θ)) := st.perm (by rw [← List.append_assoc, ← List.append_assoc]; exact List.perm_append_comm.append_right Θ)
      obtain ⟨z, f, ro, _, _, hd⟩ := hold_all st1 r1 ha
      obtain ⟨rfl, r0⟩ := ro.r0
      refine ⟨by rw [r0.length]; exact hl, fun p ob hp hc hdd => ?_⟩
      have x : Ext H1 (upd H1 p (.frz ob (.tup vs))) := Kp.fresh hp
      refine o (.ref p) _ L [⟨some (.ref p), .v (.tup ps), [], z⟩] l ⟨z, rfl⟩ ?_
      refine ((hd.ext x).addV (p := .tup ps) (v := .ref p) (st1.drop.ext x) ⟨p, vs, rfl, .inl ⟨ob, upd_same, hc, hdd⟩, r0.kp (S := fun _ => False) x (fun _ x => x.elim) (fun _ x => x.elim) fun _ x => x⟩).perm List.perm_middle.symm
    · simp only [hl, if_false] at o; exact o.elim
theorem lst_core {d : Nat} {σ : L2.St} {H : Hp} {Q : VK} (q : tE G W call (.lst d es) σ H Q) : tLst (tEs G W call es) σ H Q := by
  have q' : tR G W (fun ρ => (evEs call es ρ).bd fun ts ρ1 => match ts.mapM (Tm.dn d) with
    | some ps => if ps.length ≤ lim then .ok (.o d (.lst ps)) ρ1 else .no
    | none => .no) TmE σ H Q := by
    have e1 : evE call (.lst d es) = fun ρ => (evEs call es ρ).bd fun ts ρ1 => match ts.mapM (Tm.dn d) with
      | some ps => if ps.length ≤ lim then .ok (.o d (.lst ps)) ρ1 else .no
      | none => .no := by funext ρ; simp only [evE] <;> rfl
    rw [← e1]; exact q
  refine (tR.thn (rel := TmsE) q').mono fun vs H1 h1 => ?_
  obtain ⟨ts, ρ1, L, Θ, Te, l, r1, st, o⟩ := h1
  cases ha : ts.mapM (Tm.dn d) with
  | none => rw [ha] at o; exact o.elim
  | some ps =>
    rw [ha] at o
    by_cases hl : ps.length ≤ lim
    · simp only [hl, if_true] at o
      have st1 : Stt G.K G.w H1 (Te ++ (L ++ Θ)) := st.perm (by rw [← List.append_assoc, ← List.append_assoc]; exact List.perm_append_comm.append_right Θ)
      obtain ⟨z, f, ro, _, _, hd⟩ := hold_all st1 r1 ha
      refine ⟨by rw [ro.len]; exact hl, fun p hp => ?_⟩
      have x : Ext H1 (upd H1 p (.lst vs)) := Kp.fresh hp
      refine o (.ref p) _ L [⟨some (.ref p), .o d (.lst ps), p :: f, z⟩] l ⟨_, z, rfl⟩ ?_
      refine ((hd.new st1.drop hp (.inl ⟨vs, rfl⟩)).addO (st1.drop.ext x) ?_).perm List.perm_middle.symm
      simp only [RO]
      exact ⟨p, vs, f, rfl, upd_same, ro.kp (S := fun _ => False) x (fun _ x => x.elim) (fun _ x => x.elim) (fun _ x => x) (fun _ x => x.elim), rfl⟩
    · simp only [hl, if_false] at o; exact o.elim
theorem f_tup {x1} (h : PEs G W call X es as) (hn : noStars as) : PE X (.Tuple as x1 pos) (tE G W call (.tup es)) := (pe_tupF (f_args h hn)).imp fun σ H Q q => tup_core q
theorem f_lst {d : Nat} (h : PEs G W call X es as) (hn : noStars as) : PE X (.List as pos) (tE G W call (.lst d es)) := (pe_lst (f_args h hn)).imp fun σ H Q q => lst_core q
end
end Mi

set_option Elab.async false
set_option linter.all false
set_option maxRecDepth 100000
set_option maxHeartbeats 4000000
/-! Tests. -/
namespace Mi
open PySem PySem.Spec PyProof.Rows L2

section
variable {F : Type} (call : F → List Sl → CR)
abbrev tT (G : Gc) (W : WX) (e : Ex F) : TT := tR G W (fun ρ => tst (evE call e ρ)) BoE
abbrev tAnd' (G : Gc) (W : WX) (es : List (Ex F)) : TT := tR G W (evAnd call es) BoE
abbrev tOr' (G : Gc) (W : WX) (es : List (Ex F)) : TT := tR G W (evOr call es) BoE
end
section
variable {F : Type} {call : F → List Sl → CR} {G : Gc} {W : WX} {X : Cx} {σ : L2.St} {H : Hp}
theorem perm3 {α : Type} (L Te Θ : List α) : (L ++ (Te ++ Θ)).Perm (Te ++ (L ++ Θ)) := by
  rw [← List.append_assoc, ← List.append_assoc]
  exact List.perm_append_comm.append_right Θ
/-- a test is a value that is a bool -/
theorem tT_val {e : Ex F} {Q : Bool → Hp → Prop} (q : tT call G W e σ H Q) : tB (tE G W call e) σ H Q := by
  have q' : tR G W (fun ρ => (evE call e ρ).bd fun t ρ1 => match t with | .v (.bl b) => .ok b ρ1 | _ => .no) BoE σ H Q := q
  refine (tR.thn (rel := TmE) q').mono fun x H1 h1 => ?_
  obtain ⟨t, ρ1, L, Θ, Te, l, r1, st, o⟩ := h1
  split at o
  · rename_i b
    obtain ⟨z, rfl⟩ := r1
    have st' := st.perm (perm3 L _ Θ)
    obtain ⟨_, _, u, e1, e2⟩ := st'.ok _ List.mem_cons_self
    cases e1
    exact ⟨b, e2, o b H1 L [] l ⟨rfl, rfl⟩ st'.tail⟩
  · exact o.elim
theorem tR_eq {α β : Type} {f g : Evn → R α} {rel : L2.St → α → β → List Ent → Prop} {Q : β → Hp → Prop} (h : ∀ ρ, f ρ = g ρ) (q : tR G W f rel σ H Q) : tR G W g rel σ H Q := by
  have e : f = g := funext h
  rw [← e]
  exact q
theorem bo_thn {α β : Type} {f : Evn → R Bool} {h : Bool → Evn → R α} {rel3 : L2.St → α → β → List Ent → Prop} {Q : β → Hp → Prop} (q : tR G W (fun ρ => (f ρ).bd h) rel3 σ H Q) :
    tR G W f BoE σ H fun b H1 => tR G W (fun ρ => h b ρ) rel3 σ H1 Q := by
  refine (tR.thn (rel := BoE) q).mono fun b H1 h1 => ?_
  obtain ⟨a, ρ1, L, Θ, Te, l, ⟨rfl, rfl⟩, st, o⟩ := h1
  exact ⟨ρ1, L, Θ, l, st, o⟩
theorem bo_ok {b : Bool} {Q : Bool → Hp → Prop} (q : tR G W (fun ρ => .ok b ρ) BoE σ H Q) : Q b H := by
  obtain ⟨ρ, L, Θ, l, st, o⟩ := q
  exact o b H L [] l ⟨rfl, rfl⟩ st
theorem bl_ok {b : Bool} {Q : VK} (q : tR G W (fun ρ => .ok (.v (.bl b)) ρ) TmE σ H Q) : Q (.bl b) H := by
  obtain ⟨ρ, L, Θ, l, st, o⟩ := q
  refine o (.bl b) H L [⟨some (.bl b), .v (.bl b), [], fun _ => False⟩] l ⟨_, rfl⟩ ?_
  exact (st.addV (p := .bl b) (v := .bl b) rfl (fun _ h => h.elim) fun _ _ _ _ _ h => h).perm List.perm_middle.symm
theorem and_cons {e : Ex F} {es : List (Ex F)} {Q : Bool → Hp → Prop} (q : tAnd' call G W (e :: es) σ H Q) : tT call G W e σ H fun b H1 => if b = true then tAnd' call G W es σ H1 Q else Q false H1 := by
  have e1 : evAnd call (e :: es) = fun ρ => (tst (evE call e ρ)).bd fun b ρ1 => if b then evAnd call es ρ1 else .ok false ρ1 := by funext ρ; simp only [evAnd]
  have q' : tR G W (fun ρ => (tst (evE call e ρ)).bd fun b ρ1 => if b then evAnd call es ρ1 else .ok false ρ1) BoE σ H Q := by rw [← e1]; exact q
  refine (bo_thn q').mono fun b H1 h => ?_
  cases b with
  | true => exact h
  | false => exact bo_ok h
theorem or_cons {e : Ex F} {es : List (Ex F)} {Q : Bool → Hp → Prop} (q : tOr' call G W (e :: es) σ H Q) : tT call G W e σ H fun b H1 => if b = true then Q true H1 else tOr' call G W es σ H1 Q := by
  have e1 : evOr call (e :: es) = fun ρ => (tst (evE call e ρ)).bd fun b ρ1 => if b then .ok true ρ1 else evOr call es ρ1 := by funext ρ; simp only [evOr]
  have q' : tR G W (fun ρ => (tst (evE call e ρ)).bd fun b ρ1 => if b then .ok true ρ1 else evOr call es ρ1) BoE σ H Q := by rw [← e1]; exact q
  refine (bo_thn q').mono fun b H1 h => ?_
  cases b with
  | true => exact bo_ok h
  | false => exact h
theorem and_nil {Q : Bool → Hp → Prop} (q : tAnd' call G W [] σ H Q) : Q true H := by
  exact bo_ok (tR_eq (fun ρ => by simp only [evAnd]) q)
theorem or_nil {Q : Bool → Hp → Prop} (q : tOr' call G W [] σ H Q) : Q false H := by
  exact bo_ok (tR_eq (fun ρ => by simp only [evOr]) q)
/-- .. as values -/
theorem andV {es : List (Ex F)} {Q : VK} (q : tE G W call (.and es) σ H Q) : tAnd' call G W es σ H fun b H1 => Q (.bl b) H1 := by
  have e1 : evE call (.and es) = fun ρ => (evAnd call es ρ).bd fun b ρ1 => .ok (.v (.bl b)) ρ1 := by funext ρ; simp only [evE]
  have q' : tR G W (fun ρ => (evAnd call es ρ).bd fun b ρ1 => .ok (.v (.bl b)) ρ1) TmE σ H Q := by rw [← e1]; exact q
  exact (bo_thn q').mono fun b H1 h => bl_ok h
theorem orV {es : List (Ex F)} {Q : VK} (q : tE G W call (.or es) σ H Q) : tOr' call G W es σ H fun b H1 => Q (.bl b) H1 := by
  have e1 : evE call (.or es) = fun ρ => (evOr call es ρ).bd fun b ρ1 => .ok (.v (.bl b)) ρ1 := by funext ρ; simp only [evE]
  have q' : tR G W (fun ρ => (evOr call es ρ).bd fun b ρ1 => .ok (.v (.bl b)) ρ1) TmE σ H Q := by rw [← e1]; exact q
  exact (bo_thn q').mono fun b H1 h => bl_ok h
theorem notV {e : Ex F} {Q : VK} (q : tE G W call (.not e) σ H Q) : tT call G W e σ H fun b H1 => Q (.bl (!b)) H1 := by
  have e1 : evE call (.not e) = fun ρ => (tst (evE call e ρ)).bd fun b ρ1 => .ok (.v (.bl (!b))) ρ1 := by funext ρ; simp only [evE]
  have q' : tR G W (fun ρ => (tst (evE call e ρ)).bd fun b ρ1 => .ok (.v (.bl (!b))) ρ1) TmE σ H Q := by rw [← e1]; exact q
  exact (bo_thn q').mono fun b H1 h => bl_ok h
theorem iteV {c a b : Ex F} {Q : VK} (q : tE G W call (.ite c a b) σ H Q) : tT call G W c σ H fun k H1 => if k = true then tE G W call a σ H1 Q else tE G W call b σ H1 Q := by
  have e1 : evE call (.ite c a b) = fun ρ => (tst (evE call c ρ)).bd fun k ρ1 => if k then evE call a ρ1 else evE call b ρ1 := by funext ρ; simp only [evE]
  have q' : tR G W (fun ρ => (tst (evE call c ρ)).bd fun k ρ1 => if k then evE call a ρ1 else evE call b ρ1) TmE σ H Q := by rw [← e1]; exact q
  refine (bo_thn q').mono fun k H1 h => ?_
  cases k with
  | true => exact h
  | false => exact h
/-- a test of a value that is an and, or, not: its own test -/
theorem tst_bl {f : Evn → R Bool} {Q : Bool → Hp → Prop} (q : tR G W (fun ρ => tst ((f ρ).bd fun b ρ1 => .ok (.v (.bl b)) ρ1)) BoE σ H Q) : tR G W f BoE σ H Q := by
  have e1 : (fun ρ => tst ((f ρ).bd fun b ρ1 => .ok (.v (.bl b)) ρ1)) = f := by
    funext ρ
    cases f ρ <;> rfl
  rw [e1] at q
  exact q
theorem tT_and {es : List (Ex F)} {Q : Bool → Hp → Prop} (q : tT call G W (.and es) σ H Q) : tAnd' call G W es σ H Q := by
  exact tst_bl (tR_eq (fun ρ => by simp only [evE]) q)
theorem tT_or {es : List (Ex F)} {Q : Bool → Hp → Prop} (q : tT call G W (.or es) σ H Q) : tOr' call G W es σ H Q := by
  exact tst_bl (tR_eq (fun ρ => by simp only [evE]) q)
theorem tT_not {e : Ex F} {Q : Bool → Hp → Prop} (q : tT call G W (.not e) σ H Q) : tT call G W e σ H fun b H1 => Q (!b) H1 := by
  have q1 : tR G W (fun ρ => (tst (evE call e ρ)).bd fun b ρ1 => .ok (!b) ρ1) BoE σ H Q := tst_bl (tR_eq (fun ρ => by
    simp only [evE]
    cases tst (evE call e ρ) <;> rfl) q)
  exact (bo_thn q1).mono fun b H1 h => bo_ok h
end

/-! ### the pieces -/
section
variable {F : Type} {call : F → List Sl → CR} {G : Gc} {W : WX} {X : Cx}
/-- each is its piece of syntax, as a test -/
def PTs (G : Gc) (W : WX) (call : F → List Sl → CR) (X : Cx) : List (Ex F) → List Expr → Prop
  | [], as => as = []
  | e :: es, as => ∃ a as', as = a :: as' ∧ PT X a (tT call G W e) ∧ PTs G W call X es as'
def plainT : Expr → Bool
  | .Name _ _ | .Call _ _ _ _ | .Subscript _ _ _ | .Constant _ _ _ | .Attribute _ _ _ => true
  | _ => false
theorem plainT_eq {e : Expr} {env : Env} (h : plainT e = true) (whole : Sem Value) : isTrue e env whole = (do let v ← whole; standAt e.pos; holding [v] (truthy v)) := by
  cases e <;> first | rfl | (simp only [plainT] at h; cases h)
theorem t_plain {e : Ex F} {a : Expr} (h : PE X a (tE G W call e)) (hp : plainT a = true) : PT X a (tT call G W e) := (pt_val h (plainT_eq hp)).imp fun σ H Q q => tT_val q
theorem w_and {pos : Pos} : ∀ {es : List (Ex F)} {as : List Expr}, PTs G W call X es as → es ≠ [] → PW X (.BoolOp .And as pos) (tAnd' call G W es)
  | [], _, _, hn => absurd rfl hn
  | [e], _, h, _ => by
    obtain ⟨a, _, rfl, h1, rfl⟩ := h
    refine (pw_and1 h1).imp fun σ H Q q => (and_cons q).mono fun b H1 h => ?_
    cases b with
    | true => exact and_nil h
    | false => exact h
  | e :: e2 :: es, _, h, _ => by
    obtain ⟨a, _, rfl, h1, h2⟩ := h
    have h3 := h2
    obtain ⟨a2, as2, rfl, _⟩ := h3
    refine (pw_and h1 (w_and h2 (by intro e; cases e))).imp fun σ H Q q => and_cons q
theorem w_or {pos : Pos} : ∀ {es : List (Ex F)} {as : List Expr}, PTs G W call X es as → es ≠ [] → PW X (.BoolOp .Or as pos) (tOr' call G W es)
  | [], _, _, hn => absurd rfl hn
  | [e], _, h, _ => by
    obtain ⟨a, _, rfl, h1, rfl⟩ := h
    refine (pw_or1 h1).imp fun σ H Q q => (or_cons q).mono fun b H1 h => ?_
    cases b with
    | true => exact h
    | false => exact or_nil h
  | e :: e2 :: es, _, h, _ => by
    obtain ⟨a, _, rfl, h1, h2⟩ := h
    have h3 := h2
    obtain ⟨a2, as2, rfl, _⟩ := h3
    refine (pw_or h1 (w_or h2 (by intro e; cases e))).imp fun σ H Q q => or_cons q
theorem pt_of_pw {e : Expr} {t : TT} (h : PW X e t) : PT X e t := ⟨fun pins s σ H Q I q => h.run (eval e X.env) pins s σ H Q I q⟩
theorem t_and {es : List (Ex F)} {as : List Expr} {pos : Pos} (h : PTs G W call X es as) (hn : es ≠ []) : PT X (.BoolOp .And as pos) (tT call G W (.and es)) := (pt_of_pw (w_and h hn)).imp fun σ H Q q => tT_and q
theorem t_or {es : List (Ex F)} {as : List Expr} {pos : Pos} (h : PTs G W call X es as) (hn : es ≠ []) : PT X (.BoolOp .Or as pos) (tT call G W (.or es)) := (pt_of_pw (w_or h hn)).imp fun σ H Q q => tT_or q
theorem t_not {e : Ex F} {a : Expr} {pos : Pos} (h : PT X a (tT call G W e)) : PT X (.UnaryOp .Not a pos) (tT call G W (.not e)) := (pt_not h).imp fun σ H Q q => tT_not q
theorem e_not {e : Ex F} {a : Expr} {pos : Pos} (h : PE X a (tE G W call e)) : PE X (.UnaryOp .Not a pos) (tE G W call (.not e)) :=
  (pe_not h).imp fun σ H Q q => (tT_val (notV q)).mono fun x H1 h => h
theorem e_ite {c a b : Ex F} {ce ae be : Expr} {pos : Pos} (hc : PT X ce (tT call G W c)) (ha : PE X ae (tE G W call a)) (hb : PE X be (tE G W call b)) : PE X (.IfExp ce ae be pos) (tE G W call (.ite c a b)) :=
  (pe_ifExp hc ha hb).imp fun σ H Q q => iteV q
theorem bl_val {f : Evn → R Bool} {E : Ex F} {σ : L2.St} {H : Hp} {Q : VK} (he : ∀ ρ, evE call E ρ = (f ρ).bd fun b ρ1 => .ok (.v (.bl b)) ρ1) (q : tR G W f BoE σ H fun b H1 => Q (.bl b) H1) : tE G W call E σ H Q := by
  obtain ⟨ρ, L, Θ, l, st, o⟩ := q
  refine ⟨ρ, L, Θ, l, st, ?_⟩
  rw [he, Out.bd]
  refine o.imp fun b ρ1 k v H' L' Te l' r s => ?_
  obtain ⟨z, rfl⟩ := r
  have st' := s.perm (perm3 L' _ Θ)
  obtain ⟨_, _, u, e1, e2⟩ := st'.ok _ List.mem_cons_self
  cases e1
  cases e2
  exact k b H' L' [] l' ⟨rfl, rfl⟩ st'.tail
theorem and_val {es : List (Ex F)} {σ : L2.St} {H : Hp} {Q : VK} (q : tAnd' call G W es σ H fun b H1 => Q (.bl b) H1) : tE G W call (.and es) σ H Q := bl_val (fun ρ => by simp only [evE]) q
theorem or_val {es : List (Ex F)} {σ : L2.St} {H : Hp} {Q : VK} (q : tOr' call G W es σ H fun b H1 => Q (.bl b) H1) : tE G W call (.or es) σ H Q := bl_val (fun ρ => by simp only [evE]) q
theorem e_and {pos : Pos} : ∀ {es : List (Ex F)} {as : List Expr}, PEs G W call X es as → es ≠ [] → PE X (.BoolOp .And as pos) (tE G W call (.and es))
  | [], _, _, hn => absurd rfl hn
  | [e], _, h, _ => by
    obtain ⟨a, _, rfl, h1, rfl⟩ := h
    refine (pe_one h1).imp fun σ H Q q => (tT_val (and_cons (andV q))).mono fun x H1 ⟨c, e, h⟩ => ?_
    subst e
    cases c with
    | true => exact and_nil h
    | false => exact h
  | e :: e2 :: es, _, h, _ => by
    obtain ⟨a, _, rfl, h1, h2⟩ := h
    have h3 := h2
    obtain ⟨a2, as2, rfl, _⟩ := h3
    refine (pe_and h1 (e_and h2 (by intro e; cases e))).imp fun σ H Q q => (tT_val (and_cons (andV q))).mono fun x H1 ⟨c, e, h⟩ => ⟨c, e, ?_⟩
    cases c with
    | true =>
      exact and_val h
    | false => exact h
theorem e_or {pos : Pos} : ∀ {es : List (Ex F)} {as : List Expr}, PEs G W call X es as → es ≠ [] → PE X (.BoolOp .Or as pos) (tE G W call (.or es))
  | [], _, _, hn => absurd rfl hn
  | [e], _, h, _ => by
    obtain ⟨a, _, rfl, h1, rfl⟩ := h
    refine (pe_one h1).imp fun σ H Q q => (tT_val (or_cons (orV q))).mono fun x H1 ⟨c, e, h⟩ => ?_
    subst e
    cases c with
    | true => exact h
    | false => exact or_nil h
  | e :: e2 :: es, _, h, _ => by
    obtain ⟨a, _, rfl, h1, h2⟩ := h
    have h3 := h2
    obtain ⟨a2, as2, rfl, _⟩ := h3
    refine (pe_or h1 (e_or h2 (by intro e; cases e))).imp fun σ H Q q => (tT_val (or_cons (orV q))).mono fun x H1 ⟨c, e, h⟩ => ⟨c, e, ?_⟩
    cases c with
    | true => exact h
    | false => exact or_val h
/-- a comparison, as a test -/
theorem t_cmp {op : CmpOp} {p : Pr} {r : PySem.W.Frag → World → R2} {e1 e2 : Ex F} {a b : Expr} {pos : Pos} (ho : OpR X (compareOp op) (r G.K G.w)) (hp : PrOk p (ofR2 r)) (ha : PE X a (tE G W call e1)) (hb : PE X b (tE G W call e2)) (hs : isSet b = false) :
    PT X (.Compare a [op] [b] pos) (tT call G W (.pr p [e1, e2])) :=
  (pt_cmpR ho ha hb (noMarks hs)).imp fun σ H Q q => tEs_two (pr_args hp (tT_val q))
theorem t_isNon {e1 : Ex F} {a : Expr} {j : Nat} {pos pos' : Pos} (ha : PE X a (tE G W call e1)) : PT X (.Compare a [.Is] [.Constant .none j pos'] pos) (tT call G W (.pr .isNon [e1])) :=
  (pt_cmp (pc_isN ha) rfl).imp fun σ H Q q => (tEs_one (pr_args ok_isNon (tT_val q))).mono fun x H1 h => h
theorem t_notNon {e1 : Ex F} {a : Expr} {j : Nat} {pos pos' : Pos} (ha : PE X a (tE G W call e1)) : PT X (.Compare a [.IsNot] [.Constant .none j pos'] pos) (tT call G W (.pr .notNon [e1])) :=
  (pt_cmp (pc_notN ha) rfl).imp fun σ H Q q => (tEs_one (pr_args ok_notNon (tT_val q))).mono fun x H1 h => h
theorem t_isTF {e1 : Ex F} {a : Expr} {j : Nat} {pos pos' : Pos} {p : Pr} {c : Bool} (hp : PrOk p (ofR1 (rTru' c))) (ha : PE X a (tE G W call e1)) : PT X (.Compare a [.Is] [.Constant (.bool c) j pos'] pos) (tT call G W (.pr p [e1])) :=
  (pt_cmpR op_isBl ha pe_bl rfl).imp fun σ H Q q => (tEs_one (pr_args hp (tT_val q))).mono fun x H1 h => by
    obtain ⟨b, rfl, h⟩ := h
    refine ⟨b, c, rfl, rfl, ?_⟩
    have e : decide (b = c) = (b == c) := by cases b <;> cases c <;> rfl
    rw [e]; exact h
end
end Mi

set_option Elab.async false
set_option linter.all false
set_option maxRecDepth 100000
set_option maxHeartbeats 4000000
/-! Statements, defs: what they compute. -/
namespace Mi
open PySem

def putI (d : Nat) (p : PV) (tk te : Tm) : Option PV :=
  match p with
  | .lst xs => match tk, te.dn d with
    | .v (.int i), some y => if d = 0 then (L2.ixN xs.length i).map fun j => .lst (xs.set j y) else none
    | _, _ => none
  | .dct ks => match tk.dn 0, te.dn d with
    | some k, some y => if d = 0 ∧ (keyLike k ks && decide (ks.length < lim)) = true then some (.dct (dPut ks k y)) else none
    | _, _ => none
  | _ => none
def appI (d : Nat) (p : PV) (k : PV) (te : Tm) : Option PV :=
  match d, p with
  | n + 1, .dct ks => match te.dn n with
    | some y => if keyLike k ks then (match dGet ks k with
      | some (.lst ys) => if ys.length < lim then some (.dct (dPut ks k (.lst (ys ++ [y])))) else none
      | _ => none) else none
    | none => none
  | n + 1, .lst xs => match k, te.dn n with
    | .int i, some y => (match L2.ixN xs.length i with
      | some j => (match xs[j]? with
        | some (.lst ys) => if ys.length < lim then some (.lst (xs.set j (.lst (ys ++ [y])))) else none
        | _ => none)
      | none => none)
    | _, _ => none
  | _, _ => none

mutual
/-- .. of an exception of the class c with the fields fs -/
def evH (c : Str) (fs : List (Str × PV)) : Hx → Option Tm
  | .fld f => (fs.lookup f).map .v
  | .is x => some (.v (.bl (catches x c)))
  | .c k => some (.v k.pv)
  | .tup es => match evHs c fs es with
    | some ts => (match ts.mapM (Tm.dn 0) with | some ps => if ps.length ≤ lim then some (.v (.tup ps)) else none | none => none)
    | none => none
  | .lst es => match evHs c fs es with
    | some ts => (match ts.mapM (Tm.dn 0) with | some ps => if ps.length ≤ lim then some (.o 0 (.lst ps)) else none | none => none)
    | none => none
  | .ite a b d => match evH c fs a with
    | some (.v (.bl true)) => evH c fs b
    | some (.v (.bl false)) => evH c fs d
    | _ => none
def evHs (c : Str) (fs : List (Str × PV)) : List Hx → Option (List Tm)
  | [] => some []
  | e :: es => match evH c fs e with
    | some t => (match evHs c fs es with | some ts => some (t :: ts) | none => none)
    | none => none
end
/-- values into slots -/
def parT (ios : List Nat) : List Nat → List Tm → Evn → Option Evn
  | [], [], ρ => some ρ
  | i :: is, t :: ts, ρ => if canSet ios ρ i then (match t with
    | .v p => parT ios is ts (ρ.set i (.v p))
    | .o d p => parT ios is ts (ρ.set i (.o d p))
    | _ => none) else none
  | _, _, _ => none
/-- the slot that is walked gets no other value -/
def Wk.ios (k : Wk) (ios : List Nat) : List Nat := match k.lk with | some (i, _) => i :: ios | none => ios
section
variable {F : Type} (call : F → List Sl → CR)
mutual
noncomputable def evS : List Nat → Sm F → Evn → R Fl
  | ios, .asg i e, ρ => (evE call e ρ).bd fun t ρ1 => if canSet ios ρ1 i then (match t with
    | .v p => .ok .nx (ρ1.set i (.v p))
    | .o d p => .ok .nx (ρ1.set i (.o d p))
    | _ => .no) else .no
  | ios, .asgO i d e, ρ => (evE call e ρ).bd fun t ρ1 => if canSet ios ρ1 i then (match t.dn (d + 1) with
    | some p => .ok .nx (ρ1.set i (.o d p))
    | none => .no) else .no
  | ios, .unp is e, ρ => (evE call e ρ).bd fun t ρ1 => (match t with
    | .v p => (match bindS ios (.t is) p ρ1 with | some ρ2 => .ok .nx ρ2 | none => .no)
    | _ => .no)
  | ios, .setI i k e, ρ => (evE call e ρ).bd fun te ρ1 => (match ρ1.at i with
    | .o _ _ => (evE call k ρ1).bd fun tk ρ2 => (match ρ2.at i with
      | .o d p => (match putI d p tk te with | some p' => .ok .nx (ρ2.set i (.o d p')) | none => .no)
      | _ => .no)
    | _ => .no)
  | ios, .ixApp i k e, ρ => (match ρ.at i with
    | .o _ _ => (evE call k ρ).bd fun tk ρ1 => (evE call e ρ1).bd fun te ρ2 => (match ρ2.at i, tk with
      | .o d p, .v kk => (match appI d p kk te with | some p' => .ok .nx (ρ2.set i (.o d p')) | none => .no)
      | _, _ => .no)
    | _ => .no)
  | ios, .ex e, ρ => (evE call e ρ).bd fun _ ρ1 => .ok .nx ρ1
  | ios, .ret e, ρ => (evE call e ρ).bd fun t ρ1 => (match t with
    | .v p => .ok (.rt (.v p)) ρ1
    | .o d p => .ok (.rt (.o d p)) ρ1
    | _ => .no)
  | ios, .retN, ρ => .ok (.rt (.v .non)) ρ
  | ios, .pass, ρ => .ok .nx ρ
  | ios, .nev, _ => .no
  | ios, .ite c a b, ρ => (tst (evE call c ρ)).bd fun k ρ1 => if k then evSs ios a ρ1 else evSs ios b ρ1
  | ios, .for t it body, ρ => (evE call it ρ).bd fun tm ρ1 => (match tm.walk ρ1 with
    | some k => (forL k.chk (fun x ρ => match bindS (k.ios ios) t x ρ with | some ρ' => evSs (k.ios ios) body ρ' | none => .no) k.xs k.ρ).env k.back
    | none => .no)
  | ios, .wh c body, ρ => whL (fun ρ => tst (evE call c ρ)) (fun ρ => evSs ios body ρ) lim ρ
  | ios, .raise c names es, ρ => (evEs call es ρ).bd fun ts ρ1 => (match ts.mapM (Tm.dn 0) with
    | some ps => if ps.length = names.length then .ex c (names.zip ps).reverse ρ1 else .no
    | none => .no)
  | ios, .par is es, ρ => (evEs call es ρ).bd fun ts ρ1 => (match parT ios is ts ρ1 with
    | some ρ2 => .ok .nx ρ2
    | none => .no)
  | ios, .tryR body cs x i h, ρ => (match evSs ios body ρ with
    | .ex c fs ρ1 => if cs.contains c then (if catches x c then (if canSet ios ρ1 i then (match evH c fs h with
        | some t => .ok (.rt t) (ρ1.set i .u)
        | none => .no) else .no) else .ex c fs ρ1) else .no
    | r => r)
  | ios, .tryP body cs x i ss, ρ => (match evSs ios body ρ with
    | .ex c fs ρ1 => if cs.contains c then (if catches x c then (match i with
        | some j => if canSet ios ρ1 j then (noEx (evSs ios ss (ρ1.set j .u))).env (fun r => r.set j .u) else .no
        | none => noEx (evSs ios ss ρ1)) else .ex c fs ρ1) else .no
    | r => r)
noncomputable def evSs : List Nat → List (Sm F) → Evn → R Fl
  | _, [], ρ => .ok .nx ρ
  | ios, s :: ss, ρ => (evS ios s ρ).bd fun fl ρ1 => (match fl with
    | .nx => evSs ios ss ρ1
    | .rt t => .ok (.rt t) ρ1)
end
end

/-- a def -/
structure Fd (F : Type) where
  np : Nat
  nl : Nat
  ios : List Nat
  body : List (Sm F)
/-- the parameters' slots at the end: those that may have got another value are not told -/
def maskE (ios : List Nat) (n : Nat) (ρ : Evn) : Evn := (List.range n).map fun j => if ios.contains j then ρ.at j else .u
noncomputable def evF {F : Type} (D : F → Fd F) : Nat → F → List Sl → CR
  | 0, _, _ => .no
  | n + 1, f, ps =>
    let fd := D f
    if ps.length = fd.np then
      match evSs (evF D n) fd.ios fd.body (ps ++ List.replicate fd.nl .u) with
      | .ok .nx ρ => .ret (.v .non) (maskE fd.ios fd.np ρ)
      | .ok (.rt t) ρ => .ret t (maskE fd.ios fd.np ρ)
      | .ex c fs ρ => .ex c fs (maskE fd.ios fd.np ρ)
      | .no => .no
    else .no
end Mi

set_option Elab.async false
set_option linter.all false
set_option maxRecDepth 100000
set_option maxHeartbeats 4000000
/-! Calls of defs. -/
namespace Mi
open PySem PySem.Spec PyProof.Rows L2

/-- a value handed back -/
def TmR (t : Tm) (v : V) (es : List Ent) : Prop := match t with
  | .v p => ∃ z, es = [⟨some v, .v p, [], z⟩]
  | .o d p => ∃ fp z, es = [⟨some v, .o d p, fp, z⟩]
  | _ => False
theorem TmR.e {t : Tm} {v : V} {es : List Ent} (σ : L2.St) (h : TmR t v es) : TmE σ t v es := by
  cases t with
  | v p => exact h
  | o d p => exact h
  | s i => exact h.elim
  | m i d p => exact h.elim
/-- what a def promises -/
def SpF (G : Gc) (c : List Sl → CR) : Sp := fun vs H Q E => ∃ ps P Θ, P.map (·.v) = vs.map some ∧ P.map (·.s) = ps ∧ Stt G.K G.w H (P ++ Θ) ∧ match c ps with
  | .ret t fin => ∀ v H' P' Te, P'.map (·.v) = vs.map some → P'.map (·.s) = fin → TmR t v Te → Stt G.K G.w H' (P' ++ (Te ++ Θ)) → Q v H'
  | .ex c fs fin => ∀ d H' P' Fe, P'.map (·.v) = vs.map some → P'.map (·.s) = fin → FldE H' fs d Fe → Stt G.K G.w H' (P' ++ (Fe ++ Θ)) → E (.ref (G.ca c)) d H'
  | .no => False
section
variable {K : PySem.W.Frag} {w : World} {H H1 : Hp}
def toB (e : Ent) : Ent := { e with s := match e.s with | .o d p => .b d p | .l d p => .b d p | s => s }
theorem toB_fp (L : List Ent) : (L.map toB).flatMap (·.fp) = L.flatMap (·.fp) := by
  induction L with
  | nil => rfl
  | cons e L ih => rw [List.map_cons, List.flatMap_cons, List.flatMap_cons, ih]; rfl
theorem toB_ok {e : Ent} : (toB e).ok K w H ↔ e.ok K w H := by
  obtain ⟨v, s, fp, z⟩ := e
  cases s <;> exact Iff.rfl
theorem toB_excl {e : Ent} : (toB e).s.excl = false := by
  obtain ⟨v, s, fp, z⟩ := e
  cases s <;> rfl
/-- the places back -/
theorem Stt.unB {N L Θ R : List Ent} (s0 : Stt K w H1 (L ++ R)) (hR : ∀ e ∈ Θ, e ∈ R) (s1 : Stt K w H (N ++ (L.map toB ++ Θ))) (hN : ∀ e ∈ N, ∀ a, ¬ e.z a) : Stt K w H (N ++ (L ++ Θ)) := by
  refine ⟨fun e m => ?_, ?_, fun e m x a ha f mf => ?_⟩
  · rcases List.mem_append.mp m with m | m
    · exact s1.ok e (List.mem_append_left _ m)
    · rcases List.mem_append.mp m with m | m
      · exact toB_ok.mp (s1.ok _ (List.mem_append_right _ (List.mem_append_left _ (List.mem_map.mpr ⟨e, m, rfl⟩))))
      · exact s1.ok e (List.mem_append_right _ (List.mem_append_right _ m))
  · have := s1.nd
    rw [List.flatMap_append, List.flatMap_append, toB_fp] at this
    rw [List.flatMap_append, List.flatMap_append]
    exact this
  · have inL : ∀ f ∈ L, ∀ e ∈ N ++ (L.map toB ++ Θ), e.s.excl = true → ∀ a ∈ e.fp, ¬ f.z a := fun f mf e me x a ha => s1.nz e me x a ha (toB f) (List.mem_append_right _ (List.mem_append_left _ (List.mem_map.mpr ⟨f, mf, rfl⟩)))
    have inN : ∀ e ∈ N ++ (L.map toB ++ Θ), e.s.excl = true → ∀ a ∈ e.fp, ∀ f ∈ N ++ (L ++ Θ), ¬ f.z a := fun e me x a ha f mf => by
      rcases List.mem_append.mp mf with mf | mf
      · exact hN f mf a
      · rcases List.mem_append.mp mf with mf | mf
        · exact inL f mf e me x a ha
        · exact s1.nz e me x a ha f (List.mem_append_right _ (List.mem_append_right _ mf))
    rcases List.mem_append.mp m with m | m
    · exact inN e (List.mem_append_left _ m) x a ha f mf
    · rcases List.mem_append.mp m with m | m
      · rcases List.mem_append.mp mf with mf | mf
        · exact hN f mf a
        · refine s0.nz e (List.mem_append_left _ m) x a ha f ?_
          rcases List.mem_append.mp mf with mf | mf
          · exact List.mem_append_left _ mf
          · exact List.mem_append_right _ (hR f mf)
      · exact inN e (List.mem_append_right _ (List.mem_append_right _ m)) x a ha f mf
/-- what has nothing that can change in it shares nothing -/
theorem Stt.purify {e : Ent} {es : List Ent} (st : Stt K w H (e :: es)) (h : match e.s with | .u => True | .v p => p.pure = true | .o d p => p.pureB (d + 1) = true | _ => False) : Stt K w H ({ e with z := fun _ => False } :: es) := by
  refine ⟨fun x m => ?_, st.nd, fun x m q a ha f mf => ?_⟩
  · rcases List.mem_cons.mp m with rfl | m
    · obtain ⟨v, s, fp, z⟩ := e
      obtain ⟨dm, k⟩ := st.ok _ List.mem_cons_self
      refine ⟨fun _ h => h.elim, ?_⟩
      cases s with
      | u => exact k
      | v p => obtain ⟨k1, u, k2, k3⟩ := k; exact ⟨k1, u, k2, k3.unzone h⟩
      | o d p => obtain ⟨u, k2, k3⟩ := k; exact ⟨u, k2, k3.unzone h⟩
      | l d p => exact h.elim
      | b d p => exact h.elim
    · exact st.ok x (List.mem_cons_of_mem _ m)
  · rcases List.mem_cons.mp mf with rfl | mf
    · exact fun h => h
    · rcases List.mem_cons.mp m with rfl | m
      · exact st.nz _ List.mem_cons_self q a ha f (List.mem_cons_of_mem _ mf)
      · exact st.nz x (List.mem_cons_of_mem _ m) q a ha f (List.mem_cons_of_mem _ mf)
/-- the slots that were lent to the callee's parameters come back -/
theorem give {σ : L2.St} : ∀ {ts : List Tm} {vs : List V} {Te P : List Ent} {fin : List Sl} {ρ : Evn} {L R : List Ent}, Loc σ ρ L → TmsE σ ts vs Te → P.map (·.v) = vs.map some → P.map (·.s) = fin → Stt K w H (P ++ (L ++ R)) →
    ∃ L', Loc σ (giveBack ts fin ρ) L' ∧ Stt K w H (L' ++ R)
  | [], vs, Te, P, fin, ρ, L, R, l, r, h1, h2, st => by
    obtain ⟨rfl, _⟩ := r
    obtain rfl : P = [] := by simpa using h1
    subst h2
    exact ⟨L, by simpa only [giveBack] using l, st⟩
  | t :: ts, vs, Te, [], fin, ρ, L, R, l, r, h1, h2, st => by
    obtain ⟨v, vs', e, es', rfl, _⟩ := r
    simp at h1
  | t :: ts, vs, Te, e :: P, fin, ρ, L, R, l, r, h1, h2, st => by
    obtain ⟨v, vs', e', es', rfl, rfl, r1, r2⟩ := r
    simp only [List.map_cons, List.cons.injEq] at h1
    subst h2
    have dropped : ∀ (hm : giveBack (t :: ts) (List.map (·.s) (e :: P)) ρ = giveBack ts (P.map (·.s)) ρ), ∃ L', Loc σ (giveBack (t :: ts) (List.map (·.s) (e :: P)) ρ) L' ∧ Stt K w H (L' ++ R) := fun hm => by
      rw [hm]
      exact give l r2 h1.2 rfl st.tail
    cases t with
    | v p => exact dropped rfl
    | o d p => exact dropped rfl
    | s i => exact dropped rfl
    | m i d p =>
      show ∃ L', Loc σ (giveBack ts (P.map (·.s)) (ρ.set i e.s)) L' ∧ _
      have hi : i < L.length := by
        have := lt_of_get r1.1
        rw [← l.1, List.length_map] at this
        exact this
      have hv : (L[i]'hi).v = some v := by
        have q := r1.1
        rw [← l.1, List.getElem?_map, List.getElem?_eq_getElem hi] at q
        exact Option.some.inj q
      have l' : Loc σ (ρ.set i e.s) (L.set i e) := l.set (List.getElem?_eq_getElem hi) (by rw [hv]; exact h1.1)
      have st1 : Stt K w H (L[i]'hi :: (L.eraseIdx i ++ (e :: (P ++ R)))) := by
        have q : Stt K w H (L ++ (e :: (P ++ R))) := st.perm (by
          rw [List.cons_append]
          refine (List.Perm.cons e (perm3 P L R)).trans ?_
          exact List.perm_middle.symm)
        exact q.out (List.getElem?_eq_getElem hi)
      have st2 : Stt K w H (P ++ (L.set i e ++ R)) := by
        have q : Stt K w H (e :: (L.eraseIdx i ++ (P ++ R))) := st1.tail.perm List.perm_middle
        exact (q.put hi).perm (perm3 _ _ _)
      exact give l' r2 h1.2 rfl st2
end
end Mi

set_option Elab.async false
set_option linter.all false
set_option maxRecDepth 100000
set_option maxHeartbeats 4000000
/-! Calls of defs: the caller's side. -/
namespace Mi
open PySem PySem.Spec PyProof.Rows L2

section
variable {K : PySem.W.Frag} {w : World} {H : Hp} {σ : L2.St} {ρ : Evn}
theorem pars_plain : ∀ {ts : List Tm} {vs : List V} {Te : List Ent} {ps : List Sl}, TmsE σ ts vs Te → ts.any Tm.lent = false → Tm.pars ρ ts = some ps → Te.map (·.v) = vs.map some ∧ Te.map (·.s) = ps
  | [], _, _, _, r, _, h => by
    obtain ⟨rfl, rfl⟩ := r
    simp only [Tm.pars, Option.some.injEq] at h
    subst h
    exact ⟨rfl, rfl⟩
  | t :: ts, _, _, _, r, hl, h => by
    obtain ⟨v, vs', e, es', rfl, rfl, r1, r2⟩ := r
    rw [List.any_cons, Bool.or_eq_false_iff] at hl
    simp only [Tm.pars] at h
    cases h1 : t.par ρ with
    | none => rw [h1] at h; cases h
    | some q =>
      cases h2 : Tm.pars ρ ts with
      | none => rw [h1, h2] at h; cases h
      | some qs =>
        rw [h1, h2] at h
        cases h
        obtain ⟨g1, g2⟩ := pars_plain r2 hl.2 h2
        cases t with
        | v p => obtain ⟨z, rfl⟩ := r1; cases h1; exact ⟨by simp [g1], by simp [g2]⟩
        | o d p => obtain ⟨fp, z, rfl⟩ := r1; cases h1; exact ⟨by simp [g1], by simp [g2]⟩
        | m i d p => obtain ⟨_, fp, z, rfl⟩ := r1; cases h1; exact ⟨by simp [g1], by simp [g2]⟩
        | s i => exact absurd hl.1 (by simp [Tm.lent])
theorem nd_same {es : List Ent} (nd : (es.flatMap (·.fp)).Nodup) {f g : Ent} {a : Addr} (hf : f ∈ es) (hg : g ∈ es) (ha : a ∈ f.fp) (hb : a ∈ g.fp) : f = g := by
  induction es with
  | nil => cases hf
  | cons e es ih =>
    rw [List.flatMap_cons] at nd
    obtain ⟨n1, n2, n3⟩ := List.nodup_append.mp nd
    rcases List.mem_cons.mp hf with ef | hf'
    · rcases List.mem_cons.mp hg with eg | hg'
      · rw [ef, eg]
      · exact absurd rfl (n3 a (ef ▸ ha) a (List.mem_flatMap.mpr ⟨g, hg', hb⟩))
    · rcases List.mem_cons.mp hg with eg | hg'
      · exact absurd rfl (n3 a (eg ▸ hb) a (List.mem_flatMap.mpr ⟨f, hf', ha⟩))
      · exact ih n2 hf' hg'
theorem Stt.lend {A L Θ : List Ent} (st : Stt K w H (A ++ (L ++ Θ))) : Stt K w H (A ++ (L.map toB ++ Θ)) := by
  have back : ∀ e ∈ A ++ (L.map toB ++ Θ), e.s.excl = true → e ∈ A ++ (L ++ Θ) := fun e m x => by
    rcases List.mem_append.mp m with m | m
    · exact List.mem_append_left _ m
    · rcases List.mem_append.mp m with m | m
      · obtain ⟨f, _, rfl⟩ := List.mem_map.mp m
        rw [toB_excl] at x; cases x
      · exact List.mem_append_right _ (List.mem_append_right _ m)
  refine ⟨fun e m => ?_, ?_, fun e m x a ha f mf => ?_⟩
  · rcases List.mem_append.mp m with m | m
    · exact st.ok e (List.mem_append_left _ m)
    · rcases List.mem_append.mp m with m | m
      · obtain ⟨f, mf, rfl⟩ := List.mem_map.mp m
        exact toB_ok.mpr (st.ok f (List.mem_append_right _ (List.mem_append_left _ mf)))
      · exact st.ok e (List.mem_append_right _ (List.mem_append_right _ m))
  · have := st.nd
    rw [List.flatMap_append, List.flatMap_append] at this ⊢
    rw [toB_fp]
    exact this
  · have me := back e m x
    rcases List.mem_append.mp mf with mf | mf
    · exact st.nz e me x a ha f (List.mem_append_left _ mf)
    · rcases List.mem_append.mp mf with mf | mf
      · obtain ⟨g, mg, rfl⟩ := List.mem_map.mp mf
        exact st.nz e me x a ha g (List.mem_append_right _ (List.mem_append_left _ mg))
      · exact st.nz e me x a ha f (List.mem_append_right _ (List.mem_append_right _ mf))
theorem pars_lent {L : List Ent} (l : Loc σ ρ L) : ∀ {ts : List Tm} {vs : List V} {Te : List Ent} {ps : List Sl} {Θ : List Ent}, TmsE σ ts vs Te → Tm.pars ρ ts = some ps → Stt K w H (Te ++ (L.map toB ++ Θ)) →
    ∃ P, P.map (·.v) = vs.map some ∧ P.map (·.s) = ps ∧ Stt K w H (P ++ (L.map toB ++ Θ))
  | [], _, _, _, Θ, r, h, st => by
    obtain ⟨rfl, rfl⟩ := r
    simp only [Tm.pars, Option.some.injEq] at h
    subst h
    exact ⟨[], rfl, rfl, st⟩
  | t :: ts, _, _, _, Θ, r, h, st => by
    obtain ⟨v, vs', e, es', rfl, rfl, r1, r2⟩ := r
    simp only [Tm.pars] at h
    cases h1 : t.par ρ with
    | none => rw [h1] at h; cases h
    | some q =>
      cases h2 : Tm.pars ρ ts with
      | none => rw [h1, h2] at h; cases h
      | some qs =>
        rw [h1, h2] at h
        cases h
        -- an entry of its own
        have own : ∀ e0 : Ent, e = [e0] → e0.v = some v → e0.s = q → ∃ P, P.map (·.v) = (v :: vs').map some ∧ P.map (·.s) = q :: qs ∧ Stt K w H (P ++ (L.map toB ++ Θ)) := fun e0 ee ev es => by
          subst ee
          obtain ⟨P, p1, p2, p3⟩ := pars_lent l (Θ := e0 :: Θ) r2 h2 (st.perm (by
            simp only [List.cons_append, List.nil_append]
            rw [← List.append_assoc, ← List.append_assoc]
            exact (List.perm_middle (l₁ := es' ++ L.map toB)).symm))
          refine ⟨e0 :: P, by simp [p1, ev], by simp [p2, es], p3.perm ?_⟩
          rw [← List.append_assoc]
          refine List.perm_middle.trans ?_
          simp
        cases t with
        | v p => obtain ⟨z, rfl⟩ := r1; cases h1; exact own _ rfl rfl rfl
        | o d p => obtain ⟨fp, z, rfl⟩ := r1; cases h1; exact own _ rfl rfl rfl
        | m i d p => obtain ⟨_, fp, z, rfl⟩ := r1; cases h1; exact own _ rfl rfl rfl
        | s i =>
          obtain ⟨r1, rfl⟩ := r1
          obtain ⟨P, p1, p2, p3⟩ := pars_lent l r2 h2 st
          have add : ∀ d p, (ρ.at i = .o d p ∨ ρ.at i = .l d p) → q = .v p → ∃ P, P.map (·.v) = (v :: vs').map some ∧ P.map (·.s) = q :: qs ∧ Stt K w H (P ++ (L.map toB ++ Θ)) := fun d p hs hq => by
            subst hq
            obtain ⟨e0, e1, e2, e3⟩ : ∃ e, L[i]? = some e ∧ (e.s = .o d p ∨ e.s = .l d p) ∧ σ[i]? = some e.v := by
              rcases hs with hs | hs
              · obtain ⟨e, a1, a2, a3⟩ := l.ent hs (by intro z; cases z); exact ⟨e, a1, .inl a2, a3⟩
              · obtain ⟨e, a1, a2, a3⟩ := l.ent hs (by intro z; cases z); exact ⟨e, a1, .inr a2, a3⟩
            have ev : e0.v = some v := by rw [r1] at e3; exact (Option.some.inj e3).symm
            have mb : toB e0 ∈ P ++ (L.map toB ++ Θ) := List.mem_append_right _ (List.mem_append_left _ (List.mem_map.mpr ⟨e0, List.mem_of_getElem? e1, rfl⟩))
            have ok := p3.ok _ mb
            have bs : toB e0 = ⟨some v, .b d p, e0.fp, e0.z⟩ := by
              obtain ⟨v0, s0, f0, z0⟩ := e0
              obtain rfl : v0 = some v := ev
              rcases e2 with e2 | e2 <;> (obtain rfl : s0 = _ := e2; rfl)
            rw [bs] at ok mb
            obtain ⟨dm, u, k1, k2⟩ := ok
            cases k1
            refine ⟨⟨some v, .v p, [], fun a => e0.z a ∨ a ∈ e0.fp⟩ :: P, by simp [p1], by simp [p2], ?_⟩
            refine p3.addV k2.froz (fun a ha => ha.elim (dm a) fun q => (Ent.ok.own (p3.ok _ mb) a q).some) fun f mf x a ha hz => ?_
            rcases hz with hz | hz
            · exact p3.nz f mf x a ha _ mb hz
            · have := nd_same p3.nd mf mb ha hz
              subst this
              cases x
          simp only [Tm.par] at h1
          cases hs : ρ.at i with
          | o d p => rw [hs] at h1; cases h1; exact add d p (.inl hs) rfl
          | l d p => rw [hs] at h1; cases h1; exact add d p (.inr hs) rfl
          | u => rw [hs] at h1; cases h1
          | v p => rw [hs] at h1; cases h1
          | b d p => rw [hs] at h1; cases h1
/-- what comes back from a callee that was lent something shares nothing of it -/
def emptyZ (e : Ent) : Ent := { e with z := fun _ => False }
theorem pure_back {σ' : L2.St} : ∀ {ts : List Tm} {vs : List V} {Te P : List Ent} {fin : List Sl} {R : List Ent}, TmsE σ' ts vs Te → P.map (·.v) = vs.map some → P.map (·.s) = fin → ioPure ts fin = true → Stt K w H (P ++ R) →
    ∃ P', P'.map (·.v) = vs.map some ∧ P'.length = P.length ∧ (∀ e ∈ P', ∀ a, ¬ e.z a) ∧ Stt K w H (P' ++ R) ∧ ∀ ρ, giveBack ts (P'.map (·.s)) ρ = giveBack ts fin ρ
  | [], _, _, P, _, R, r, h1, h2, hp, st => by
    obtain ⟨rfl, rfl⟩ := r
    obtain rfl : P = [] := by simpa using h1
    subst h2
    exact ⟨[], rfl, rfl, (fun e m => by cases m), st, fun _ => rfl⟩
  | t :: ts, _, _, [], _, R, r, h1, h2, hp, st => by
    obtain ⟨v, vs', e, es', rfl, _⟩ := r
    simp at h1
  | t :: ts, _, _, e :: P, _, R, r, h1, h2, hp, st => by
    obtain ⟨v, vs', e', es', rfl, rfl, r1, r2⟩ := r
    simp only [List.map_cons, List.cons.injEq] at h1
    subst h2
    have other : (∀ ρ x fin, giveBack (t :: ts) (x :: fin) ρ = giveBack ts fin ρ) → ioPure ts (P.map (·.s)) = true → ∃ P', P'.map (·.v) = (v :: vs').map some ∧ P'.length = (e :: P).length ∧ (∀ e ∈ P', ∀ a, ¬ e.z a) ∧ Stt K w H (P' ++ R) ∧ ∀ ρ, giveBack (t :: ts) (P'.map (·.s)) ρ = giveBack (t :: ts) ((e :: P).map (·.s)) ρ := fun hg hp' => by
      obtain ⟨P', a1, a2, a3, a4, a5⟩ := pure_back (R := R) r2 h1.2 rfl hp' st.tail
      refine ⟨eU (some v) :: P', by simp [a1, eU], by simp [a2], ?_, a4.addU (some v), fun ρ => ?_⟩
      · intro x m a
        rcases List.mem_cons.mp m with rfl | m
        · exact fun h => h
        · exact a3 x m a
      · rw [List.map_cons, List.map_cons, hg, hg]
        exact a5 ρ
    cases t with
    | v p => exact other (fun _ _ _ => rfl) hp
    | o d p => exact other (fun _ _ _ => rfl) hp
    | s i => exact other (fun _ _ _ => rfl) hp
    | m i d p =>
      have hp' : (e.s.pureOk && ioPure ts (P.map (·.s))) = true := hp
      rw [Bool.and_eq_true] at hp'
      obtain ⟨P', a1, a2, a3, a4, a5⟩ := pure_back (R := e :: R) r2 h1.2 rfl hp'.2 (st.perm List.perm_middle.symm)
      have st2 : Stt K w H (e :: (P' ++ R)) := a4.perm List.perm_middle
      have hs : match e.s with | .u => True | .v p => p.pure = true | .o d p => p.pureB (d + 1) = true | _ => False := by
        have q := hp'.1
        cases e0 : e.s with
        | u => trivial
        | v p => rw [e0] at q; exact q
        | o d p => rw [e0] at q; exact q
        | l d p => rw [e0] at q; cases q
        | b d p => rw [e0] at q; cases q
      refine ⟨emptyZ e :: P', by simp [a1, emptyZ, h1.1], by simp [a2], ?_, st2.purify hs, fun ρ => a5 _⟩
      intro x mx a
      rcases List.mem_cons.mp mx with rfl | mx
      · exact fun h => h
      · exact a3 x mx a
end
end Mi

set_option Elab.async false
set_option linter.all false
set_option maxRecDepth 100000
set_option maxHeartbeats 4000000
namespace Mi
open PySem PySem.Spec PyProof.Rows L2

section
variable {K : PySem.W.Frag} {w : World} {H : Hp}
theorem pure_one {t : Tm} {v : V} {Te R : List Ent} (r : TmR t v Te) (h : t.pureOk = true) (st : Stt K w H (Te ++ R)) : ∃ Te', TmR t v Te' ∧ (∀ e ∈ Te', ∀ a, ¬ e.z a) ∧ Stt K w H (Te' ++ R) := by
  cases t with
  | v p =>
    obtain ⟨z, rfl⟩ := r
    exact ⟨[⟨some v, .v p, [], fun _ => False⟩], ⟨_, rfl⟩, (fun e m a => by obtain rfl := List.mem_singleton.mp m; exact fun h => h), st.purify h⟩
  | o d p =>
    obtain ⟨fp, z, rfl⟩ := r
    exact ⟨[⟨some v, .o d p, fp, fun _ => False⟩], ⟨_, _, rfl⟩, (fun e m a => by obtain rfl := List.mem_singleton.mp m; exact fun h => h), st.purify h⟩
  | s i => exact r.elim
  | m i d p => exact r.elim
theorem pure_fes : ∀ {fs : List (Str × PV)} {us : List (Str × V)} {es R : List Ent}, FEs fs us es → fs.all (fun q => q.2.pure) = true → Stt K w H (es ++ R) → ∃ es', FEs fs us es' ∧ (∀ e ∈ es', ∀ a, ¬ e.z a) ∧ Stt K w H (es' ++ R)
  | [], _, _, R, h, _, st => by
    obtain ⟨rfl, rfl⟩ := h
    exact ⟨[], ⟨rfl, rfl⟩, (fun e m => by cases m), st⟩
  | (f, p) :: fs, _, _, R, h, hp, st => by
    obtain ⟨v, us', z, es', rfl, rfl, h⟩ := h
    rw [List.all_cons, Bool.and_eq_true] at hp
    obtain ⟨es2, a1, a2, a3⟩ := pure_fes (R := ⟨some v, .v p, [], z⟩ :: R) h hp.2 (st.perm List.perm_middle.symm)
    have st2 : Stt K w H (⟨some v, .v p, [], z⟩ :: (es2 ++ R)) := a3.perm List.perm_middle
    refine ⟨⟨some v, .v p, [], fun _ => False⟩ :: es2, ⟨v, us', _, es2, rfl, rfl, a1⟩, ?_, st2.purify hp.1⟩
    intro e m a
    rcases List.mem_cons.mp m with rfl | m
    · exact fun h => h
    · exact a2 e m a
theorem pure_fld {fs : List (Str × PV)} {d : Option Addr} {es R : List Ent} (h : FldE H fs d es) (hp : fs.all (fun q => q.2.pure) = true) (st : Stt K w H (es ++ R)) : ∃ es', FldE H fs d es' ∧ (∀ e ∈ es', ∀ a, ¬ e.z a) ∧ Stt K w H (es' ++ R) := by
  rcases h with ⟨h1, h2, h3⟩ | ⟨h1, a, us, h2, h3, h4⟩
  · subst h3
    exact ⟨[], .inl ⟨h1, h2, rfl⟩, (fun e m => by cases m), st⟩
  · obtain ⟨es', a1, a2, a3⟩ := pure_fes h4 hp st
    exact ⟨es', .inr ⟨h1, a, us, h2, h3, a1⟩, a2, a3⟩
end
section
variable {F : Type} {call : F → List Sl → CR} {G : Gc} {W : WX} {f : F} {es : List (Ex F)} {σ : L2.St} {H : Hp}
theorem perm_mid {α : Type} (P T L Θ : List α) : (P ++ (T ++ (L ++ Θ))).Perm (P ++ (L ++ (T ++ Θ))) := .append_left _ (perm3 T L Θ)
/-- what is lent, out of its slots -/
theorem lend_ok {js : List Nat} : ∀ {ts ts' : List Tm} {vs : List V} {ρ ρ' : Evn} {L Te Θ : List Ent}, Loc σ ρ L → TmsE σ ts vs Te → Stt G.K G.w H (L ++ (Te ++ Θ)) → lendT js ts ρ = some (ts', ρ') → ∃ L' Te', Loc σ ρ' L' ∧ TmsE σ ts' vs Te' ∧ Stt G.K G.w H (L' ++ (Te' ++ Θ))
  | [], _, _, _, _, L, Te, Θ, l, r, st, h => by
    simp only [lendT, Option.some.injEq, Prod.mk.injEq] at h
    obtain ⟨rfl, rfl⟩ := h
    exact ⟨L, Te, l, r, st⟩
  | t :: ts, tsr, _, ρ0, ρ1, L, _, Θ, l, r, st, h => by
    obtain ⟨v, vs', e, es', rfl, rfl, r1, r2⟩ := r
    have keep : ∀ {ρ ρ' : Evn} {L Θ : List Ent} {ts2 : List Tm} {t' : Tm} {e' : List Ent}, Loc σ ρ L → TmE σ t' v e' → Stt G.K G.w H (L ++ (e' ++ es' ++ Θ)) → lendT js ts ρ = some (ts2, ρ') → ∃ L' Te', Loc σ ρ' L' ∧ TmsE σ (t' :: ts2) (v :: vs') Te' ∧ Stt G.K G.w H (L' ++ (Te' ++ Θ)) := by
      intro ρ ρ' L Θ ts2 t' e' l r1 st h
      obtain ⟨L', Te', a1, a2, a3⟩ := lend_ok (Θ := e' ++ Θ) l r2 (st.perm (.append_left _ (by
        rw [List.append_assoc]
        exact perm3 e' es' Θ))) h
      refine ⟨L', e' ++ Te', a1, ⟨v, vs', e', Te', rfl, rfl, r1, a2⟩, a3.perm (.append_left _ ?_)⟩
      rw [List.append_assoc]
      exact perm3 Te' e' Θ
    have plain : lendT js (t :: ts) ρ0 = (lendT js ts ρ0).map (fun q => (t :: q.1, q.2)) → ∃ L' Te', Loc σ ρ1 L' ∧ TmsE σ tsr (v :: vs') Te' ∧ Stt G.K G.w H (L' ++ (Te' ++ Θ)) := fun e2 => by
      rw [e2, Option.map_eq_some_iff] at h
      obtain ⟨q, h1, h2⟩ := h
      cases h2
      exact keep l r1 st h1
    cases t with
    | v p => exact plain rfl
    | o d p => exact plain rfl
    | m i d p => exact plain rfl
    | s i =>
      simp only [lendT] at h
      split at h
      · cases hs : ρ0.at i with
        | o d p =>
          rw [hs] at h
          simp only [Option.map_eq_some_iff] at h
          obtain ⟨q, h1, h2⟩ := h
          cases h2
          obtain ⟨⟨ev, es2, ef, ez⟩, e1, rfl, e3⟩ := l.ent hs (by intro z; cases z)
          obtain ⟨r3, rfl⟩ := r1
          have hv : ev = some v := by
            rw [e3] at r3
            exact Option.some.inj r3
          subst hv
          refine keep (e' := [⟨some v, .o d p, ef, ez⟩]) (l.set (x := eU (some v)) e1 rfl) ⟨r3, ef, ez, rfl⟩ ?_ h1
          refine Stt.put (x := eU (some v)) ?_ (lt_of_get e1)
          refine ((st.out e1).addU (some v)).perm (.cons _ ?_)
          exact List.perm_middle.symm
        | _ => rw [hs] at h; cases h
      · rw [Option.map_eq_some_iff] at h
        obtain ⟨q, h1, h2⟩ := h
        cases h2
        exact keep l r1 st h1
theorem call_core {Q : VK} (q : tE G W call (.call f es) σ H Q) : tEs G W call es σ H fun vs H1 => SpF G (call f) vs H1 Q (WE W σ) := by
  have q' : tR G W (fun ρ => (evEs call es ρ).bd fun ts ρ1 => match lendT (ioSlots es) ts ρ1 with
    | some q => callT (call f) q.1 q.2
    | none => .no) TmE σ H Q := tR_eq (fun ρ => by simp only [evE] <;> rfl) q
  refine (tR.thn (rel := TmsE) q').mono fun vs H1 h1 => ?_
  obtain ⟨ts0, ρ0, L0, Θ, Te0, l0, r0, st0, o⟩ := h1
  cases hle : lendT (ioSlots es) ts0 ρ0 with
  | none => rw [hle] at o; exact o.elim
  | some tq =>
  obtain ⟨ts, ρ1⟩ := tq
  rw [hle] at o
  obtain ⟨L, Te, l, r1, st⟩ := lend_ok l0 r0 st0 hle
  simp only [callT] at o
  cases hp : Tm.pars ρ1 ts with
  | none => rw [hp] at o; exact o.elim
  | some ps =>
    rw [hp] at o
    by_cases hf : ioFree ts = true
    · simp only [hf, if_true] at o
      by_cases hl : ts.any Tm.lent = true
      · -- something is lent
        have st1 : Stt G.K G.w H1 (Te ++ (L ++ Θ)) := st.perm (perm3 L Te Θ)
        obtain ⟨P, p1, p2, p3⟩ := pars_lent l r1 hp st1.lend
        refine ⟨ps, P, L.map toB ++ Θ, p1, p2, p3, ?_⟩
        cases hc : call f ps with
        | no => rw [hc] at o; exact o.elim
        | ret t fin =>
          rw [hc] at o
          intro v H' P' Te' a1 a2 a3 a4
          by_cases hk : (t.pureOk && ioPure ts fin) = true
          · have hk' := Bool.and_eq_true_iff.mp hk
            obtain ⟨Te2, b1, b2, b3⟩ := pure_one a3 hk'.1 (a4.perm (perm3 P' Te' _))
            obtain ⟨P2, c1, c2, c3, c4, c5⟩ := pure_back (R := Te2 ++ (L.map toB ++ Θ)) r1 a1 a2 hk'.2 (b3.perm (perm3 Te2 P' _))
            have s2 : Stt G.K G.w H' ((P2 ++ Te2) ++ (L ++ Θ)) := Stt.unB st (fun e m => List.mem_append_right _ m) (by rw [List.append_assoc]; exact c4) fun e m a => by
              rcases List.mem_append.mp m with m | m
              · exact c3 e m a
              · exact b2 e m a
            obtain ⟨L', d1, d2⟩ := give l r1 c1 rfl (R := Te2 ++ Θ) (s2.perm (by rw [List.append_assoc]; exact perm_mid _ _ _ _))
            rw [c5] at d1
            cases t with
            | v p => simp only [afterCall, hk, Bool.or_true, if_true] at o; exact o v H' L' Te2 d1 (b1.e σ) d2
            | o d p => simp only [afterCall, hk, Bool.or_true, if_true] at o; exact o v H' L' Te2 d1 (b1.e σ) d2
            | s i => exact a3.elim
            | m i d p => exact a3.elim
          · simp only [afterCall, hl, hk, Bool.not_true, Bool.false_or, if_false] at o
            exact o.elim
        | ex c fs fin =>
          rw [hc] at o
          intro d H' P' Fe a1 a2 a3 a4
          by_cases hk : (fs.all (fun q => q.2.pure) && ioPure ts fin) = true
          · have hk' := Bool.and_eq_true_iff.mp hk
            obtain ⟨Te2, b1, b2, b3⟩ := pure_fld a3 hk'.1 (a4.perm (perm3 P' Fe _))
            obtain ⟨P2, c1, c2, c3, c4, c5⟩ := pure_back (R := Te2 ++ (L.map toB ++ Θ)) r1 a1 a2 hk'.2 (b3.perm (perm3 Te2 P' _))
            have s2 : Stt G.K G.w H' ((P2 ++ Te2) ++ (L ++ Θ)) := Stt.unB st (fun e m => List.mem_append_right _ m) (by rw [List.append_assoc]; exact c4) fun e m a => by
              rcases List.mem_append.mp m with m | m
              · exact c3 e m a
              · exact b2 e m a
            obtain ⟨L', d1, d2⟩ := give l r1 c1 rfl (R := Te2 ++ Θ) (s2.perm (by rw [List.append_assoc]; exact perm_mid _ _ _ _))
            rw [c5] at d1
            simp only [afterCall, hk, Bool.or_true, if_true] at o
            exact o d H' L' Te2 d1 b1 d2
          · simp only [afterCall, hl, hk, Bool.not_true, Bool.false_or, if_false] at o
            exact o.elim
      · -- nothing is lent
        have hl' : ts.any Tm.lent = false := Bool.eq_false_iff.mpr hl
        obtain ⟨p1, p2⟩ := pars_plain r1 hl' hp
        refine ⟨ps, Te, L ++ Θ, p1, p2, st.perm (perm3 L Te Θ), ?_⟩
        cases hc : call f ps with
        | no => rw [hc] at o; exact o.elim
        | ret t fin =>
          rw [hc] at o
          intro v H' P' Te' a1 a2 a3 a4
          obtain ⟨L', d1, d2⟩ := give l r1 a1 a2 (R := Te' ++ Θ) (a4.perm (perm_mid _ _ _ _))
          cases t with
          | v p => simp only [afterCall, hl', Bool.not_false, Bool.true_or, if_true] at o; exact o v H' L' Te' d1 (a3.e σ) d2
          | o d p => simp only [afterCall, hl', Bool.not_false, Bool.true_or, if_true] at o; exact o v H' L' Te' d1 (a3.e σ) d2
          | s i => exact a3.elim
          | m i d p => exact a3.elim
        | ex c fs fin =>
          rw [hc] at o
          intro d H' P' Fe a1 a2 a3 a4
          obtain ⟨L', d1, d2⟩ := give l r1 a1 a2 (R := Fe ++ Θ) (a4.perm (perm_mid _ _ _ _))
          simp only [afterCall, hl', Bool.not_false, Bool.true_or, if_true] at o
          exact o d H' L' Fe d1 a3 d2
    · simp only [hf, if_false] at o; exact o.elim
end
end Mi

set_option Elab.async false
set_option linter.all false
set_option maxRecDepth 100000
set_option maxHeartbeats 4000000
/-! Statements. -/
namespace Mi
open PySem PySem.Spec PyProof.Rows L2

/-- slots whose value stays -/
def Fx (fx : List (Nat × V)) (σ : L2.St) : Prop := ∀ q ∈ fx, σ[q.1]? = some (some q.2)
abbrev iosOf (fx : List (Nat × V)) : List Nat := fx.map (·.1)
section
variable (G : Gc) (W : WX) (fx : List (Nat × V))
def OutS (Θ : List Ent) (D : Ends) (r : R Fl) : Prop := match r with
  | .ok .nx ρ' => ∀ σ' H' L', Loc σ' ρ' L' → Fx fx σ' → Stt G.K G.w H' (L' ++ Θ) → D.nx σ' H'
  | .ok (.rt t) ρ' => ∀ v σ' H' L' Te, Loc σ' ρ' L' → Fx fx σ' → TmR t v Te → Stt G.K G.w H' (L' ++ (Te ++ Θ)) → D.rt v H'
  | .ex c fs ρ' => ∀ σ', Fx fx σ' → ExOk G W σ' Θ c fs ρ'
  | .no => False
def tS (f : Evn → R Fl) : TS := fun D σ H => ∃ ρ L Θ, Loc σ ρ L ∧ Fx fx σ ∧ Stt G.K G.w H (L ++ Θ) ∧ OutS G W fx Θ D (f ρ)
end
section
variable {F : Type} {call : F → List Sl → CR} {G : Gc} {W : WX} {fx : List (Nat × V)} {X : Cx} {D : Ends} {σ : L2.St} {H : Hp} {Θ : List Ent}
/-- behind an evaluation -/
theorem tS_R {α β : Type} {f : Evn → R α} {h : α → Evn → R Fl} {rel : L2.St → α → β → List Ent → Prop} (q : tS G W fx (fun ρ => (f ρ).bd h) D σ H) :
    tR G W f rel σ H fun x H1 => ∃ a ρ1 L Θ Te, Loc σ ρ1 L ∧ Fx fx σ ∧ rel σ a x Te ∧ Stt G.K G.w H1 (L ++ (Te ++ Θ)) ∧ OutS G W fx Θ D (h a ρ1) := by
  obtain ⟨ρ, L, Θ, l, fxx, st, o⟩ := q
  have o : OutS G W fx Θ D ((f ρ).bd h) := o
  refine ⟨ρ, L, Θ, l, st, ?_⟩
  cases e : f ρ with
  | no => rw [e] at o; exact o.elim
  | ex c fs ρ' => rw [e] at o; exact o σ fxx
  | ok a ρ1 => rw [e] at o; exact fun b H' L' Te l' r' s' => ⟨a, ρ1, L', Θ, Te, l', fxx, r', s', o⟩
theorem tS_eq {f g : Evn → R Fl} (h : ∀ ρ, f ρ = g ρ) (q : tS G W fx f D σ H) : tS G W fx g D σ H := by
  have e : f = g := funext h
  rw [← e]; exact q
abbrev tSm (G : Gc) (W : WX) (fx : List (Nat × V)) (call : F → List Sl → CR) (s : Sm F) : TS := tS G W fx (evS call (iosOf fx) s)
abbrev tSms (G : Gc) (W : WX) (fx : List (Nat × V)) (call : F → List Sl → CR) (s : List (Sm F)) : TS := tS G W fx (evSs call (iosOf fx) s)

theorem s_pass {pos : Pos} : PS X (.Pass pos) (tSm G W fx call .pass) := ps_pass.imp fun D σ H q => by
  obtain ⟨ρ, L, Θ, l, fxx, st, o⟩ := q
  simp only [evS] at o
  exact o σ H L l fxx st
theorem s_doc {x : Str} {j : Nat} {pos pos' : Pos} : PS X (.Expr (.Constant (.str x) j pos) pos') (tSm G W fx call .pass) := ps_doc.imp fun D σ H q => by
  obtain ⟨ρ, L, Θ, l, fxx, st, o⟩ := q
  simp only [evS] at o
  exact o σ H L l fxx st
theorem s_retN {pos : Pos} : PS X (.Return none pos) (tSm G W fx call .retN) := ps_retN.imp fun D σ H q => by
  obtain ⟨ρ, L, Θ, l, fxx, st, o⟩ := q
  simp only [evS] at o
  refine o .non σ H L [⟨some .non, .v .non, [], fun _ => False⟩] l fxx ⟨_, rfl⟩ ?_
  exact (st.addV (p := .non) (v := .non) rfl (fun _ h => h.elim) fun _ _ _ _ _ h => h).perm List.perm_middle.symm
theorem s_ret {e : Ex F} {a : Expr} {pos : Pos} (h : PE X a (tE G W call e)) : PS X (.Return (some a) pos) (tSm G W fx call (.ret e)) := (ps_ret h).imp fun D σ H q => by
  have q' : tS G W fx (fun ρ => (evE call e ρ).bd fun t ρ1 => (match t with
    | .v p => .ok (.rt (.v p)) ρ1
    | .o d p => .ok (.rt (.o d p)) ρ1
    | _ => .no)) D σ H := tS_eq (fun ρ => by simp only [evS] <;> rfl) q
  refine (tS_R (rel := TmE) q').mono fun x H1 ⟨t, ρ1, L, Θ, Te, l, fxx, r, st, o⟩ => ?_
  cases t with
  | v p => exact o x σ H1 L Te l fxx r st
  | o d p => exact o x σ H1 L Te l fxx r st
  | s i => exact o.elim
  | m i d p => exact o.elim
theorem s_ex {e : Ex F} {a : Expr} {pos : Pos} (h : PE X a (tE G W call e)) (hs : swapsWith a none pos.line X.env = pure false) : PS X (.Expr a pos) (tSm G W fx call (.ex e)) := (ps_expr h hs).imp fun D σ H q => by
  have q' : tS G W fx (fun ρ => (evE call e ρ).bd fun _ ρ1 => .ok .nx ρ1) D σ H := tS_eq (fun ρ => by simp only [evS]) q
  refine (tS_R (rel := TmE) q').mono fun x H1 ⟨t, ρ1, L, Θ, Te, l, fxx, r, st, o⟩ => ?_
  exact o σ H1 L l fxx (st.perm (perm3 L Te Θ)).drop
theorem s_ite {c : Ex F} {a b : List (Sm F)} {ce : Expr} {as bs : List Stmt} {pos : Pos} (hc : PT X ce (tT call G W c)) (ha : PSs X as (tSms G W fx call a)) (hb : PSs X bs (tSms G W fx call b)) : PS X (.If ce as bs pos) (tSm G W fx call (.ite c a b)) :=
  (ps_if hc ha hb).imp fun D σ H q => by
    have q' : tS G W fx (fun ρ => (tst (evE call c ρ)).bd fun k ρ1 => if k then evSs call (iosOf fx) a ρ1 else evSs call (iosOf fx) b ρ1) D σ H := tS_eq (fun ρ => by simp only [evS]) q
    refine (tS_R (rel := BoE) q').mono fun k H1 h1 => ?_
    obtain ⟨t, ρ1, L, Θ, Te, l, fxx, ⟨rfl, rfl⟩, st, o⟩ := h1
    cases t with
    | true => exact ⟨ρ1, L, Θ, l, fxx, st, o⟩
    | false => exact ⟨ρ1, L, Θ, l, fxx, st, o⟩
theorem ss_nil : PSs X [] (tSms G W fx call []) := pss_nil.imp fun D σ H q => by
  obtain ⟨ρ, L, Θ, l, fxx, st, o⟩ := q
  simp only [evSs] at o
  exact o σ H L l fxx st
theorem ss_cons {s : Sm F} {ss : List (Sm F)} {a : Stmt} {as : List Stmt} (h1 : PS X a (tSm G W fx call s)) (h2 : PSs X as (tSms G W fx call ss)) : PSs X (a :: as) (tSms G W fx call (s :: ss)) := (pss_cons h1 h2).imp fun D σ H q => by
  obtain ⟨ρ, L, Θ, l, fxx, st, o⟩ := q
  refine ⟨ρ, L, Θ, l, fxx, st, ?_⟩
  simp only [evSs] at o
  cases e : evS call (iosOf fx) s ρ with
  | no => rw [e] at o; exact o.elim
  | ex c fs ρ' => rw [e] at o; exact o
  | ok fl ρ1 =>
    rw [e] at o
    cases fl with
    | nx => exact fun σ' H' L' l' f' s' => ⟨ρ1, L', Θ, l', f', s', o⟩
    | rt t => exact o
/-! ### assignments -/
theorem Fx.set {i : Nat} {x : Option V} (h : Fx fx σ) (hi : (iosOf fx).contains i = false) : Fx fx (σ.set i x) := fun q hq => by
  have ne : i ≠ q.1 := fun e => by
    have : (iosOf fx).contains i = true := by
      rw [List.contains_iff_mem]
      exact List.mem_map.mpr ⟨q, hq, e.symm⟩
    rw [hi] at this; cases this
  rw [List.getElem?_set_ne ne]
  exact h q hq
theorem canSet_parts {ios : List Nat} {ρ : Evn} {i : Nat} (h : canSet ios ρ i = true) : ios.contains i = false ∧ (ρ.at i).free = true ∧ i < ρ.length := by
  unfold canSet at h
  rw [Bool.and_eq_true, Bool.and_eq_true, Bool.not_eq_true', decide_eq_true_eq] at h
  exact ⟨h.1.1, h.1.2, h.2⟩
/-- a slot gets another holder -/
theorem Loc.put {σ : L2.St} {ρ : Evn} {L : List Ent} {i : Nat} {x : Ent} (l : Loc σ ρ L) : Loc (σ.set i x.v) (ρ.set i x.s) (L.set i x) := by
  obtain ⟨l1, l2⟩ := l
  exact ⟨by rw [List.map_set, l1], by rw [List.map_set, l2]⟩
theorem Stt.store {K : PySem.W.Frag} {w : World} {L R : List Ent} {i : Nat} {x : Ent} (st : Stt K w H (L ++ ([x] ++ R))) (hi : i < L.length) : Stt K w H (L.set i x ++ R) := by
  have s1 : Stt K w H (L[i]'hi :: (L.eraseIdx i ++ ([x] ++ R))) := st.out (List.getElem?_eq_getElem hi)
  have s2 : Stt K w H (x :: (L.eraseIdx i ++ R)) := s1.tail.perm List.perm_middle
  exact s2.put hi
theorem Loc.len {σ : L2.St} {ρ : Evn} {L : List Ent} (l : Loc σ ρ L) : L.length = ρ.length := by rw [← l.2, List.length_map]
theorem asg_core {i : Nat} {e : Ex F} (q : tSm G W fx call (.asg i e) D σ H) : tAsg (tE G W call e) (gName i) D σ H := by
  have q' : tS G W fx (fun ρ => (evE call e ρ).bd fun t ρ1 => if canSet (iosOf fx) ρ1 i then (match t with
    | .v p => .ok .nx (ρ1.set i (.v p))
    | .o d p => .ok .nx (ρ1.set i (.o d p))
    | _ => .no) else .no) D σ H := tS_eq (fun ρ => by simp only [evS] <;> rfl) q
  refine (tS_R (rel := TmE) q').mono fun x H1 ⟨t, ρ1, L, Θ, Te, l, fxx, r, st, o⟩ => ?_
  by_cases hc : canSet (iosOf fx) ρ1 i = true
  · simp only [hc, if_true] at o
    obtain ⟨c1, c2, c3⟩ := canSet_parts hc
    have hi : i < L.length := by rw [l.len]; exact c3
    cases t with
    | v p =>
      obtain ⟨z, rfl⟩ := r
      exact o (σ.set i (some x)) H1 (L.set i ⟨some x, .v p, [], z⟩) (Loc.put (x := ⟨some x, .v p, [], z⟩) l) (fxx.set c1) (st.store hi)
    | o d p =>
      obtain ⟨fp, z, rfl⟩ := r
      exact o (σ.set i (some x)) H1 (L.set i ⟨some x, .o d p, fp, z⟩) (Loc.put (x := ⟨some x, .o d p, fp, z⟩) l) (fxx.set c1) (st.store hi)
    | s i => exact o.elim
    | m i d p => exact o.elim
  · simp only [hc, if_false] at o; exact o.elim
theorem asgO_core {i d : Nat} {e : Ex F} (q : tSm G W fx call (.asgO i d e) D σ H) : tAsg (tE G W call e) (gName i) D σ H := by
  have q' : tS G W fx (fun ρ => (evE call e ρ).bd fun t ρ1 => if canSet (iosOf fx) ρ1 i then (match t.dn (d + 1) with
    | some p => .ok .nx (ρ1.set i (.o d p))
    | none => .no) else .no) D σ H := tS_eq (fun ρ => by simp only [evS] <;> rfl) q
  refine (tS_R (rel := TmE) q').mono fun x H1 ⟨t, ρ1, L, Θ, Te, l, fxx, r, st, o⟩ => ?_
  by_cases hc : canSet (iosOf fx) ρ1 i = true
  · simp only [hc, if_true] at o
    obtain ⟨c1, c2, c3⟩ := canSet_parts hc
    have hi : i < L.length := by rw [l.len]; exact c3
    cases hd : t.dn (d + 1) with
    | none => rw [hd] at o; exact o.elim
    | some p =>
      rw [hd] at o
      have st1 : Stt G.K G.w H1 (Te ++ (L ++ Θ)) := st.perm (perm3 L Te Θ)
      obtain ⟨z, f, ro, _, _, hold⟩ := hold_one st1 r hd
      have st2 := hold.addO st1.drop ro
      exact o (σ.set i (some x)) H1 (L.set i ⟨some x, .o d p, f, z⟩) (Loc.put (x := ⟨some x, .o d p, f, z⟩) l) (fxx.set c1) (Stt.store (x := ⟨some x, .o d p, f, z⟩) (st2.perm List.perm_middle.symm) hi)
  · simp only [hc, if_false] at o; exact o.elim
end
end Mi

set_option Elab.async false
set_option linter.all false
set_option maxRecDepth 100000
set_option maxHeartbeats 4000000
/-! Targets, what is walked, loops. -/
namespace Mi
open PySem PySem.Spec PyProof.Rows L2

def gNames : List Nat → TGs
  | [] => gNil
  | i :: is => gCons (gName i) (gNames is)
def gT (K : PySem.W.Frag) : Tg → TG
  | .n i => gName i
  | .t is => gTup K is.length (gNames is)
section
variable {K : PySem.W.Frag} {w : World} {G : Gc} {fx : List (Nat × V)} {H : Hp}
theorem Stt.share {es : List Ent} {e : Ent} {p : PV} {v : V} (st : Stt K w H es) (m : e ∈ es) (r : R0 K w H e.z p v) : Stt K w H (⟨some v, .v p, [], e.z⟩ :: es) :=
  st.addV r (st.ok e m).1 fun f mf x a ha => st.nz f mf x a ha e m
theorem binds {e : Ent} {R : List Ent} {Q : L2.St → Hp → Prop} (P : L2.St → Prop) : ∀ {is : List Nat} {xs : List PV} {vs : List V} {σ : L2.St} {ρ : Evn} {L : List Ent}, Loc σ ρ L → Fx fx σ → Stt K w H (L ++ ([e] ++ R)) → R0s K w H e.z xs vs → xs.length = is.length →
    (∀ i ∈ is, i < ρ.length ∧ (iosOf fx).contains i = false) → P σ → (∀ σ i v, i ∈ is → P σ → P (σ.set i v)) → (∀ σ2 L2, P σ2 → Loc σ2 ((is.zip xs).foldl (fun r q => r.set q.1 (.v q.2)) ρ) L2 → Fx fx σ2 → Stt K w H (L2 ++ ([e] ++ R)) → Q σ2 H) → gNames is vs σ H Q
  | [], xs, vs, σ, ρ, L, l, f, st, r, hl, hi, hp, hs, hq => by
    obtain rfl : xs = [] := List.eq_nil_of_length_eq_zero hl
    cases r
    exact ⟨rfl, hq σ L hp l f st⟩
  | i :: is, [], vs, σ, ρ, L, l, f, st, r, hl, hi, hp, hs, hq => by simp at hl
  | i :: is, x :: xs, vs, σ, ρ, L, l, f, st, r, hl, hi, hp, hs, hq => by
    obtain ⟨v, vs', rfl, r1, r2⟩ := r
    refine ⟨v, vs', rfl, ?_⟩
    obtain ⟨i1, i2⟩ := hi i List.mem_cons_self
    have hL : i < L.length := by rw [l.len]; exact i1
    have st2 := st.share (e := e) (List.mem_append_right _ (List.mem_append_left _ List.mem_cons_self)) r1
    have st3 : Stt K w H (L.set i ⟨some v, .v x, [], e.z⟩ ++ ([e] ++ R)) := Stt.store (x := ⟨some v, .v x, [], e.z⟩) (st2.perm List.perm_middle.symm) hL
    show gNames is vs' (σ.set i (some v)) H Q
    exact binds P (Loc.put (x := ⟨some v, .v x, [], e.z⟩) l) (f.set i2) st3 r2 (by simpa using hl) (fun j hj => ⟨by rw [List.length_set]; exact (hi j (List.mem_cons_of_mem _ hj)).1, (hi j (List.mem_cons_of_mem _ hj)).2⟩) (hs _ _ _ List.mem_cons_self hp) (fun σ j v hj => hs σ j v (List.mem_cons_of_mem _ hj)) hq
/-- a target gets an item -/
theorem bind_coreP (P : L2.St → Prop) {t : Tg} {x : PV} {xv : V} {σ : L2.St} {ρ ρ2 : Evn} {L R : List Ent} {z : Addr → Prop} {Q : L2.St → Hp → Prop} (l : Loc σ ρ L) (f : Fx fx σ) (st : Stt K w H (L ++ ([⟨some xv, .v x, [], z⟩] ++ R))) (h : bindS (iosOf fx) t x ρ = some ρ2)
    (hp : P σ) (hs : ∀ σ i v, i ∈ t.is → P σ → P (σ.set i v)) (hq : ∀ σ2 L2, P σ2 → Loc σ2 ρ2 L2 → Fx fx σ2 → Stt K w H (L2 ++ R) → Q σ2 H) : gT K t xv σ H Q := by
  unfold bindS at h
  split at h
  · rename_i hc
    rw [Bool.and_eq_true, List.all_eq_true] at hc
    have hc1 := fun i hi => canSet_parts (hc.1 i hi)
    cases t with
    | n i =>
      obtain ⟨c1, c2, c3⟩ := hc1 i List.mem_cons_self
      have e : ρ.set i (.v x) = ρ2 := Option.some.inj h
      subst e
      exact hq (σ.set i (some xv)) (L.set i ⟨some xv, .v x, [], z⟩) (hs _ _ _ List.mem_cons_self hp) (Loc.put (x := ⟨some xv, .v x, [], z⟩) l) (f.set c1) (st.store (by rw [l.len]; exact c3))
    | t is =>
      cases x with
      | tup xs =>
        simp only [bindT] at h
        split at h
        · rename_i hl
          cases h
          obtain ⟨_, _, u, e1, a, vs, e2, t1, t2⟩ := st.ok ⟨some xv, .v (.tup xs), [], z⟩ (List.mem_append_right _ (List.mem_append_left _ List.mem_cons_self))
          cases e1
          refine ⟨a, vs, e2, t1.sq, by rw [t2.length]; exact hl, ?_⟩
          refine binds P (e := ⟨some xv, .v (.tup xs), [], z⟩) l f st t2 hl (fun i hi => ⟨(hc1 i hi).2.2, (hc1 i hi).1⟩) hp hs fun σ2 L2 p2 l2 f2 s2 => hq σ2 L2 p2 l2 f2 ?_
          exact (s2.perm (perm3 _ _ _)).tail
        · cases h
      | _ => simp only [bindT] at h; cases h
  · cases h
theorem bind_core {t : Tg} {x : PV} {xv : V} {σ : L2.St} {ρ ρ2 : Evn} {L R : List Ent} {z : Addr → Prop} {Q : L2.St → Hp → Prop} (l : Loc σ ρ L) (f : Fx fx σ) (st : Stt K w H (L ++ ([⟨some xv, .v x, [], z⟩] ++ R))) (h : bindS (iosOf fx) t x ρ = some ρ2)
    (hq : ∀ σ2 L2, Loc σ2 ρ2 L2 → Fx fx σ2 → Stt K w H (L2 ++ R) → Q σ2 H) : gT K t xv σ H Q :=
  bind_coreP (fun _ => True) l f st h trivial (fun _ _ _ _ _ => trivial) fun σ2 L2 _ l2 f2 s2 => hq σ2 L2 l2 f2 s2
end
section
variable {F : Type} {call : F → List Sl → CR} {G : Gc} {W : WX} {fx : List (Nat × V)} {X : Cx} {D : Ends} {σ : L2.St} {H : Hp} {Θ : List Ent}
theorem unp_core {is : List Nat} {e : Ex F} (q : tSm G W fx call (.unp is e) D σ H) : tAsg (tE G W call e) (gT G.K (.t is)) D σ H := by
  have q' : tS G W fx (fun ρ => (evE call e ρ).bd fun t ρ1 => (match t with
    | .v p => (match bindS (iosOf fx) (.t is) p ρ1 with | some ρ2 => .ok .nx ρ2 | none => .no)
    | _ => .no)) D σ H := tS_eq (fun ρ => by simp only [evS] <;> rfl) q
  refine (tS_R (rel := TmE) q').mono fun x H1 h1 => ?_
  obtain ⟨t, ρ1, L, Θ, Te, l, fxx, r, st, o⟩ := h1
  cases t with
  | v p =>
    obtain ⟨z, rfl⟩ := r
    cases hb : bindS (iosOf fx) (.t is) p ρ1 with
    | none => simp only [hb] at o; exact o.elim
    | some ρ2 =>
      simp only [hb] at o
      exact bind_core l fxx st hb fun σ2 L2 l2 f2 s2 => o σ2 H1 L2 l2 f2 s2
  | o d p => exact o.elim
  | s i => exact o.elim
  | m i d p => exact o.elim

/-! ### what is walked -/
def iAny (K : PySem.W.Frag) (te : TE) : TI := fun σ H R => te σ H fun x H1 => (∃ a, x = .ref a ∧ (∃ xs, SqL K H1 a xs) ∧ R (Itl K a) H1) ∨ (∃ a, x = .ref a ∧ (∃ xs, SqT K H1 a xs) ∧ R (Itt K a) H1) ∨ ∃ y, x = .str y ∧ R (Its y) H1
theorem pi_any {tg l : Expr} {tl : TE} (hl : PE X l tl) : PI X tg l (iAny X.K tl) := by
  refine ⟨fun pins s σ H R I h => ?_⟩
  refine thn (hl.run pins s σ H _ I h) fun v s1 ⟨x, H1, I1, r1, q1⟩ => ?_
  rcases q1 with ⟨a, rfl, ⟨xs, hq⟩, q⟩ | ⟨a, rfl, ⟨xs, hq⟩, q⟩ | ⟨y, rfl, q⟩
  · cases r1
    obtain ⟨its, rv, p, hz⟩ := I1.list hq
    refine wpAny_pyIter_list p.isList ?_
    refine ⟨s1.heap.objs.size, [s1.heap.objs.size], _, _, H1, rfl, I1.kept (t' := s1.toks) fun b o e => Heap.get?_push_of_some _ e, turn_list a _, ⟨_, Heap.get?_push_size _ rfl, rfl, rfl⟩, fun b hb => ?_, q⟩
    have e : b = s1.heap.objs.size := by simpa using hb
    subst e
    exact I1.fpOk (Nat.le_refl _) (I1.hok.fresh (Nat.le_refl _))
  · cases r1
    obtain ⟨its, rv, p, hz⟩ := I1.tuple hq
    refine wpAny_pyIter_tuple (show s1.heap.IsTuple a its.toArray from p) ?_
    refine ⟨s1.heap.objs.size, [s1.heap.objs.size], _, _, H1, rfl, I1.kept (t' := s1.toks) fun b o e => Heap.get?_push_of_some _ e, turn_tuple a _, ⟨_, Heap.get?_push_size _ rfl, rfl, rfl⟩, fun b hb => ?_, q⟩
    have e : b = s1.heap.objs.size := by simpa using hb
    subst e
    exact I1.fpOk (Nat.le_refl _) (I1.hok.fresh (Nat.le_refl _))
  · obtain ⟨t, rfl⟩ := r1
    cases ha : y.cps.all (· < 128)
    · exact wpAny_pyIter_wide ha (pi_one (tk := s1.toks) I1 _ (turn_str _ y t "str_iterator" (.inr rfl)) ⟨_, Heap.get?_push_size _ rfl, rfl, rfl⟩ q)
    · exact wpAny_pyIter_ascii ha (pi_one (tk := s1.toks) I1 _ (turn_str _ y t "str_ascii_iterator" (.inl rfl)) ⟨_, Heap.get?_push_size _ rfl, rfl, rfl⟩ q)
/-- the iterator J tells the items xs, as long as C -/
def JOk (K : PySem.W.Frag) (w : World) (J : It) (xs : List PV) (C : List Ent → Prop) : Prop := ∀ H es, Stt K w H es → C es → ∀ i, (xs.length ≤ i → J.stop i H) ∧ ∀ x, xs[i]? = some x → J.go i H ∧ ∀ v H', J.yld i H v H' → H' = H ∧ ∃ z, Stt K w H (⟨some v, .v x, [], z⟩ :: es)
/-- somebody holds the source -/
def SrcE (v : V) (p : PV) (es : List Ent) : Prop := ∃ e ∈ es, e.v = some v ∧ (e.s = .v p ∨ e.s = .o 0 p ∨ e.s = .l 0 p)
theorem src_a1 {K : PySem.W.Frag} {w : World} {v : V} {p : PV} {es : List Ent} (st : Stt K w H es) (h : SrcE v p es) : ∃ e ∈ es, A1 K w H e.z p v := by
  obtain ⟨e, m, ev, es'⟩ := h
  refine ⟨e, m, ?_⟩
  obtain ⟨v0, s0, f0, z0⟩ := e
  obtain rfl : v0 = some v := ev
  have ok := st.ok _ m
  rcases es' with e | e | e
  · obtain rfl : s0 = _ := e; obtain ⟨_, _, u, e1, r⟩ := ok; cases e1; exact r.a1
  · obtain rfl : s0 = _ := e; obtain ⟨_, u, e1, r⟩ := ok; cases e1; exact r.a1
  · obtain rfl : s0 = _ := e; obtain ⟨_, u, e1, r⟩ := ok; cases e1; exact r.a1
theorem jok_list {K : PySem.W.Frag} {w : World} {a : Addr} {xs : List PV} : JOk K w (Itl K a) xs (SrcE (.ref a) (.lst xs)) := by
  intro H es st hc i
  obtain ⟨e, m, h⟩ := src_a1 st hc
  obtain ⟨a', vs, e1, h1, h2⟩ := h.lst
  cases e1
  refine ⟨fun hi => ⟨vs, .of h1, by rw [h2.length]; exact hi⟩, fun x hx => ?_⟩
  obtain ⟨v, g1, g2⟩ := h2.get hx
  refine ⟨⟨vs, v, .of h1, g1⟩, fun u H' ⟨e2, hy⟩ => ⟨e2, e.z, ?_⟩⟩
  have := hy vs (.of h1)
  rw [g1] at this
  cases this
  exact st.share m g2
theorem jok_tup {K : PySem.W.Frag} {w : World} {a : Addr} {xs : List PV} : JOk K w (Itt K a) xs (SrcE (.ref a) (.tup xs)) := by
  intro H es st hc i
  obtain ⟨e, m, h⟩ := src_a1 st hc
  obtain ⟨a', vs, e1, h1, h2⟩ := h.tup
  cases e1
  refine ⟨fun hi => ⟨vs, h1, by rw [h2.length]; exact hi⟩, fun x hx => ?_⟩
  obtain ⟨v, g1, g2⟩ := h2.get hx
  refine ⟨⟨vs, v, h1, g1⟩, fun u H' ⟨e2, hy⟩ => ⟨e2, e.z, ?_⟩⟩
  have := hy vs h1
  rw [g1] at this
  cases this
  exact st.share m g2
theorem Stt.flatV {K : PySem.W.Frag} {w : World} {es : List Ent} {p : PV} {v : V} (st : Stt K w H es) (r : R0 K w H (fun _ => False) p v) : Stt K w H (⟨some v, .v p, [], fun _ => False⟩ :: es) := st.addV r (fun _ h => h.elim) fun _ _ _ _ _ h => h
theorem jok_str {K : PySem.W.Frag} {w : World} {y : Str} : JOk K w (Its y) (y.cps.toList.map fun c => PV.str ⟨#[c]⟩) (fun _ => True) := by
  intro H es st hc i
  refine ⟨fun hi => ?_, fun x hx => ?_⟩
  · rw [List.length_map, Array.length_toList] at hi
    exact hi
  · rw [List.getElem?_map, Option.map_eq_some_iff] at hx
    obtain ⟨c, hc, rfl⟩ := hx
    rw [Array.getElem?_toList] at hc
    have hl : i < y.cps.size := (Array.getElem?_eq_some_iff.mp hc).1
    refine ⟨hl, fun v H' ⟨e2, c', e3, e4⟩ => ⟨e2, _, st.flatV ?_⟩⟩
    rw [hc] at e3
    cases e3
    exact e4
theorem jok_range {K : PySem.W.Frag} {w : World} {lo : Int} {n : Nat} : JOk K w (Itr lo n) (rangeL lo n 1) (fun _ => True) := by
  intro H es st hc i
  unfold rangeL
  refine ⟨fun hi => ?_, fun x hx => ?_⟩
  · rw [List.length_map, List.length_range] at hi
    exact hi
  · rw [List.getElem?_map, Option.map_eq_some_iff] at hx
    obtain ⟨j, hj, rfl⟩ := hx
    have hl : i < n := by
      have := (List.getElem?_eq_some_iff.mp hj).1
      rwa [List.length_range] at this
    rw [List.getElem?_range hl] at hj
    cases hj
    refine ⟨hl, fun v H' ⟨e2, e3⟩ => ⟨e2, _, st.flatV ?_⟩⟩
    show v = V.int (lo + (i : Int) * 1)
    rw [e3, Int.mul_one]
end
end Mi

set_option Elab.async false
set_option linter.all false
set_option maxRecDepth 100000
set_option maxHeartbeats 4000000
/-! Loops. -/
namespace Mi
open PySem PySem.Spec PyProof.Rows L2

theorem PI.imp {X : Cx} {tg e : Expr} {t t' : TI} (h : PI X tg e t) (i : ∀ σ H R, t' σ H R → t σ H R) : PI X tg e t' := ⟨fun pins s σ H R I hr => h.run pins s σ H R I (i σ H R hr)⟩
section
variable {K : PySem.W.Frag} {w : World} {H : Hp}
/-- the same, under another name of its place -/
theorem Stt.relabel {e : Ent} {es : List Ent} {s : Sl} {d : Nat} {p : PV} (st : Stt K w H (e :: es)) (h : e.s = .o d p ∨ e.s = .l d p) (hs : s = .o d p ∨ s = .l d p) : Stt K w H ({ e with s := s } :: es) := by
  have ex : e.s.excl = true := by rcases h with h | h <;> (rw [h]; rfl)
  refine ⟨fun x m => ?_, st.nd, fun x m q a ha f mf => ?_⟩
  · rcases List.mem_cons.mp m with rfl | m
    · have ok := st.ok e List.mem_cons_self
      obtain ⟨v0, s0, f0, z0⟩ := e
      rcases h with h | h <;> rcases hs with hs | hs <;> (obtain rfl : s0 = _ := h; subst hs; exact ok)
    · exact st.ok x (List.mem_cons_of_mem _ m)
  · have key : ∀ y, y ∈ e :: es → y.s.excl = true → a ∈ y.fp → ¬ f.z a := fun y my qy hy => by
      rcases List.mem_cons.mp mf with rfl | mf
      · exact st.nz y my qy a hy e List.mem_cons_self
      · exact st.nz y my qy a hy f (List.mem_cons_of_mem _ mf)
    rcases List.mem_cons.mp m with rfl | m
    · exact key e List.mem_cons_self ex ha
    · exact key x (List.mem_cons_of_mem _ m) q ha
theorem relabel_at {σ : L2.St} {ρ : Evn} {L R : List Ent} {i : Nat} {s : Sl} {d : Nat} {p : PV} (l : Loc σ ρ L) (st : Stt K w H (L ++ R)) (h : ρ.at i = .o d p ∨ ρ.at i = .l d p) (hs : s = .o d p ∨ s = .l d p) :
    ∃ L', Loc σ (ρ.set i s) L' ∧ Stt K w H (L' ++ R) := by
  obtain ⟨e, e1, e2, e3⟩ : ∃ e, L[i]? = some e ∧ (e.s = .o d p ∨ e.s = .l d p) ∧ σ[i]? = some e.v := by
    rcases h with h | h
    · obtain ⟨e, a1, a2, a3⟩ := l.ent h (by intro z; cases z); exact ⟨e, a1, .inl a2, a3⟩
    · obtain ⟨e, a1, a2, a3⟩ := l.ent h (by intro z; cases z); exact ⟨e, a1, .inr a2, a3⟩
  exact ⟨L.set i { e with s := s }, l.set e1 rfl, Stt.put (x := { e with s := s }) ((st.out e1).relabel e2 hs) (lt_of_get e1)⟩
theorem unlock_ok {σ : L2.St} {ρ : Evn} {L R : List Ent} {i : Nat} (l : Loc σ ρ L) (st : Stt K w H (L ++ R)) : ∃ L', Loc σ (unlock i ρ) L' ∧ Stt K w H (L' ++ R) := by
  unfold unlock
  cases h : ρ.at i with
  | l d p => exact relabel_at l st (.inr h) (.inl rfl)
  | u => exact ⟨L, l, st⟩
  | v p => exact ⟨L, l, st⟩
  | o d p => exact ⟨L, l, st⟩
  | b d p => exact ⟨L, l, st⟩
/-- a walk's way back -/
def BackOk (b : Evn → Evn) : Prop := ∀ (K : PySem.W.Frag) (w : World) (H : Hp) (σ : L2.St) (ρ : Evn) (L R : List Ent), Loc σ ρ L → Stt K w H (L ++ R) → ∃ L', Loc σ (b ρ) L' ∧ Stt K w H (L' ++ R)
end
section
variable {F : Type} (call : F → List Sl → CR) (G : Gc) (W : WX)
/-- a walk's source -/
def iS (it : Ex F) : TI := fun σ H R => ∃ ρ L Θ, Loc σ ρ L ∧ Stt G.K G.w H (L ++ Θ) ∧ Out G W σ Θ (evE call it ρ) fun t ρ1 => ∃ k, t.walk ρ1 = some k ∧
  ∀ J H1 L1 Te C, Loc σ k.ρ L1 → Stt G.K G.w H1 (L1 ++ (Te ++ Θ)) → JOk G.K G.w J k.xs C → (∀ es es' : List Ent, (∀ e ∈ es, e ∈ es') → C es → C es') → BackOk k.back → (∀ i p, k.lk = some (i, p) → ∃ v, σ[i]? = some (some v)) →
    (∀ σ' ρ' L', Loc σ' ρ' L' → (∀ i p, k.lk = some (i, p) → σ'[i]? = σ[i]?) → k.chk ρ' → C (L' ++ (Te ++ Θ))) → R J H1
end
section
variable {F : Type} {call : F → List Sl → CR} {G : Gc} {W : WX} {fx : List (Nat × V)} {X : Cx} {D : Ends} {σ : L2.St} {H : Hp} {Θ : List Ent}
theorem srcMono {v : V} {p : PV} : ∀ es es' : List Ent, (∀ e ∈ es, e ∈ es') → SrcE v p es → SrcE v p es' := fun es es' h ⟨e, m, q⟩ => ⟨e, h e m, q⟩
theorem backId : BackOk id := fun K w H σ ρ L R l st => ⟨L, l, st⟩
theorem src_any {it : Ex F} {R : It → Hp → Prop} (hK : G.K = X.K) (q : iS call G W it σ H R) : iAny X.K (tE G W call it) σ H R := by
  obtain ⟨ρ, L, Θ, l, st, o⟩ := q
  refine ⟨ρ, L, Θ, l, st, o.imp fun t ρ1 h1 x H1 L1 Te l1 r1 s1 => ?_⟩
  obtain ⟨k, hk, hR⟩ := h1
  rw [← hK]
  -- by what the source is
  have fin : ∀ (p : PV) (L1 : List Ent), Loc σ k.ρ L1 → Stt G.K G.w H1 (L1 ++ (Te ++ Θ)) → seqOf p = some k.xs → SrcE x p (L1 ++ (Te ++ Θ)) → BackOk k.back → (∀ i p, k.lk = some (i, p) → ∃ v, σ[i]? = some (some v)) →
      (∀ σ' ρ' L', Loc σ' ρ' L' → (∀ i p, k.lk = some (i, p) → σ'[i]? = σ[i]?) → k.chk ρ' → SrcE x p (L' ++ (Te ++ Θ))) →
      (∃ a, x = .ref a ∧ (∃ xs, SqL G.K H1 a xs) ∧ R (Itl G.K a) H1) ∨ (∃ a, x = .ref a ∧ (∃ xs, SqT G.K H1 a xs) ∧ R (Itt G.K a) H1) ∨ ∃ y, x = .str y ∧ R (Its y) H1 := by
    intro p L1 l1 s1 hs hsrc hb hl hc
    obtain ⟨e, m, ha⟩ := src_a1 s1 hsrc
    cases p with
    | tup xs =>
      cases hs
      obtain ⟨a, vs, rfl, g1, g2⟩ := ha.tup
      exact .inr (.inl ⟨a, rfl, ⟨vs, g1⟩, hR _ H1 L1 Te _ l1 s1 jok_tup srcMono hb hl hc⟩)
    | lst xs =>
      cases hs
      obtain ⟨a, vs, rfl, g1, g2⟩ := ha.lst
      exact .inl ⟨a, rfl, ⟨vs, .of g1⟩, hR _ H1 L1 Te _ l1 s1 jok_list srcMono hb hl hc⟩
    | str y =>
      have hs' : y.cps.toList.map (fun c => PV.str ⟨#[c]⟩) = k.xs := Option.some.inj hs
      cases ha
      refine .inr (.inr ⟨y, rfl, hR _ H1 L1 Te (fun _ => True) l1 s1 ?_ (fun _ _ _ _ => trivial) hb hl fun _ _ _ _ _ _ => trivial⟩)
      rw [← hs']
      exact jok_str
    | _ => cases hs
  cases t with
  | v p =>
    obtain ⟨z, rfl⟩ := r1
    simp only [Tm.walk, Option.map_eq_some_iff] at hk
    obtain ⟨xs, hs, rfl⟩ := hk
    have src : ∀ L' : List Ent, SrcE x p (L' ++ ([⟨some x, .v p, [], z⟩] ++ Θ)) := fun L' => ⟨_, List.mem_append_right _ (List.mem_append_left _ List.mem_cons_self), rfl, .inl rfl⟩
    exact fin p L1 l1 s1 hs (src L1) backId (fun _ _ e => nomatch e) fun _ _ L' _ _ _ => src L'
  | o d p =>
    obtain ⟨fp, z, rfl⟩ := r1
    cases d with
    | succ d => simp only [Tm.walk] at hk; cases hk
    | zero =>
      simp only [Tm.walk, Option.map_eq_some_iff] at hk
      obtain ⟨xs, hs, rfl⟩ := hk
      have src : ∀ L' : List Ent, SrcE x p (L' ++ ([⟨some x, .o 0 p, fp, z⟩] ++ Θ)) := fun L' => ⟨_, List.mem_append_right _ (List.mem_append_left _ List.mem_cons_self), rfl, .inr (.inl rfl)⟩
      exact fin p L1 l1 s1 hs (src L1) backId (fun _ _ e => nomatch e) fun _ _ L' _ _ _ => src L'
  | m i d p => simp only [Tm.walk] at hk; cases hk
  | s i =>
    obtain ⟨r1, rfl⟩ := r1
    have src : ∀ (p : PV) (σ' : L2.St) (ρ' : Evn) (L' : List Ent), Loc σ' ρ' L' → σ'[i]? = σ[i]? → ρ'.at i = .l 0 p → SrcE x p (L' ++ ([] ++ Θ)) := fun p σ' ρ' L' l' es hc => by
      obtain ⟨e, a1, a2, a3⟩ := Loc.ent l' hc (by intro z; cases z)
      rw [es, r1] at a3
      exact ⟨e, List.mem_append_left _ (List.mem_of_getElem? a1), (Option.some.inj a3).symm, .inr (.inr a2)⟩
    simp only [Tm.walk] at hk
    cases h : ρ1.at i with
    | o d p =>
      rw [h] at hk
      cases d with
      | succ d => cases hk
      | zero =>
        simp only [Option.map_eq_some_iff] at hk
        obtain ⟨xs, hs, rfl⟩ := hk
        obtain ⟨L2, l2, s2⟩ := relabel_at (s := .l 0 p) l1 s1 (.inl h) (.inr rfl)
        have hat : Evn.at (ρ1.set i (.l 0 p)) i = .l 0 p := by
          have hi : i < ρ1.length := by
            have := lt_of_get r1
            rw [← l1.1, List.length_map] at this
            rw [← l1.len]; exact this
          rw [Evn.at_eq, List.getElem?_set_self hi]
          rfl
        refine fin p L2 l2 s2 hs (src p σ _ L2 l2 rfl hat) (fun K w H σ ρ L R l st => unlock_ok l st) (fun j p' e => by cases e; exact ⟨x, r1⟩) fun σ' ρ' L' l' es hc => src p σ' ρ' L' l' (es i p rfl) hc
    | l d p =>
      rw [h] at hk
      cases d with
      | succ d => cases hk
      | zero =>
        simp only [Option.map_eq_some_iff] at hk
        obtain ⟨xs, hs, rfl⟩ := hk
        refine fin p L1 l1 s1 hs (src p σ _ L1 l1 rfl h) backId (fun j p' e => by cases e; exact ⟨x, r1⟩) fun σ' ρ' L' l' es hc => src p σ' ρ' L' l' (es i p rfl) hc
    | u => rw [h] at hk; cases hk
    | v p => rw [h] at hk; cases hk
    | b d p => rw [h] at hk; cases hk
theorem pi_src {tg e : Expr} {it : Ex F} (h : PE X e (tE G W call it)) (hK : G.K = X.K) : PI X tg e (iS call G W it) := PI.imp (pi_any h) fun σ H R q => src_any hK q
theorem src_range {es : List (Ex F)} {p : Pr} {R : It → Hp → Prop} {rd : List V → Hp → (It → Hp → Prop) → Prop} (q : iS call G W (.pr p es) σ H R)
    (hp : ∀ (K : PySem.W.Frag) (w : World) (H : Hp) (z : Addr → Prop) (ps : List PV) (vs : List V) (q : PV) (R : It → Hp → Prop), A1s K w H z ps vs → evP p ps = some q → (∀ xs, mkTm p.fresh q = .o 0 (.lst xs) → ∀ J, JOk K w J xs (fun _ => True) → R J H) → (∃ xs, mkTm p.fresh q = .o 0 (.lst xs)) → rd vs H R)
    (ho : ∀ ps q, evP p ps = some q → ∃ xs, mkTm p.fresh q = .o 0 (.lst xs)) :
    tEs G W call es σ H fun vs H1 => rd vs H1 R := by
  obtain ⟨ρ, L, Θ, l, st, o⟩ := q
  refine ⟨ρ, L, Θ, l, st, ?_⟩
  have e1 : evE call (.pr p es) ρ = (evEs call es ρ).bd fun ts ρ1 => match Tm.args ρ1 ts with
    | some ps => (match evP p ps with | some r => .ok (mkTm p.fresh r) ρ1 | none => .no)
    | none => .no := by simp only [evE] <;> rfl
  rw [e1, Out.bd] at o
  refine o.imp fun ts ρ1 o1 vs H1 L1 Te l1 r1 s1 => ?_
  cases ha : Tm.args ρ1 ts with
  | none => rw [ha] at o1; exact o1.elim
  | some ps =>
    rw [ha] at o1
    cases he : evP p ps with
    | none => simp only [he] at o1; exact o1.elim
    | some a =>
      simp only [he] at o1
      obtain ⟨k, hk, hR⟩ := o1
      refine hp G.K G.w H1 _ ps vs a R (Tm.args_ok l1 s1 (fun x hx => List.mem_append_left _ hx) (fun x hx => List.mem_append_right _ (List.mem_append_left _ hx)) r1 ha) he (fun xs hx J hJ => ?_) (ho ps a he)
      rw [hx] at hk
      simp only [Tm.walk, seqOf, Option.map_some, Option.some.injEq] at hk
      subst hk
      exact hR J H1 L1 [] (fun _ => True) l1 ((s1.perm (perm3 L1 Te Θ)).drop) hJ (fun _ _ _ _ => trivial) backId (fun _ _ e => nomatch e) fun _ _ _ _ _ _ => trivial
theorem pi_range1S {a : Expr} {e1 : Ex F} {tg : Expr} {p pos : Pos} (hg : Gl X "range") (hm : X.mg "range" = none) (ha : PE X a (tE G W call e1)) (hs : isStar a = false) : PI X tg (.Call (.Name "range" p) [a] [] pos) (iS call G W (.pr .range1 [e1])) := by
  have hn : noStars [a] := fun b hb => by obtain rfl := List.mem_singleton.mp hb; exact hs
  refine PI.imp (pi_range1 hg hm (f_args (es := [e1]) (as := [a]) ⟨a, [], rfl, ha, rfl⟩ hn) (star_cons hs)) fun σ H R q => ?_
  refine src_range (rd := fun vs H R => ∃ j : Int, vs = [.int j] ∧ -(2 ^ 62) ≤ j ∧ j < 2 ^ 62 ∧ R (Itr 0 j.toNat) H) q ?_ ?_
  · intro K w H z ps vs q R ha he hR _
    obtain ⟨a, rfl, g⟩ := one_some he
    obtain ⟨x, rfl, h1⟩ := ha.one
    obtain ⟨j, rfl, g'⟩ := onI_some g
    clear g he
    split at g'
    · rename_i hk0
      have hk := dec_iff.mp hk0
      cases g'; cases h1
      exact ⟨j, rfl, by omega, by omega, hR _ rfl _ jok_range⟩
    · cases g'
  · intro ps q he
    obtain ⟨a, rfl, g⟩ := one_some he
    obtain ⟨j, rfl, g'⟩ := onI_some g
    clear g he
    split at g'
    · cases g'; exact ⟨_, rfl⟩
    · cases g'
theorem pi_range2S {a b : Expr} {e1 e2 : Ex F} {tg : Expr} {p pos : Pos} (hg : Gl X "range") (hm : X.mg "range" = none) (ha : PE X a (tE G W call e1)) (hb : PE X b (tE G W call e2)) (hs : isStar a = false) (hs2 : isStar b = false) : PI X tg (.Call (.Name "range" p) [a, b] [] pos) (iS call G W (.pr .range2 [e1, e2])) := by
  have hn : noStars [a, b] := fun c hc => by
    rcases List.mem_cons.mp hc with rfl | hc
    · exact hs
    · obtain rfl := List.mem_singleton.mp hc; exact hs2
  have s2 : starEach [b] X.env = [(false, eval b X.env)] := star_cons hs2
  refine PI.imp (pi_range2 hg hm (f_args (es := [e1, e2]) (as := [a, b]) ⟨a, [b], rfl, ha, b, [], rfl, hb, rfl⟩ hn) (by rw [star_cons hs, s2]) s2) fun σ H R q => ?_
  refine src_range (rd := fun vs H R => ∃ i j : Int, vs = [.int i, .int j] ∧ (-(2 ^ 62) ≤ i ∧ i < 2 ^ 62 ∧ -(2 ^ 62) ≤ j ∧ j < 2 ^ 62) ∧ R (Itr i (j - i).toNat) H) q ?_ ?_
  · intro K w H z ps vs q R ha he hR _
    obtain ⟨a, b, rfl, g⟩ := two_some he
    obtain ⟨x, y, rfl, h1, h2⟩ := ha.two
    obtain ⟨i, j, rfl, rfl, g'⟩ := onII_some g
    clear g he
    split at g'
    · rename_i hk0
      have hk := dec_iff.mp hk0
      cases g'; cases h1; cases h2
      exact ⟨i, j, rfl, by omega, hR _ rfl _ jok_range⟩
    · cases g'
  · intro ps q he
    obtain ⟨a, b, rfl, g⟩ := two_some he
    obtain ⟨i, j, rfl, rfl, g'⟩ := onII_some g
    clear g he
    split at g'
    · cases g'; exact ⟨_, rfl⟩
    · cases g'
end
end Mi

set_option Elab.async false
set_option linter.all false
set_option maxRecDepth 100000
set_option maxHeartbeats 4000000
/-! for, while. -/
namespace Mi
open PySem PySem.Spec PyProof.Rows L2

section
variable {F : Type} {call : F → List Sl → CR} {G : Gc} {W : WX} {fx : List (Nat × V)} {X : Cx} {D : Ends} {σ : L2.St} {H : Hp} {Θ : List Ent}
theorem Fx.cons {i : Nat} {v : V} (h : Fx ((i, v) :: fx) σ) : Fx fx σ ∧ σ[i]? = some (some v) := ⟨fun q hq => h q (List.mem_cons_of_mem _ hq), h (i, v) List.mem_cons_self⟩
/-- the way out of a loop -/
theorem OutS.back {b : Evn → Evn} {r : R Fl} {fx' : List (Nat × V)} {Te : List Ent} (hb : BackOk b) (hf : ∀ σ', Fx fx' σ' → Fx fx σ') (o : OutS G W fx Θ D (r.env b)) (hr : ∀ ρ', r ≠ .ok .nx ρ') {D' : Ends} (hD : D'.rt = D.rt) : OutS G W fx' (Te ++ Θ) D' r := by
  cases r with
  | no => exact o
  | ex c fs ρ' =>
    intro σ' f' d H' L' Fe l' fe st
    obtain ⟨L2, l2, s2⟩ := hb G.K G.w H' σ' ρ' L' (Fe ++ (Te ++ Θ)) l' st
    refine o σ' (hf σ' f') d H' L2 Fe l2 fe ?_
    have s3 : Stt G.K G.w H' (Te ++ (L2 ++ (Fe ++ Θ))) := s2.perm (by
      refine (List.Perm.append_left L2 (perm3 Fe Te Θ)).trans ?_
      exact perm3 L2 Te (Fe ++ Θ))
    exact s3.drop
  | ok fl ρ' =>
    cases fl with
    | nx => exact absurd rfl (hr ρ')
    | rt t =>
      intro v σ' H' L' Te' l' f' r' st
      obtain ⟨L2, l2, s2⟩ := hb G.K G.w H' σ' ρ' L' (Te' ++ (Te ++ Θ)) l' st
      rw [hD]
      refine o v σ' H' L2 Te' l2 (hf σ' f') r' ?_
      have s3 : Stt G.K G.w H' (Te ++ (L2 ++ (Te' ++ Θ))) := s2.perm (by
        refine (List.Perm.append_left L2 (perm3 Te' Te Θ)).trans ?_
        exact perm3 L2 Te (Te' ++ Θ))
      exact s3.drop
theorem for_core {t : Tg} {it : Ex F} {body : List (Sm F)} (q : tSm G W fx call (.for t it body) D σ H) : tFor (iS call G W it) (gT G.K t) (fun D σ H => ∃ fx, tSms G W fx call body D σ H) D σ H := by
  obtain ⟨ρ, L, Θ, l, fxx, st, o⟩ := q
  have e1 : evS call (iosOf fx) (.for t it body) ρ = (evE call it ρ).bd fun tm ρ1 => (match tm.walk ρ1 with
    | some k => (forL k.chk (fun x ρ => match bindS (k.ios (iosOf fx)) t x ρ with | some ρ' => evSs call (k.ios (iosOf fx)) body ρ' | none => .no) k.xs k.ρ).env k.back
    | none => .no) := by simp only [evS] <;> rfl
  rw [e1] at o
  refine ⟨ρ, L, Θ, l, st, ?_⟩
  cases ee : evE call it ρ with
  | no => rw [ee] at o; exact o.elim
  | ex c fs ρ' => rw [ee] at o; exact o σ fxx
  | ok tm ρ1 =>
    rw [ee] at o
    simp only [R.bd_ok] at o
    show ∃ k, tm.walk ρ1 = some k ∧ _
    cases hk : tm.walk ρ1 with
    | none => rw [hk] at o; exact o.elim
    | some k =>
      rw [hk] at o
      have o : OutS G W fx Θ D ((forL k.chk (fun x ρ => match bindS (k.ios (iosOf fx)) t x ρ with | some ρ' => evSs call (k.ios (iosOf fx)) body ρ' | none => .no) k.xs k.ρ).env k.back) := o
      refine ⟨k, rfl, fun J H1 L1 Te C l1 s1 hJ _ hb hl hC => ?_⟩
      -- the slots that stay in the body
      obtain ⟨fx', e2, e3, e4⟩ : ∃ fx', k.ios (iosOf fx) = iosOf fx' ∧ (∀ σ', Fx fx' σ' → Fx fx σ' ∧ ∀ i p, k.lk = some (i, p) → σ'[i]? = σ[i]?) ∧ Fx fx' σ := by
        cases hlk : k.lk with
        | none => exact ⟨fx, by unfold Wk.ios; rw [hlk], fun σ' f => ⟨f, fun i p e => nomatch e⟩, fxx⟩
        | some ip =>
          obtain ⟨i, p⟩ := ip
          obtain ⟨v, hv⟩ := hl i p hlk
          refine ⟨(i, v) :: fx, by unfold Wk.ios; rw [hlk]; rfl, fun σ' f => ⟨f.cons.1, fun j p' e => by cases e; rw [f.cons.2, hv]⟩, fun q hq => ?_⟩
          rcases List.mem_cons.mp hq with rfl | hq
          · exact hv
          · exact fxx q hq
      simp only [e2] at o
      generalize hB : (fun (x : PV) (ρ : Evn) => match bindS (iosOf fx') t x ρ with | some ρ' => evSs call (iosOf fx') body ρ' | none => R.no) = B at o
      refine ⟨fun i m σ' H' => i + m = k.xs.length ∧ ∃ ρ' L', Loc σ' ρ' L' ∧ Fx fx' σ' ∧ Stt G.K G.w H' (L' ++ (Te ++ Θ)) ∧ OutS G W fx Θ D ((forL k.chk B (k.xs.drop i) ρ').env k.back), ⟨k.xs.length, by omega, k.ρ, L1, l1, e4, s1, by rw [List.drop_zero]; exact o⟩, ?_⟩
      rintro i m σ2 H2 ⟨him, ρ2, L2, l2, f2, s2, o2⟩
      by_cases hchk : k.chk ρ2
      · have hc := hC σ2 ρ2 L2 l2 (e3 σ2 f2).2 hchk
        obtain ⟨j1, j2⟩ := hJ H2 _ s2 hc i
        cases m with
        | zero =>
          refine .inl ⟨j1 (by omega), ?_⟩
          have ed : k.xs.drop i = [] := List.drop_eq_nil_of_le (by omega)
          rw [ed] at o2
          simp only [forL, hchk, if_true, R.env_ok] at o2
          obtain ⟨L3, l3, s3⟩ := hb G.K G.w H2 σ2 ρ2 L2 _ l2 s2
          exact o2 σ2 H2 L3 l3 (e3 σ2 f2).1 (s3.perm (perm3 L3 Te Θ)).drop
        | succ m =>
          have hi : i < k.xs.length := by omega
          have ed : k.xs.drop i = k.xs[i] :: k.xs.drop (i + 1) := List.drop_eq_getElem_cons hi
          obtain ⟨g1, g2⟩ := j2 k.xs[i] (List.getElem?_eq_getElem hi)
          rw [ed] at o2
          simp only [forL, hchk, if_true] at o2
          refine .inr ⟨g1, fun σ' H' => i + 1 + m = k.xs.length ∧ ∃ ρ' L', Loc σ' ρ' L' ∧ Fx fx' σ' ∧ Stt G.K G.w H' (L' ++ (Te ++ Θ)) ∧ OutS G W fx Θ D ((forL k.chk B (k.xs.drop (i + 1)) ρ').env k.back), fun σ' H' h => ⟨m, Nat.lt_succ_self m, h⟩, fun xv H3 hy => ?_⟩
          obtain ⟨rfl, z, s3⟩ := g2 xv H3 hy
          cases hbd : bindS (iosOf fx') t k.xs[i] ρ2 with
          | none =>
            rw [← hB] at o2
            simp only [hbd, R.bd_no, R.env_no] at o2
            exact o2.elim
          | some ρ3 =>
            have eB : B k.xs[i] ρ2 = evSs call (iosOf fx') body ρ3 := by rw [← hB]; simp only [hbd]
            rw [eB] at o2
            refine bind_core (R := Te ++ Θ) l2 f2 (s3.perm List.perm_middle.symm) hbd fun σ4 L4 l4 f4 s4 => ⟨fx', ρ3, L4, Te ++ Θ, l4, f4, s4, ?_⟩
            cases er : evSs call (iosOf fx') body ρ3 with
            | no => rw [er] at o2; exact o2.elim
            | ex c fs ρ5 =>
              rw [er] at o2
              exact OutS.back (D := D) (r := .ex c fs ρ5) hb (fun σ' f => (e3 σ' f).1) o2 (fun _ e => nomatch e) rfl
            | ok fl ρ5 =>
              rw [er] at o2
              cases fl with
              | nx =>
                simp only [R.bd_ok] at o2
                exact fun σ' H' L' l' f' s' => ⟨by omega, ρ5, L', l', f', s', o2⟩
              | rt tt =>
                simp only [R.bd_ok] at o2
                exact OutS.back (D := D) (r := .ok (.rt tt) ρ5) hb (fun σ' f => (e3 σ' f).1) o2 (fun _ e => nomatch e) rfl
      · exfalso
        cases hx : k.xs.drop i with
        | nil => rw [hx] at o2; simp only [forL, hchk, if_false, R.env_no] at o2; exact o2
        | cons x xs => rw [hx] at o2; simp only [forL, hchk, if_false, R.env_no] at o2; exact o2
theorem wh_core {c : Ex F} {body : List (Sm F)} (q : tSm G W fx call (.wh c body) D σ H) : tWhile (tT call G W c) (tSms G W fx call body) D σ H := by
  have q1 : tS G W fx (fun ρ => whL (fun ρ => tst (evE call c ρ)) (fun ρ => evSs call (iosOf fx) body ρ) lim ρ) D σ H := tS_eq (fun ρ => by simp only [evS]) q
  refine ⟨fun m => tS G W fx (fun ρ => whL (fun ρ => tst (evE call c ρ)) (fun ρ => evSs call (iosOf fx) body ρ) m ρ) D, ⟨lim, q1⟩, ?_⟩
  intro m σ2 H2 h
  cases m with
  | zero =>
    obtain ⟨ρ, L, Θ, l, fxx, st, o⟩ := h
    exact o.elim
  | succ m =>
    have h' : tS G W fx (fun ρ => (tst (evE call c ρ)).bd fun b ρ1 => if b then (evSs call (iosOf fx) body ρ1).bd fun fl ρ2 => (match fl with
      | .nx => whL (fun ρ => tst (evE call c ρ)) (fun ρ => evSs call (iosOf fx) body ρ) m ρ2
      | .rt t => .ok (.rt t) ρ2) else .ok .nx ρ1) D σ2 H2 := h
    refine (tS_R (rel := BoE) h').mono fun b H3 h3 => ?_
    obtain ⟨b', ρ1, L, Θ, Te, l, fxx, ⟨rfl, rfl⟩, st, o⟩ := h3
    cases b' with
    | false => exact o σ2 H3 L l fxx st
    | true =>
      refine ⟨tS G W fx (fun ρ => whL (fun ρ => tst (evE call c ρ)) (fun ρ => evSs call (iosOf fx) body ρ) m ρ) D, fun σ' H' h => ⟨m, Nat.lt_succ_self m, h⟩, ρ1, L, Θ, l, fxx, st, ?_⟩
      have o3 : OutS G W fx Θ D ((evSs call (iosOf fx) body ρ1).bd fun fl ρ2 => (match fl with
        | .nx => whL (fun ρ => tst (evE call c ρ)) (fun ρ => evSs call (iosOf fx) body ρ) m ρ2
        | .rt t => .ok (.rt t) ρ2)) := o
      cases er : evSs call (iosOf fx) body ρ1 with
      | no => rw [er] at o3; exact o3.elim
      | ex cc fs ρ5 => rw [er] at o3; exact o3
      | ok fl ρ5 =>
        rw [er] at o3
        cases fl with
        | nx => exact fun σ' H' L' l' f' s' => ⟨ρ5, L', Θ, l', f', s', o3⟩
        | rt tt => exact o3
/-- a body, whatever stays -/
theorem ss_any {body : List (Sm F)} {as : List Stmt} (h : ∀ fx, PSs X as (tSms G W fx call body)) : PSs X as (fun D σ H => ∃ fx, tSms G W fx call body D σ H) :=
  ⟨fun pins s σ H D I ⟨fx, q⟩ => (h fx).run pins s σ H D I q⟩
theorem s_for {t : Tg} {it : Ex F} {body : List (Sm F)} {tg iter : Expr} {as : List Stmt} {pos : Pos} (hp : PassesOwn (model X.prog X.w) X.A X.env X.xe) (hc : X.calm = true) (hi : PI X tg iter (iS call G W it)) (hg : PG X tg (gT G.K t)) (hb : ∀ fx, PSs X as (tSms G W fx call body))
    (hs : ∀ x, foldedSetIterable iter X.env x = pure x) : PS X (.For tg iter as [] pos) (tSm G W fx call (.for t it body)) := (ps_for hp hc hi hg (ss_any hb) hs).imp fun D σ H q => for_core q
theorem s_wh {c : Ex F} {body : List (Sm F)} {ce : Expr} {as : List Stmt} {pos : Pos} (hp : PassesOwn (model X.prog X.w) X.A X.env X.xe) (hc : PT X ce (tT call G W c)) (hb : PSs X as (tSms G W fx call body)) : PS X (.While ce as [] pos) (tSm G W fx call (.wh c body)) :=
  (ps_while hp hc hb).imp fun D σ H q => wh_core q
end
end Mi

set_option Elab.async false
set_option linter.all false
set_option maxRecDepth 100000
set_option maxHeartbeats 4000000
/-! Lists changed in place. -/
namespace Mi
open PySem PySem.Spec PyProof.Rows L2

section
variable {K : PySem.W.Frag} {w : World} {H : Hp}
/-- the list at a becomes another one -/
theorem Stt.mutL {a : Addr} {d : Nat} {xs xs' : List PV} {vs vs' : List V} {f f' : List Addr} {z z' : Addr → Prop} {R : List Ent} (st : Stt K w H (⟨some (.ref a), .o d (.lst xs), a :: f, z⟩ :: R)) (ha : H a = some (.lst vs))
    (hd : Hold H R z' (a :: f')) (ro : ROs K w H z' d xs' vs' f') : Stt K w (upd H a (.lst vs')) (⟨some (.ref a), .o d (.lst xs'), a :: f', z'⟩ :: R) := by
  have kp : Kp (fun b => b = a) H (upd H a (.lst vs')) := Kp.at
  have ow : ∀ b, b = a → Own (H b) := fun b e => by subst e; exact .inl ⟨_, ha⟩
  have nd := st.nd
  rw [List.flatMap_cons] at nd
  obtain ⟨nd1, nd2, nd3⟩ := List.nodup_append.mp nd
  have fr := hd.fr a List.mem_cons_self
  have naf : a ∉ f' := (List.nodup_cons.mp hd.nd).1
  have dom : ∀ b, (∃ o, H b = some o) → ∃ o, upd H a (.lst vs') b = some o := fun b ⟨o, e⟩ => by
    by_cases h : b = a
    · subst h; exact ⟨_, upd_same⟩
    · exact ⟨o, by rw [upd_ne h]; exact e⟩
  have sR : Stt K w (upd H a (.lst vs')) R := ⟨fun e m => (st.tail.ok e m).kp kp ow (fun b e1 => by subst e1; exact (fr.2 e m).2) fun b e1 => by subst e1; exact (fr.2 e m).1, st.tail.nd, st.tail.nz⟩
  refine sR.addO ?_ hd.nd (fun b hb => dom b (hd.dom b hb)) hd.ex hd.fr
  simp only [RO]
  exact ⟨a, vs', f', rfl, upd_same, ro.kp kp ow (fun b e => by subst e; exact fr.1) (fun _ x => x) (fun b e => by subst e; exact naf), rfl⟩
theorem ROs.app {z : Addr → Prop} : ∀ {d : Nat} {ps qs : List PV} {vs us : List V} {f g : List Addr}, ROs K w H z d ps vs f → ROs K w H z d qs us g → ROs K w H z d (ps ++ qs) (vs ++ us) (f ++ g)
  | d, [], qs, _, us, _, g, h1, h2 => by
    simp only [ROs] at h1
    obtain ⟨rfl, rfl⟩ := h1
    exact h2
  | d, p :: ps, qs, _, us, _, g, h1, h2 => by
    simp only [ROs] at h1
    obtain ⟨v, vs', f1, f2, rfl, h3, h4, rfl⟩ := h1
    simp only [ROs, List.cons_append]
    exact ⟨v, vs' ++ us, f1, f2 ++ g, rfl, h3, h4.app h2, by rw [List.append_assoc]⟩
/-- what joins an owner's own -/
theorem hold_join {e : Ent} {Te R : List Ent} {zt : Addr → Prop} {ft : List Addr} (st : Stt K w H (e :: (Te ++ R))) (hx : e.s.excl = true) (h : Hold H (e :: R) zt ft) : Hold H R (fun a => e.z a ∨ zt a) (e.fp ++ ft) := by
  have nd := st.nd
  rw [List.flatMap_cons] at nd
  obtain ⟨nd1, nd2, nd3⟩ := List.nodup_append.mp nd
  have ow := Ent.ok.own (st.ok e List.mem_cons_self)
  refine ⟨fun a ha => ha.elim ((st.ok e List.mem_cons_self).1 a) (h.dom a), fun a ha => ?_, List.nodup_append.mpr ⟨nd1, h.nd, fun a ha b hb e1 => ?_⟩, fun r mr x a ha hz => ?_, fun a ha => ?_⟩
  · rcases List.mem_append.mp ha with ha | ha
    · exact ow a ha
    · exact h.own a ha
  · subst e1
    exact ((h.fr a hb).2 e List.mem_cons_self).1 ha
  · rcases hz with hz | hz
    · exact st.nz r (List.mem_cons_of_mem _ (List.mem_append_right _ mr)) x a ha e List.mem_cons_self hz
    · exact h.ex r (List.mem_cons_of_mem _ mr) x a ha hz
  · rcases List.mem_append.mp ha with ha | ha
    · refine ⟨fun hz => ?_, fun r mr => ⟨fun hr => nd3 a ha a (List.mem_flatMap.mpr ⟨r, List.mem_append_right _ mr, hr⟩) rfl, st.nz e List.mem_cons_self hx a ha r (List.mem_cons_of_mem _ (List.mem_append_right _ mr))⟩⟩
      rcases hz with hz | hz
      · exact st.nz e List.mem_cons_self hx a ha e List.mem_cons_self hz
      · exact h.ex e List.mem_cons_self hx a ha hz
    · obtain ⟨c1, c2⟩ := h.fr a ha
      exact ⟨fun hz => hz.elim (c2 e List.mem_cons_self).2 c1, fun r mr => c2 r (List.mem_cons_of_mem _ mr)⟩
end
section
variable {F : Type} {call : F → List Sl → CR} {G : Gc} {W : WX} {X : Cx} {σ : L2.St} {H : Hp}
def Top (H : Hp) : PV → V → Prop
  | .lst _, v => ∃ a vs, v = .ref a ∧ H a = some (.lst vs)
  | .dct _, v => ∃ a es, v = .ref a ∧ H a = some (rawO a es)
  | _, _ => True
theorem RO.top {K : PySem.W.Frag} {w : World} {z : Addr → Prop} {d : Nat} {p : PV} {v : V} {fp : List Addr} (h : RO K w H z (d + 1) p v fp) : Top H p v := by
  cases p with
  | lst xs => simp only [RO] at h; obtain ⟨a, vs, f, e, h1, _⟩ := h; exact ⟨a, vs, e, h1⟩
  | dct ks => simp only [RO] at h; obtain ⟨a, es, f, e, h1, _⟩ := h; exact ⟨a, es, e, h1⟩
  | _ => trivial
/-- behind the arguments of a change -/
def MuPost (G : Gc) (σ : L2.St) (m : Mu) (v : V) (xs : List V) (H1 : Hp) (Q : VK) : Prop := ∃ d p ts fp z Te R r p', TmsE σ ts xs Te ∧ Stt G.K G.w H1 (⟨some v, .o d p, fp, z⟩ :: (Te ++ R)) ∧ evMu m d p ts = some (r, p') ∧
  ∀ rv H' fp' z' Re, TmR r rv Re → Stt G.K G.w H' (⟨some v, .o d p', fp', z'⟩ :: (Re ++ R)) → Q rv H'
theorem mu_core {m : Mu} {i : Nat} {es : List (Ex F)} {Q : VK} (q : tE G W call (.mu m i es) σ H Q) : ∃ v p0, σ[i]? = some (some v) ∧ m.recv p0.tag = true ∧ Top H p0 v ∧ tEs G W call es σ H fun xs H1 => MuPost G σ m v xs H1 Q := by
  obtain ⟨ρ, L, Θ, l, st, o⟩ := q
  have e1 : evE call (.mu m i es) ρ = match ρ.at i with
    | .o _ p0 => if m.recv p0.tag then (evEs call es ρ).bd fun ts ρ1 => (match ρ1.at i with
      | .o d p => (match evMu m d p ts with | some (r, p') => .ok r (ρ1.set i (.o d p')) | none => .no)
      | _ => .no) else .no
    | _ => .no := by simp only [evE] <;> rfl
  rw [e1] at o
  cases h : ρ.at i with
  | u => rw [h] at o; exact o.elim
  | v p => rw [h] at o; exact o.elim
  | l d p => rw [h] at o; exact o.elim
  | b d p => rw [h] at o; exact o.elim
  | o d0 p0 =>
    rw [h] at o
    obtain ⟨⟨ev, es0, ef, ez⟩, a1, rfl, a3⟩ := l.ent h (by intro z; cases z)
    obtain ⟨_, v, e4, r4⟩ := st.ok _ (List.mem_append_left _ (List.mem_of_getElem? a1))
    cases e4
    by_cases hr : m.recv p0.tag = true
    · simp only [hr, if_true] at o
      refine ⟨v, p0, a3, hr, r4.top, ρ, L, Θ, l, st, ?_⟩
      rw [Out.bd] at o
      refine o.imp fun ts ρ1 o1 xs H1 L1 Te l1 r1 s1 => ?_
      cases h1 : ρ1.at i with
      | u => rw [h1] at o1; exact o1.elim
      | v p => rw [h1] at o1; exact o1.elim
      | l d p => rw [h1] at o1; exact o1.elim
      | b d p => rw [h1] at o1; exact o1.elim
      | o d p =>
        rw [h1] at o1
        cases he : evMu m d p ts with
        | none => simp only [he] at o1; exact o1.elim
        | some rp =>
          obtain ⟨r, p'⟩ := rp
          simp only [he] at o1
          obtain ⟨⟨ev', es', ef', ez'⟩, b1, rfl, b3⟩ := l1.ent h1 (by intro z; cases z)
          rw [a3] at b3
          obtain rfl : ev' = some v := (Option.some.inj b3).symm
          refine ⟨d, p, ts, ef', ez', Te, L1.eraseIdx i ++ Θ, r, p', r1, ?_, he, fun rv H' fp' z' Re tr s2 => ?_⟩
          · refine (s1.out b1).perm (.cons _ ?_)
            exact perm3 _ _ _
          · refine o1 rv H' (L1.set i ⟨some v, .o d p', fp', z'⟩) Re (l1.set b1 rfl) (tr.e σ) ?_
            refine Stt.put (x := ⟨some v, .o d p', fp', z'⟩) (s2.perm (.cons _ ?_)) (lt_of_get b1)
            exact perm3 _ _ _
    · simp only [hr, if_false] at o; exact o.elim
/-- .. done, nothing handed back -/
theorem mu_non {v : V} {d : Nat} {p' : PV} {fp' : List Addr} {z' : Addr → Prop} {R : List Ent} {Q : VK} (k : ∀ rv H' fp' z' Re, TmR (.v .non) rv Re → Stt G.K G.w H' (⟨some v, .o d p', fp', z'⟩ :: (Re ++ R)) → Q rv H') (st : Stt G.K G.w H (⟨some v, .o d p', fp', z'⟩ :: R)) : Q .non H :=
  k .non H fp' z' [⟨some .non, .v .non, [], fun _ => False⟩] ⟨_, rfl⟩ ((st.flatV (p := .non) (v := .non) rfl).perm (.swap _ _ _))
theorem own_lst {v : V} {d : Nat} {xs : List PV} {fp : List Addr} {z : Addr → Prop} {R : List Ent} (st : Stt G.K G.w H (⟨some v, .o d (.lst xs), fp, z⟩ :: R)) : ∃ a vs f, v = .ref a ∧ H a = some (.lst vs) ∧ ROs G.K G.w H z d xs vs f ∧ fp = a :: f := by
  obtain ⟨_, u, e1, r⟩ := st.ok _ List.mem_cons_self
  cases e1
  simp only [RO] at r
  exact r
theorem inv_append {d : Nat} {p p' : PV} {ts : List Tm} {r : Tm} (he : evMu .append d p ts = some (r, p')) : ∃ ys t y, p = .lst ys ∧ ts = [t] ∧ t.dn d = some y ∧ ys.length < lim ∧ r = .v .non ∧ p' = .lst (ys ++ [y]) := by
  cases p with
  | lst ys =>
    match ts, he with
    | [t], he =>
      simp only [evMu] at he
      cases hd : t.dn d with
      | none => rw [hd] at he; cases he
      | some y =>
        rw [hd] at he
        by_cases hl : ys.length < lim
        · simp only [hl, if_true, Option.some.injEq, Prod.mk.injEq] at he
          exact ⟨ys, t, y, rfl, rfl, hd, hl, he.1.symm, he.2.symm⟩
        · simp only [hl, if_false] at he; cases he
    | [], he => simp [evMu] at he
    | _ :: _ :: _, he => simp [evMu] at he
  | _ => simp [evMu] at he
theorem mu_append {v : V} {xs : List V} {Q : VK} (h : MuPost G σ .append v xs H Q) : rAppend v xs H Q := by
  obtain ⟨d, p, ts, fp, z, Te, R, r, p', hr, st, he, k⟩ := h
  obtain ⟨ys, t, y, rfl, rfl, hd, hl, rfl, rfl⟩ := inv_append he
  obtain ⟨yv, _, e1, _, rfl, rfl, r1, rfl, rfl⟩ := hr
  rw [List.append_nil] at st
  obtain ⟨a, vs, f, rfl, ha, ro, rfl⟩ := own_lst st
  obtain ⟨zt, ft, rt, _, _, hold⟩ := hold_one (es := ⟨some (.ref a), .o d (.lst ys), a :: f, z⟩ :: R) (st.perm List.perm_middle.symm) r1 hd
  have hj := hold_join st rfl hold
  refine ⟨a, vs, yv, rfl, rfl, ha, by rw [ro.len]; exact hl, ?_⟩
  have stR : Stt G.K G.w H (⟨some (.ref a), .o d (.lst ys), a :: f, z⟩ :: R) := Stt.drop (fs := e1) (st.perm List.perm_middle.symm)
  refine mu_non k (stR.mutL ha hj ?_)
  refine ROs.app (ro.zone fun _ => .inl) ?_
  simp only [ROs]
  exact ⟨yv, [], ft, [], rfl, rt.zone fun _ => .inr, ⟨rfl, rfl⟩, by rw [List.append_nil]⟩
/-- a value's own, at depth one: what it has is shared -/
theorem own0 {v : V} {xs : List PV} {fp : List Addr} {z : Addr → Prop} {R : List Ent} (st : Stt G.K G.w H (⟨some v, .o 0 (.lst xs), fp, z⟩ :: R)) : ∃ a vs, v = .ref a ∧ H a = some (.lst vs) ∧ R0s G.K G.w H z xs vs ∧ fp = [a] := by
  obtain ⟨a, vs, f, e1, h1, ro, e2⟩ := own_lst st
  obtain ⟨rfl, r0⟩ := ro.r0
  exact ⟨a, vs, e1, h1, r0, e2⟩
theorem hold_self {a : Addr} {d : Nat} {p : PV} {v : V} {z : Addr → Prop} {fp : List Addr} {R : List Ent} (st : Stt G.K G.w H (⟨some v, .o d p, fp, z⟩ :: R)) : Hold H R z fp := by
  have h := hold_join (Te := []) (zt := fun _ => False) (ft := []) st rfl ⟨fun _ h => h.elim, (fun _ h => by cases h), List.nodup_nil, fun _ _ _ _ _ h => h, fun _ h => by cases h⟩
  rw [List.append_nil] at h
  exact ⟨fun a ha => h.dom a (.inl ha), h.own, h.nd, fun e m x b hb hz => h.ex e m x b hb (.inl hz), fun b hb => ⟨fun hz => (h.fr b hb).1 (.inl hz), (h.fr b hb).2⟩⟩
theorem inv_pop {d : Nat} {p p' : PV} {ts : List Tm} {r : Tm} (he : evMu .pop d p ts = some (r, p')) : ∃ ys y, d = 0 ∧ p = .lst ys ∧ ts = [] ∧ ys.getLast? = some y ∧ r = .v y ∧ p' = .lst ys.dropLast := by
  cases p with
  | lst ys =>
    match ts, he with
    | [], he =>
      simp only [evMu] at he
      split at he
      · rename_i hd
        simp only [Option.map_eq_some_iff, Prod.mk.injEq] at he
        obtain ⟨y, h1, h2, h3⟩ := he
        exact ⟨ys, y, hd, rfl, rfl, h1, h2.symm, h3.symm⟩
      · cases he
    | _ :: _, he => simp [evMu] at he
  | _ => simp [evMu] at he
theorem R0s.dropLast {K : PySem.W.Frag} {w : World} {z : Addr → Prop} {ps : List PV} {vs : List V} (h : R0s K w H z ps vs) : R0s K w H z ps.dropLast vs.dropLast := by
  rw [List.dropLast_eq_take, List.dropLast_eq_take, h.length]
  exact h.take _
theorem mu_pop {v : V} {xs : List V} {Q : VK} (h : MuPost G σ .pop v xs H Q) : rPop v xs H Q := by
  obtain ⟨d, p, ts, fp, z, Te, R, r, p', hr, st, he, k⟩ := h
  obtain ⟨ys, y, rfl, rfl, rfl, hy, rfl, rfl⟩ := inv_pop he
  obtain ⟨rfl, rfl⟩ := hr
  rw [List.nil_append] at st
  obtain ⟨a, vs, rfl, ha, r0, rfl⟩ := own0 st
  rw [List.getLast?_eq_getElem?] at hy
  obtain ⟨yv, g1, g2⟩ := r0.get hy
  refine ⟨a, vs, yv, rfl, rfl, ha, by rw [r0.length]; exact g1, ?_⟩
  have s1 : Stt G.K G.w H (⟨some yv, .v y, [], z⟩ :: ⟨some (.ref a), .o 0 (.lst ys), [a], z⟩ :: R) := st.share (e := ⟨some (.ref a), .o 0 (.lst ys), [a], z⟩) List.mem_cons_self g2
  have s2 : Stt G.K G.w H (⟨some (.ref a), .o 0 (.lst ys), [a], z⟩ :: (⟨some yv, .v y, [], z⟩ :: R)) := s1.perm (.swap _ _ _)
  exact k yv _ [a] z [⟨some yv, .v y, [], z⟩] ⟨z, rfl⟩ (s2.mutL ha (hold_self (a := a) s2) (.of0 r0.dropLast))
theorem inv_reverse {d : Nat} {p p' : PV} {ts : List Tm} {r : Tm} (he : evMu .reverse d p ts = some (r, p')) : ∃ ys, d = 0 ∧ p = .lst ys ∧ ts = [] ∧ r = .v .non ∧ p' = .lst ys.reverse := by
  cases p with
  | lst ys =>
    match ts, he with
    | [], he =>
      simp only [evMu] at he
      split at he
      · rename_i hd
        simp only [Option.some.injEq, Prod.mk.injEq] at he
        exact ⟨ys, hd, rfl, rfl, he.1.symm, he.2.symm⟩
      · cases he
    | _ :: _, he => simp [evMu] at he
  | _ => simp [evMu] at he
theorem mu_reverse {v : V} {xs : List V} {Q : VK} (h : MuPost G σ .reverse v xs H Q) : rReverse v xs H Q := by
  obtain ⟨d, p, ts, fp, z, Te, R, r, p', hr, st, he, k⟩ := h
  obtain ⟨ys, rfl, rfl, rfl, rfl, rfl⟩ := inv_reverse he
  obtain ⟨rfl, rfl⟩ := hr
  rw [List.nil_append] at st
  obtain ⟨a, vs, rfl, ha, r0, rfl⟩ := own0 st
  exact ⟨a, vs, rfl, rfl, ha, mu_non k (st.mutL ha (hold_self (a := a) st) (.of0 r0.rev))⟩
end
end Mi

set_option Elab.async false
set_option linter.all false
set_option maxRecDepth 100000
set_option maxHeartbeats 4000000
/-! Lists changed in place: the calls. -/
namespace PySem.AutoSeq1
set_option maxRecDepth 8000 in
theorem list_extend_tuple_sl (l : Addr) (items : Array Value) (n : Nat) (b : Addr) (items2 : Array Value) (n2 : Nat) (sl : Array (Option Value)) (hs0 : ¬(!items.isEmpty && Builtin.List.listTooLong (items.size + items2.size)) = true) (hs1 : items.size ≤ sizeLine) (hs2 : items.size + items2.size ≤ sizeLine + 1 := by seq_fits) :
    Meets (Builtin.«list.extend» ⟨[.ref l, .ref b], []⟩) (fun _ R s => s.heap.get? l = some { cls := .type "list", dict := none, data := .seq items n, slots := #[] } ∧ s.heap.get? b = some { cls := .type "tuple", dict := none, data := .seq items2 n2, slots := sl } ∧ R (.ok (.ret Value.none)) { s with heap := s.heap.update l (Obj.mapSeq fun x => x ++ items2), toks := s.toks }) :=
  .of_wp fun prog w A R s h => by
    obtain ⟨hp, g, d, tk, os⟩ := s; obtain ⟨hl, hb, h⟩ := h; have f1 := idx_int; have f2 := sub_tuple_tuple; have f3 := sub_list_list; have f4 := sub_tuple_list; have f5 := sub_list_tuple;
    have hz' : (items ++ items2).size ≤ sizeLine + 1 := by rw [Array.size_append]; exact hs2
    wp_walk using (wpAny_updateSeq hl rfl (hz := hs1) (_hz' := hz')), wpAny_loadPart' hl, wpAny_loadPart' hb; exact ⟨_, rfl, h⟩
end PySem.AutoSeq1
namespace Mi
open PySem PySem.Spec PyProof.Rows L2

section
variable {X : Cx}
def rExtT (K : PySem.W.Frag) : V → List V → Hp → VK → Prop := fun x vs H Q => ∃ l b xs zs, x = .ref l ∧ vs = [.ref b] ∧ H l = some (.lst xs) ∧ TqT K H b zs ∧ xs.length + zs.length ≤ sizeLine ∧ Q .non (upd H l (.lst (xs ++ zs)))
theorem mt_extT : MtR X "list.extend" (rExtT X.K) := by
  intro pins s σ H x vs v us Q I rx rv h
  obtain ⟨l, b, xs, zs, rfl, rfl, hH, hB, hz, q⟩ := h
  cases rx
  obtain ⟨u, rfl, ru⟩ := rv.one
  cases ru
  obtain ⟨z, its, n, r, hl, e⟩ := I.lstM hH
  obtain ⟨its2, r2, z2, n2, sl, e2⟩ := TqT.at I hB
  have hl2 := r2.length
  have hsz : its.toArray.size + its2.toArray.size ≤ sizeLine := by rw [List.size_toArray, List.size_toArray]; omega
  have hlong : ¬ (!its.toArray.isEmpty && Builtin.List.listTooLong (its.toArray.size + its2.toArray.size)) = true := by
    rw [notLongL hsz, Bool.and_false]
    exact Bool.false_ne_true
  refine call_meets F.slot_list_extend ⟨_, e, rfl⟩ F.entry_list_extend (F.args_list_extend_2 _ _)
    (AutoSeq1.list_extend_tuple_sl l its.toArray n b its2.toArray n2 sl hlong (by rw [List.size_toArray]; omega) (by omega)) ⟨e, e2, ?_⟩
  refine ⟨.non, _, I.lset (its' := its ++ its2) hH e (by simp) (r.append r2) ?_, rfl, q⟩
  rw [List.length_append]
  omega
end
section
variable {F : Type} {call : F → List Sl → CR} {G : Gc} {W : WX} {X : Cx} {σ : L2.St} {H : Hp}
theorem inv_extend {d : Nat} {p p' : PV} {ts : List Tm} {r : Tm} (he : evMu .extend d p ts = some (r, p')) : ∃ ys t zs, d = 0 ∧ p = .lst ys ∧ ts = [t] ∧ extOf t = some zs ∧ ys.length + zs.length ≤ lim ∧ r = .v .non ∧ p' = .lst (ys ++ zs) := by
  cases p with
  | lst ys =>
    match ts, he with
    | [t], he =>
      simp only [evMu] at he
      cases hd : extOf t with
      | none => rw [hd] at he; cases he
      | some zs =>
        rw [hd] at he
        by_cases hl : d = 0 ∧ ys.length + zs.length ≤ lim
        · simp only [hl, and_self, if_true, Option.some.injEq, Prod.mk.injEq] at he
          exact ⟨ys, t, zs, hl.1, rfl, rfl, hd, hl.2, he.1.symm, he.2.symm⟩
        · simp only [hl, if_false] at he; cases he
    | [], he => simp [evMu] at he
    | _ :: _ :: _, he => simp [evMu] at he
  | _ => simp [evMu] at he
theorem ext_cases {t : Tm} {zs : List PV} (h : extOf t = some zs) : t = .o 0 (.lst zs) ∨ t = .v (.lst zs) ∨ t = .v (.tup zs) := by
  unfold extOf at h
  split at h
  · cases h; exact .inl rfl
  · cases h; exact .inr (.inl rfl)
  · cases h; exact .inr (.inr rfl)
  · cases h
def rExt' (K : PySem.W.Frag) : V → List V → Hp → VK → Prop := fun x vs H Q => rExtend x vs H Q ∨ rExtT K x vs H Q
theorem mt_ext' : MtR X "list.extend" (rExt' X.K) := MtR.or mt_extend mt_extT
theorem mu_extend {v : V} {xs : List V} {Q : VK} (h : MuPost G σ .extend v xs H Q) : rExt' G.K v xs H Q := by
  obtain ⟨d, p, ts, fp, z, Te, R, r, p', hr, st, he, k⟩ := h
  obtain ⟨ys, t, zs, rfl, rfl, rfl, hd, hl, rfl, rfl⟩ := inv_extend he
  obtain ⟨yv, _, e1, _, rfl, rfl, r1, rfl, rfl⟩ := hr
  rw [List.append_nil] at st
  obtain ⟨a, vs, rfl, ha, r0, rfl⟩ := own0 st
  -- what is added is shared: its items and their zone
  have add : ∀ (us : List V) (zt : Addr → Prop), R0s G.K G.w H zt zs us → (∀ b, zt b → ∃ o, H b = some o) → (∀ e ∈ (⟨some (.ref a), .o 0 (.lst ys), [a], z⟩ :: R : List Ent), e.s.excl = true → ∀ b ∈ e.fp, ¬ zt b) → vs.length + us.length ≤ sizeLine ∧ Q .non (upd H a (.lst (vs ++ us))) := fun us zt h0 dm ex => by
    refine ⟨by rw [r0.length, h0.length]; exact hl, ?_⟩
    have stR : Stt G.K G.w H (⟨some (.ref a), .o 0 (.lst ys), [a], z⟩ :: R) := Stt.drop (fs := e1) (st.perm List.perm_middle.symm)
    have hj := hold_join (Te := []) (zt := zt) (ft := []) stR rfl ⟨dm, (fun _ h => by cases h), List.nodup_nil, ex, fun _ h => by cases h⟩
    exact mu_non k (stR.mutL ha hj (.of0 ((r0.zone fun _ => .inl).app (h0.zone fun _ => .inr))))
  rcases ext_cases hd with rfl | rfl | rfl
  · obtain ⟨fp, zt, rfl⟩ := r1
    have m : (⟨some yv, .o 0 (.lst zs), fp, zt⟩ : Ent) ∈ (⟨some (.ref a), .o 0 (.lst ys), [a], z⟩ :: ([⟨some yv, .o 0 (.lst zs), fp, zt⟩] ++ R) : List Ent) := by simp
    have st' := st.perm (List.Perm.swap (⟨some yv, .o 0 (.lst zs), fp, zt⟩ : Ent) (⟨some (.ref a), .o 0 (.lst ys), [a], z⟩ : Ent) R)
    obtain ⟨b, us, rfl, hb, u0, rfl⟩ := own0 st'
    obtain ⟨h1, h2⟩ := add us zt u0 (st.ok _ m).1 fun e me x c hc => st.nz e (by
      rcases List.mem_cons.mp me with rfl | me
      · exact List.mem_cons_self
      · exact List.mem_cons_of_mem _ (List.mem_append_right _ me)) x c hc _ m
    exact .inl ⟨a, b, vs, us, rfl, rfl, ha, hb, h1, h2⟩
  · obtain ⟨zt, rfl⟩ := r1
    have m : (⟨some yv, .v (.lst zs), [], zt⟩ : Ent) ∈ (⟨some (.ref a), .o 0 (.lst ys), [a], z⟩ :: ([⟨some yv, .v (.lst zs), [], zt⟩] ++ R) : List Ent) := by simp
    obtain ⟨dm, _, u, e2, b, us, rfl, _, hb, u0⟩ := st.ok _ m
    cases e2
    obtain ⟨h1, h2⟩ := add us zt u0 dm fun e me x c hc => st.nz e (by
      rcases List.mem_cons.mp me with rfl | me
      · exact List.mem_cons_self
      · exact List.mem_cons_of_mem _ (List.mem_append_right _ me)) x c hc _ m
    exact .inl ⟨a, b, vs, us, rfl, rfl, ha, hb, h1, h2⟩
  · obtain ⟨zt, rfl⟩ := r1
    have m : (⟨some yv, .v (.tup zs), [], zt⟩ : Ent) ∈ (⟨some (.ref a), .o 0 (.lst ys), [a], z⟩ :: ([⟨some yv, .v (.tup zs), [], zt⟩] ++ R) : List Ent) := by simp
    obtain ⟨dm, _, u, e2, b, us, rfl, hb, u0⟩ := st.ok _ m
    cases e2
    obtain ⟨h1, h2⟩ := add us zt u0 dm fun e me x c hc => st.nz e (by
      rcases List.mem_cons.mp me with rfl | me
      · exact List.mem_cons_self
      · exact List.mem_cons_of_mem _ (List.mem_append_right _ me)) x c hc _ m
    exact .inr ⟨a, b, vs, us, rfl, rfl, ha, hb, h1, h2⟩
/-- a change's rule -/
def MuOk (X : Cx) (G : Gc) (m : Mu) (name : Str) : Prop := ∃ T id r, MF X name T id r ∧ (∀ p v H, m.recv p.tag = true → Top H p v → TyI X T v H) ∧ ∀ σ v xs H Q, MuPost G σ m v xs H Q → r v xs H Q
theorem top_list {m : Mu} (hm : ∀ t, m.recv t = true → t = .lst) (p : PV) (v : V) (H : Hp) (hr : m.recv p.tag = true) (ht : Top H p v) : TyI X "list" v H := by
  have := hm _ hr
  cases p with
  | lst xs => obtain ⟨a, vs, rfl, h⟩ := ht; exact .list h
  | _ => simp [PV.tag] at this
theorem m_append : MuOk X G .append "append" := ⟨"list", _, rAppend, ⟨F.plainAttrs_list, F.slot_list_append, F.type_list_append, mt_append⟩, top_list (fun t h => by cases t <;> first | rfl | cases h), fun _ _ _ _ _ h => mu_append h⟩
theorem m_pop : MuOk X G .pop "pop" := ⟨"list", _, rPop, ⟨F.plainAttrs_list, F.slot_list_pop, F.type_list_pop, mt_pop⟩, top_list (fun t h => by cases t <;> first | rfl | cases h), fun _ _ _ _ _ h => mu_pop h⟩
theorem m_reverse : MuOk X G .reverse "reverse" := ⟨"list", _, rReverse, ⟨F.plainAttrs_list, F.slot_list_reverse, F.type_list_reverse, mt_reverse⟩, top_list (fun t h => by cases t <;> first | rfl | cases h), fun _ _ _ _ _ h => mu_reverse h⟩
theorem m_extend (hG : G.K = X.K) : MuOk X G .extend "extend" := ⟨"list", _, rExt' X.K, ⟨F.plainAttrs_list, F.slot_list_extend, F.type_list_extend, mt_ext'⟩, top_list (fun t h => by cases t <;> first | rfl | cases h), fun _ _ _ _ _ h => by rw [← hG]; exact mu_extend h⟩
variable {m : Mu} {name x : Str} {i : Nat} {es : List (Ex F)} {as : List Expr} {a : Expr} {p apos cpos : Pos}
theorem f_mu (hm : MuOk X G m name) (hN : X.N[i]? = some x) (hl : Vis X.env.scope x) (hd : (x == ("__debug__" : Str)) = false) (hcd : (x == ("__classdict__" : Str)) = false) (h : PEs G W call X es (a :: as)) (hn : noStars (a :: as)) (hlen : as.length < 20)
    (hline : (apos.endLine == cpos.line) = true) : PE X (.Call (.Attribute (.Name x p) name apos) (a :: as) [] cpos) (tE G W call (.mu m i es)) := by
  obtain ⟨T, id, r, mf, ty, k⟩ := hm
  refine (pe_MG (pe_var hN hl hd hcd) (f_args h hn) hn hlen (attrBase rfl) hline).imp fun σ H Q q => ?_
  obtain ⟨v, p0, a1, a2, a3, a4⟩ := mu_core q
  exact ⟨v, a1, T, id, r, mf, ty p0 v H a2 a3, a4.mono fun xs H1 h1 => k σ v xs H1 Q h1⟩
theorem f_mu0 (hm : MuOk X G m name) (hN : X.N[i]? = some x) (hl : Vis X.env.scope x) (hd : (x == ("__debug__" : Str)) = false) (hcd : (x == ("__classdict__" : Str)) = false)
    (hline : (apos.endLine == cpos.line) = true) : PE X (.Call (.Attribute (.Name x p) name apos) [] [] cpos) (tE G W call (.mu m i [])) := by
  obtain ⟨T, id, r, mf, ty, k⟩ := hm
  refine (pe_MG0 (pe_var hN hl hd hcd) (attrBase rfl) hline).imp fun σ H Q q => ?_
  obtain ⟨v, p0, a1, a2, a3, a4⟩ := mu_core q
  exact ⟨v, a1, T, id, r, mf, ty p0 v H a2 a3, k σ v [] H Q (tEs_nil a4)⟩
end
end Mi

set_option Elab.async false
set_option linter.all false
set_option maxRecDepth 100000
set_option maxHeartbeats 4000000
/-! List comprehensions. -/
namespace Mi
open PySem PySem.Spec PyProof.Rows L2

theorem wipe_set {i : Nat} {x : Option V} : ∀ {ws : List Nat} {σ : L2.St}, i ∈ ws → wipe (σ.set i x) ws = wipe σ ws
  | [], _, h => by cases h
  | w :: ws, σ, h => by
    simp only [wipe]
    by_cases hi : i ∈ ws
    · rw [wipe_set hi]
    · have e : i = w := by
        rcases List.mem_cons.mp h with h | h
        · exact h
        · exact absurd h hi
      subst e
      have comm : ∀ {vs : List Nat} {σ : L2.St}, i ∉ vs → wipe (σ.set i x) vs = (wipe σ vs).set i x := by
        intro vs
        induction vs with
        | nil => intro σ _; rfl
        | cons v vs ih =>
          intro σ hv
          simp only [List.mem_cons, not_or] at hv
          simp only [wipe]
          rw [ih hv.2, List.set_comm _ _ hv.1]
      rw [comm hi, List.set_set]
section
variable {K : PySem.W.Frag} {w : World} {H : Hp}
theorem wipeE_cons {v : Nat} {vs : List Nat} {ρ : Evn} : wipeE (v :: vs) ρ = (wipeE vs ρ).set v .u := rfl
/-- slots forgotten, and how they come back -/
theorem wipe_ok : ∀ {ws : List Nat} {σ : L2.St} {ρ : Evn} {L R : List Ent}, Loc σ ρ L → Stt K w H (L ++ R) → ∃ Lw Ws, Loc (wipe σ ws) (wipeE ws ρ) Lw ∧ Stt K w H (Lw ++ (Ws ++ R)) ∧
    ∀ H' ρ5 L5 R', Loc (wipe σ ws) ρ5 L5 → Stt K w H' (L5 ++ (Ws ++ R')) → ∃ L6, Loc σ (backE ws ρ ρ5) L6 ∧ Stt K w H' (L6 ++ R')
  | [], σ, ρ, L, R, l, st => ⟨L, [], l, st, fun H' ρ5 L5 R' l5 s5 => ⟨L5, l5, s5⟩⟩
  | v :: vs, σ, ρ, L, R, l, st => by
    obtain ⟨Lw, Ws, l1, s1, back⟩ := wipe_ok (ws := vs) l st
    by_cases hv : v < Lw.length
    case neg =>
      have lw : (wipe σ vs).length = Lw.length := by rw [← l1.1, List.length_map]
      have lr : (wipeE vs ρ).length = Lw.length := by rw [← l1.2, List.length_map]
      have e1 : wipe σ (v :: vs) = wipe σ vs := by
        show (wipe σ vs).set v none = _
        exact List.set_eq_of_length_le (by rw [lw]; omega)
      have e2 : wipeE (v :: vs) ρ = wipeE vs ρ := by
        rw [wipeE_cons]
        exact List.set_eq_of_length_le (by rw [lr]; omega)
      rw [e1, e2]
      refine ⟨Lw, Ws, l1, s1, fun H' ρ5 L5 R' l5 s5 => ?_⟩
      have e3 : backE (v :: vs) ρ ρ5 = backE vs ρ ρ5 := by
        show backE vs ρ (ρ5.set v _) = _
        rw [List.set_eq_of_length_le]
        have a := congrArg List.length l5.1
        have b := congrArg List.length l5.2
        rw [List.length_map] at a b
        rw [← b, a, lw]
        omega
      rw [e3]
      exact back H' ρ5 L5 R' l5 s5
    have ge := List.getElem?_eq_getElem hv
    have es : Evn.at (wipeE vs ρ) v = (Lw[v]'hv).s := by
      rw [Evn.at_eq, ← l1.2, List.getElem?_map, ge]
      rfl
    have ev : (wipe σ vs)[v]? = some (Lw[v]'hv).v := by
      rw [← l1.1, List.getElem?_map, ge]
      rfl
    refine ⟨Lw.set v (eU none), (Lw[v]'hv) :: Ws, ?_, ?_, fun H' ρ5 L5 R' l5 s5 => ?_⟩
    · exact Loc.put (x := eU none) l1
    · have s2 : Stt K w H ((Lw[v]'hv) :: (Lw.eraseIdx v ++ (Ws ++ R))) := s1.out ge
      refine Stt.put (x := eU none) ?_ hv
      refine (s2.addU none).perm (.cons _ ?_)
      exact List.perm_middle.symm
    · have h5 : L5.length = Lw.length := by
        have a := congrArg List.length l5.1
        have b := congrArg List.length l1.1
        rw [List.length_map, wipe_length] at a b
        rw [a, b]
      have l6 : Loc (wipe σ vs) (ρ5.set v (Lw[v]'hv).s) (L5.set v (Lw[v]'hv)) := by
        have q := Loc.put (i := v) (x := Lw[v]'hv) l5
        have e2 : (wipe σ (v :: vs)).set v (Lw[v]'hv).v = wipe σ vs := by
          show ((wipe σ vs).set v none).set v _ = _
          rw [List.set_set]
          exact set_same ev
        rw [e2] at q
        exact q
      have s6 : Stt K w H' (L5.set v (Lw[v]'hv) ++ (Ws ++ R')) := Stt.store (x := Lw[v]'hv) (by simpa using s5) (by rw [h5]; exact hv)
      obtain ⟨L6, l7, s7⟩ := back H' _ _ R' l6 s6
      refine ⟨L6, ?_, s7⟩
      show Loc σ (backE vs ρ (ρ5.set v (Evn.at (wipeE vs ρ) v))) L6
      rw [es]
      exact l7
end
end Mi

set_option Elab.async false
set_option linter.all false
set_option maxRecDepth 100000
set_option maxHeartbeats 4000000
/-! List comprehensions: the core. -/
namespace Mi
open PySem PySem.Spec PyProof.Rows L2

/-- in a comprehension's block nothing is raised -/
abbrev Wf : WX := fun _ _ _ _ => False
section
variable {F : Type} {call : F → List Sl → CR} {G : Gc} {W : WX} {X : Cx} {σ : L2.St} {H : Hp}
/-- an item joins the new list -/
theorem acc_add {D : Addr} {d : Nat} {acc : List PV} {fp : List Addr} {z : Addr → Prop} {L Te R : List Ent} {tm : Tm} {y : PV} {yv : V} (st : Stt G.K G.w H (⟨some (.ref D), .o d (.lst acc), fp, z⟩ :: (Te ++ (L ++ R)))) (r : TmE σ tm yv Te) (hd : tm.dn d = some y) :
    ∃ vs fp' z', H D = some (.lst vs) ∧ vs.length = acc.length ∧ Stt G.K G.w (upd H D (.lst (vs ++ [yv]))) (⟨some (.ref D), .o d (.lst (acc ++ [y])), fp', z'⟩ :: (L ++ R)) := by
  obtain ⟨a, vs, f, e, ha, ro, rfl⟩ := own_lst st
  cases e
  obtain ⟨zt, ft, rt, _, _, hold⟩ := hold_one (es := ⟨some (.ref D), .o d (.lst acc), D :: f, z⟩ :: (L ++ R)) (st.perm List.perm_middle.symm) r hd
  have hj := hold_join st rfl hold
  have stR : Stt G.K G.w H (⟨some (.ref D), .o d (.lst acc), D :: f, z⟩ :: (L ++ R)) := Stt.drop (fs := Te) (st.perm List.perm_middle.symm)
  refine ⟨vs, D :: (f ++ ft), _, ha, ro.len, stR.mutL ha hj ?_⟩
  refine ROs.app (ro.zone fun _ => .inl) ?_
  simp only [ROs]
  exact ⟨yv, [], ft, [], rfl, rt.zone fun _ => .inr, ⟨rfl, rfl⟩, by rw [List.append_nil]⟩
theorem wipe_idem {ws : List Nat} {σ : L2.St} : wipe (wipe σ ws) ws = wipe σ ws := by
  have gen : ∀ (vs : List Nat), (∀ v ∈ vs, v ∈ ws) → wipe (wipe σ vs) ws = wipe σ ws := by
    intro vs
    induction vs with
    | nil => intro _; rfl
    | cons v vs ih =>
      intro h
      show wipe ((wipe σ vs).set v none) ws = _
      rw [wipe_set (h v List.mem_cons_self)]
      exact ih fun x hx => h x (List.mem_cons_of_mem _ hx)
  exact gen ws fun _ h => h
theorem lc_coreM {d : Nat} {e it : Ex F} {t : Tg} {ws : List Nat} {cs : List (Ex F)} {Q : VK} (hsub : ∀ i ∈ t.is, i ∈ ws) (q : tE G W call (.lc d e t ws it cs) σ H Q) :
    tLc (iS call G W it) (gT G.K t) (tAnd' call G Wf cs) (tE G Wf call e) ws σ H Q := by
  obtain ⟨ρ, L, Θ, l, st, o⟩ := q
  have e1 : evE call (.lc d e t ws it cs) ρ = (evE call it ρ).bd fun tm ρ1 => match tm.walk ρ1 with
    | some k =>
      (noEx (lcL k.chk (fun x ρ => match bindS [] t x ρ with
        | some ρ => (evAnd call cs ρ).bd fun b ρ3 => if b then (evE call e ρ3).bd fun tm ρ4 => R.of (wipeE ws ρ4) ((tm.dn d).map some) else .ok none (wipeE ws ρ3)
        | none => .no) k.xs [] (wipeE ws k.ρ))).bd fun ys ρ5 => .ok (.o d (.lst ys)) (k.back (backE ws k.ρ ρ5))
    | none => .no := by simp only [evE] <;> rfl
  rw [e1, Out.bd] at o
  refine ⟨ρ, L, Θ, l, st, o.imp fun tm ρ1 o1 => ?_⟩
  cases hk : tm.walk ρ1 with
  | none => rw [hk] at o1; exact o1.elim
  | some k =>
    rw [hk] at o1
    refine ⟨k, rfl, fun J H1 L1 Te C l1 s1 hJ hmono hb hl hC D hD => ?_⟩
    generalize hB : (fun (x : PV) (ρ : Evn) => match bindS [] t x ρ with
        | some ρ => (evAnd call cs ρ).bd fun b ρ3 => if b then (evE call e ρ3).bd fun tm ρ4 => R.of (wipeE ws ρ4) ((tm.dn d).map some) else .ok none (wipeE ws ρ3)
        | none => R.no) = B at o1
    have o2 : Out G W σ Θ ((noEx (lcL k.chk B k.xs [] (wipeE ws k.ρ))).bd fun ys ρ5 => .ok (.o d (.lst ys)) (k.back (backE ws k.ρ ρ5))) fun a ρ' => ∀ b H' L' Te, Loc σ ρ' L' → TmE σ a b Te → Stt G.K G.w H' (L' ++ (Te ++ Θ)) → Q b H' := o1
    obtain ⟨Lw, Ws, lw, sw, back⟩ := wipe_ok (ws := ws) l1 s1
    -- what the loop's answer gives
    let Fin : List PV → Evn → Prop := fun ys ρ5 => ∀ H' L5 fp z, Loc (wipe σ ws) ρ5 L5 → Stt G.K G.w H' (⟨some (.ref D), .o d (.lst ys), fp, z⟩ :: (L5 ++ (Ws ++ (Te ++ Θ)))) → Q (.ref D) H'
    let OutL : R (List PV) → Prop := fun r => ∃ ys ρ5, r = .ok ys ρ5 ∧ Fin ys ρ5
    have start : OutL (lcL k.chk B k.xs [] (wipeE ws k.ρ)) := by
      cases er : lcL k.chk B k.xs [] (wipeE ws k.ρ) with
      | no => rw [er] at o2; exact o2.elim
      | ex c fs ρ' => rw [er] at o2; exact o2.elim
      | ok ys ρ5 =>
        rw [er] at o2
        refine ⟨ys, ρ5, rfl, fun H' L5 fp z l5 s5 => ?_⟩
        have s6 : Stt G.K G.w H' (L5 ++ (Ws ++ (Te ++ (⟨some (.ref D), .o d (.lst ys), fp, z⟩ :: Θ)))) := s5.perm (by
          rw [← List.append_assoc, ← List.append_assoc, ← List.append_assoc, ← List.append_assoc]
          exact List.perm_middle.symm)
        obtain ⟨L6, l6, s7⟩ := back H' ρ5 L5 _ l5 s6
        obtain ⟨L7, l7, s8⟩ := hb G.K G.w H' σ _ L6 _ l6 s7
        refine o2 (.ref D) H' L7 [⟨some (.ref D), .o d (.lst ys), fp, z⟩] l7 ⟨fp, z, rfl⟩ ?_
        exact (s8.perm (perm3 L7 Te _)).drop
    let Inv' : Nat → Nat → Hp → Prop := fun i m H' => i + m = k.xs.length ∧ ∃ ρ' L' acc fp z, Loc (wipe σ ws) ρ' L' ∧ Stt G.K G.w H' (⟨some (.ref D), .o d (.lst acc), fp, z⟩ :: (L' ++ (Ws ++ (Te ++ Θ)))) ∧ OutL (lcL k.chk B (k.xs.drop i) acc ρ')
    have h0 : Stt G.K G.w (upd H1 D (.lst [])) (⟨some (.ref D), .o d (.lst []), [D], fun _ => False⟩ :: (Lw ++ (Ws ++ (Te ++ Θ)))) := by
      have hd0 : Hold H1 (Lw ++ (Ws ++ (Te ++ Θ))) (fun _ => False) [] := ⟨fun _ h => h.elim, (fun _ h => by cases h), List.nodup_nil, fun _ _ _ _ _ h => h, fun _ h => by cases h⟩
      refine (hd0.new sw hD (.inl ⟨[], rfl⟩)).addO (sw.ext (Kp.fresh hD)) ?_
      simp only [RO]
      exact ⟨D, [], [], rfl, upd_same, by simp only [ROs]; exact ⟨trivial, trivial⟩, rfl⟩
    refine ⟨Inv', ⟨k.xs.length, by omega, wipeE ws k.ρ, Lw, [], [D], _, lw, h0, by rw [List.drop_zero]; exact start⟩, ?_⟩
    rintro i m H2 ⟨him, ρ2, L2, acc, fp, z, l2, s2, o3⟩
    by_cases hchk : k.chk ρ2
    case neg =>
      exfalso
      obtain ⟨ys, ρ5, er, _⟩ := o3
      cases hx : k.xs.drop i with
      | nil => rw [hx] at er; simp only [lcL, hchk, if_false] at er; cases er
      | cons x xs => rw [hx] at er; simp only [lcL, hchk, if_false] at er; cases er
    case pos =>
      have hc0 := hC (wipe σ ws) ρ2 L2 l2 (fun j p hj => by
        have hat : ρ2.at j = .l 0 p := by
          have := hchk
          unfold Wk.chk at this
          rw [hj] at this
          exact this
        obtain ⟨en, a1, a2, a3⟩ := l2.ent hat (by intro z; cases z)
        obtain ⟨ev, es', ef, ez⟩ := en
        obtain rfl : es' = _ := a2
        obtain ⟨_, v, e4, _⟩ := s2.ok _ (List.mem_cons_of_mem _ (List.mem_append_left _ (List.mem_of_getElem? a1)))
        obtain rfl : ev = some v := e4
        rw [a3]
        exact (wipe_some a3).1.symm) hchk
      have hc : C (⟨some (.ref D), .o d (.lst acc), fp, z⟩ :: (L2 ++ (Ws ++ (Te ++ Θ)))) := hmono _ _ (fun en men => by
        refine List.mem_cons_of_mem _ ?_
        rcases List.mem_append.mp men with men | men
        · exact List.mem_append_left _ men
        · exact List.mem_append_right _ (List.mem_append_right _ men)) hc0
      obtain ⟨j1, j2⟩ := hJ H2 _ s2 hc i
      cases m with
      | zero =>
        refine .inl ⟨j1 (by omega), ?_⟩
        have ed : k.xs.drop i = [] := List.drop_eq_nil_of_le (by omega)
        rw [ed] at o3
        obtain ⟨ys, ρ5, er, fin⟩ := o3
        simp only [lcL, hchk, if_true] at er
        cases er
        exact fin H2 L2 fp z l2 s2
      | succ m =>
        have hi : i < k.xs.length := by omega
        have ed : k.xs.drop i = k.xs[i] :: k.xs.drop (i + 1) := List.drop_eq_getElem_cons hi
        obtain ⟨g1, g2⟩ := j2 k.xs[i] (List.getElem?_eq_getElem hi)
        rw [ed] at o3
        have o4 : OutL ((B k.xs[i] ρ2).bd fun o ρ1 => (match o with
          | some y => if acc.length < lim then lcL k.chk B (k.xs.drop (i + 1)) (acc ++ [y]) ρ1 else .no
          | none => lcL k.chk B (k.xs.drop (i + 1)) acc ρ1)) := by
          simp only [lcL, hchk, if_true] at o3
          exact o3
        refine .inr ⟨g1, Inv' (i + 1) m, fun H' h => ⟨m, Nat.lt_succ_self m, h⟩, fun xv H3 hy => ?_⟩
        obtain ⟨rfl, zx, s3⟩ := g2 xv H3 hy
        cases hbd : bindS [] t k.xs[i] ρ2 with
        | none =>
          exfalso
          obtain ⟨ys, ρ5, er, _⟩ := o4
          rw [← hB] at er
          simp only [hbd, R.bd_no] at er
          cases er
        | some ρ3 =>
          have eB : B k.xs[i] ρ2 = (evAnd call cs ρ3).bd fun b ρ3 => if b then (evE call e ρ3).bd fun tm ρ4 => R.of (wipeE ws ρ4) ((tm.dn d).map some) else .ok none (wipeE ws ρ3) := by rw [← hB]; simp only [hbd]
          rw [eB] at o4
          have s3' : Stt G.K G.w H3 (L2 ++ ([⟨some xv, .v k.xs[i], [], zx⟩] ++ (⟨some (.ref D), .o d (.lst acc), fp, z⟩ :: (Ws ++ (Te ++ Θ))))) := s3.perm (by
            refine (List.Perm.cons _ List.perm_middle.symm).trans ?_
            exact List.perm_middle.symm)
          refine bind_coreP (fx := []) (R := ⟨some (.ref D), .o d (.lst acc), fp, z⟩ :: (Ws ++ (Te ++ Θ))) (fun σ' => wipe σ' ws = wipe σ ws) l2 (fun _ h => by cases h) s3' hbd wipe_idem (fun σ' j v hj h => by rw [wipe_set (hsub j hj)]; exact h) fun σ4 L4 p4 l4 _ s4 => ⟨p4, ?_⟩
          -- the turn's end: the block's own names are forgotten
          have fin : ∀ {H' : Hp} {ρ' : Evn} {L' : List Ent} {acc' : List PV} {fp' : List Addr} {z' : Addr → Prop}, Loc σ4 ρ' L' → Stt G.K G.w H' (⟨some (.ref D), .o d (.lst acc'), fp', z'⟩ :: (L' ++ (Ws ++ (Te ++ Θ)))) → OutL (lcL k.chk B (k.xs.drop (i + 1)) acc' (wipeE ws ρ')) → Inv' (i + 1) m H' := fun {H' ρ' L' acc' fp' z'} l' s' o' => by
            obtain ⟨Lv, Wv, lv, sv, _⟩ := wipe_ok (ws := ws) (R := ⟨some (.ref D), .o d (.lst acc'), fp', z'⟩ :: (Ws ++ (Te ++ Θ))) l' (s'.perm List.perm_middle.symm)
            rw [p4] at lv
            refine ⟨by omega, wipeE ws ρ', Lv, acc', fp', z', lv, ?_, o'⟩
            exact ((sv.perm (perm3 Lv Wv _)).drop).perm List.perm_middle
          refine ⟨ρ3, L4, _, l4, s4, ?_⟩
          cases ea : evAnd call cs ρ3 with
          | no => exfalso; rw [ea] at o4; obtain ⟨ys, ρ5, er, _⟩ := o4; cases er
          | ex c fs ρ' => exfalso; rw [ea] at o4; obtain ⟨ys, ρ5, er, _⟩ := o4; cases er
          | ok b ρ5 =>
            rw [ea] at o4
            simp only [R.bd_ok] at o4
            rintro b' H4 L5 Te5 l5 ⟨rfl, rfl⟩ s5
            have s5 : Stt G.K G.w H4 (L5 ++ (⟨some (.ref D), .o d (.lst acc), fp, z⟩ :: (Ws ++ (Te ++ Θ)))) := s5
            cases b with
            | false => exact fin l5 (s5.perm List.perm_middle) o4
            | true =>
              refine ⟨ρ5, L5, _, l5, s5, ?_⟩
              simp only [if_true] at o4
              cases ee : evE call e ρ5 with
              | no => exfalso; rw [ee] at o4; obtain ⟨ys, ρ6, er, _⟩ := o4; cases er
              | ex c fs ρ' => exfalso; rw [ee] at o4; obtain ⟨ys, ρ6, er, _⟩ := o4; cases er
              | ok tm2 ρ6 =>
                rw [ee] at o4
                simp only [R.bd_ok] at o4
                intro yv H5 L6 Te6 l6 r6 s6
                cases hdn : tm2.dn d with
                | none => exfalso; rw [hdn] at o4; obtain ⟨ys, ρ7, er, _⟩ := o4; cases er
                | some y =>
                  rw [hdn] at o4
                  simp only [Option.map_some, R.of_some, R.bd_ok] at o4
                  by_cases hlen : acc.length < lim
                  case neg => exfalso; simp only [hlen, if_false] at o4; obtain ⟨ys, ρ7, er, _⟩ := o4; cases er
                  case pos =>
                    simp only [hlen, if_true] at o4
                    have s7 : Stt G.K G.w H5 (⟨some (.ref D), .o d (.lst acc), fp, z⟩ :: (Te6 ++ (L6 ++ (Ws ++ (Te ++ Θ))))) := s6.perm (by
                      refine (perm3 L6 Te6 _).trans ?_
                      refine (List.Perm.append_left Te6 List.perm_middle).trans ?_
                      exact List.perm_middle)
                    obtain ⟨vs, fp', z', hv, hl', s8⟩ := acc_add s7 r6 hdn
                    exact ⟨vs, hv, by rw [hl']; exact hlen, fin l6 s8 o4⟩
end
end Mi

set_option Elab.async false
set_option linter.all false
set_option maxRecDepth 100000
set_option maxHeartbeats 4000000
/-! List comprehensions: the forms. -/
namespace Mi
open PySem PySem.Spec PyProof.Rows L2

section
variable {F : Type} {call : F → List Sl → CR} {G : Gc} {W : WX} {X : Cx}
theorem c_nil {X : Cx} : L2.PTs X [] (tAnd' call G W []) := ⟨fun pins s σ H Q I h => pts_nil.run pins s σ H Q I (and_nil h)⟩
theorem c_one {X : Cx} {c : Ex F} {ce : Expr} (h : PT X ce (tT call G W c)) : L2.PTs X [ce] (tAnd' call G W [c]) := ⟨fun pins s σ H Q I q => (pts_one h).run pins s σ H Q I ((and_cons q).mono fun b H1 h => by
  cases b with
  | true => exact and_nil h
  | false => exact h)⟩
variable {elt tg iter : Expr} {ifs : List Expr} {scope : Scope} {own : List (Str × Nat)} {pos spos py : Pos} {d : Nat} {e it : Ex F} {t : Tg} {cs : List (Ex F)}
theorem f_lc (hc : X.calm = true) (hN : X.N.Nodup) (hi : PI X tg iter (iS call G W it)) (ok : BlkOk X.N X.env.scope scope own)
    (hg : ∀ (s : Shared) (H : Hp) (C : Addr) (cl : List (Str × Addr)) (fp : List Addr), PG (X.blk s H scope (compEnvC scope cl C X.env) fp) tg (gT G.K t))
    (ht : ∀ (s : Shared) (H : Hp) (C : Addr) (cl : List (Str × Addr)) (fp : List Addr), L2.PTs (X.blk s H scope (compEnvC scope cl C X.env) fp) ifs (tAnd' call G Wf cs))
    (he : ∀ (s : Shared) (H : Hp) (C : Addr) (cl : List (Str × Addr)) (fp : List Addr), PE (X.blk s H scope (compEnvC scope cl C X.env) fp) elt (tE G Wf call e))
    (hs : ∀ x, foldedSetIterable iter X.env x = pure x) (hsub : ∀ i ∈ t.is, i ∈ own.map (·.2)) : PE X (.ListComp elt [⟨tg, iter, ifs, 0⟩] scope pos) (tE G W call (.lc d e t (own.map (·.2)) it cs)) :=
  (pe_lc hc hN hi ok hg ht he hs).imp fun σ H Q q => lc_coreM hsub q
theorem s_setLc {fx : List (Nat × V)} {i : Nat} {y : Str} (hc : X.calm = true) (hN : X.N.Nodup) (hy : X.N[i]? = some y) (hyl : X.env.scope.names.lookup y = some .local)
    (hsw : swapsWith (.ListComp elt [⟨tg, iter, ifs, 0⟩] scope pos) (some (.Name y py)) spos.line X.env = pure true) (hi : PI X tg iter (iS call G W it)) (ok : BlkOk X.N X.env.scope scope own)
    (hg : ∀ (s : Shared) (H : Hp) (C : Addr) (cl : List (Str × Addr)) (fp : List Addr), PG (X.blk s H scope (compEnvC scope cl C X.env) fp) tg (gT G.K t))
    (ht : ∀ (s : Shared) (H : Hp) (C : Addr) (cl : List (Str × Addr)) (fp : List Addr), L2.PTs (X.blk s H scope (compEnvC scope cl C X.env) fp) ifs (tAnd' call G Wf cs))
    (he : ∀ (s : Shared) (H : Hp) (C : Addr) (cl : List (Str × Addr)) (fp : List Addr), PE (X.blk s H scope (compEnvC scope cl C X.env) fp) elt (tE G Wf call e))
    (hs : ∀ x, foldedSetIterable iter X.env x = pure x) (hsub : ∀ i ∈ t.is, i ∈ own.map (·.2)) : PS X (.Assign [.Name y py] (.ListComp elt [⟨tg, iter, ifs, 0⟩] scope pos) spos) (tSm G W fx call (.asg i (.lc d e t (own.map (·.2)) it cs))) :=
  (ps_setLc hc hN hy hyl hsw hi ok hg ht he hs).imp fun D σ H q => lc_coreM hsub (asg_core q)
/-- a plain assignment -/
theorem s_asg {fx : List (Nat × V)} {i : Nat} {y : Str} {v : Expr} (hN : X.N.Nodup) (hy : X.N[i]? = some y) (hx : L2.Loc X.env.scope y) (he : PE X v (tE G W call e)) (hs : swapsWith v (some (.Name y py)) spos.line X.env = pure false) (hf : X.fn y = true ∨ X.env.scope.names.lookup y = some .local) :
    PS X (.Assign [.Name y py] v spos) (tSm G W fx call (.asg i e)) := (ps_set hN hy hx he hs hf).imp fun D σ H q => asg_core q
theorem s_asgO {fx : List (Nat × V)} {i : Nat} {y : Str} {v : Expr} (hN : X.N.Nodup) (hy : X.N[i]? = some y) (hx : L2.Loc X.env.scope y) (he : PE X v (tE G W call e)) (hs : swapsWith v (some (.Name y py)) spos.line X.env = pure false) (hf : X.fn y = true ∨ X.env.scope.names.lookup y = some .local) :
    PS X (.Assign [.Name y py] v spos) (tSm G W fx call (.asgO i d e)) := (ps_set hN hy hx he hs hf).imp fun D σ H q => asgO_core q
/-! ### never reached -/
theorem f_nev {a : Expr} : PE X a (tE G W call .nev) := ⟨fun pins s σ H Q I ⟨ρ, L, Θ, l, st, o⟩ => by simp only [evE] at o; exact o.elim⟩
theorem s_nev {fx : List (Nat × V)} {a : Stmt} : PS X a (tSm G W fx call .nev) := ⟨fun pins s σ H D I ⟨ρ, L, Θ, l, f, st, o⟩ => by simp only [evS] at o; exact o.elim⟩
/-! ### calls -/
theorem f_call {f : F} {k : Nat} {fa : Addr} {fd : FuncData} {ps : List Str} {x : Str} {p : Pos} {es : List (Ex F)} {a : Expr} {as : List Expr} (hF : FnOk X.prog X.w X.K X.mg X.base (L2.CX X.prog X.w) k fa fd ps (SpF G (call f))) (hr : Room k X.A) (tk : Takes X W) (hg : Gl X x) (hm : X.mg x = some (.ref fa))
    (hk : PySem.W.keepIn X.K (.ref fa) = true) (hb : Binds X.K fd ps []) (h : PEs G W call X es (a :: as)) (hn : noStars (a :: as)) (hdb : (x == ("__debug__" : Str)) = false) : PE X (.Call (.Name x p) (a :: as) [] pos) (tE G W call (.call f es)) :=
  (pe_callS hF hr hg hm hk hb (fun σ => passAt tk σ) (f_args h hn) hdb (star_cons (hn a List.mem_cons_self)) (star_none fun b hb => hn b (List.mem_cons_of_mem _ hb))).imp fun σ H Q q => call_core q
end
end Mi

set_option Elab.async false
set_option linter.all false
set_option maxRecDepth 100000
set_option maxHeartbeats 4000000
/-! Defs. -/
namespace Mi
open PySem PySem.Spec PyProof.Rows L2

def maskL (ios : List Nat) : Nat → List Ent → List V → List Ent
  | _, _, [] => []
  | j, [], v :: vs => eU (some v) :: maskL ios (j + 1) [] vs
  | j, e :: L, v :: vs => (if ios.contains j then e else eU (some v)) :: maskL ios (j + 1) L vs
section
variable {K : PySem.W.Frag} {w : World} {H : Hp} {ios : List Nat}
theorem maskL_st : ∀ {vs : List V} {j : Nat} {L R : List Ent}, Stt K w H (L ++ R) → Stt K w H (maskL ios j L vs ++ R)
  | [], _, L, R, st => by cases L <;> exact st.drop (fs := _)
  | v :: vs, j, [], R, st => (maskL_st (L := []) st).addU (some v)
  | v :: vs, j, e :: L, R, st => by
    have s1 : Stt K w H (e :: (maskL ios (j + 1) L vs ++ R)) := (maskL_st (j := j + 1) (vs := vs) (R := e :: R) (st.perm List.perm_middle.symm)).perm List.perm_middle
    simp only [maskL]
    split
    · exact s1
    · exact s1.tail.addU (some v)
theorem maskL_v : ∀ {vs : List V} {j : Nat} {L : List Ent}, (∀ i v, ios.contains (j + i) = true → vs[i]? = some v → ∃ e, L[i]? = some e ∧ e.v = some v) → (maskL ios j L vs).map (·.v) = vs.map some
  | [], _, L, h => by cases L <;> rfl
  | v :: vs, j, [], h => by
    simp only [maskL, List.map_cons]
    rw [maskL_v (L := []) fun i u hi hu => by
      obtain ⟨e, he, _⟩ := h (i + 1) u (by rw [← hi]; congr 1; omega) (by simpa using hu)
      simp at he]
    rfl
  | v :: vs, j, e :: L, h => by
    simp only [maskL, List.map_cons]
    rw [maskL_v (L := L) fun i u hi hu => by
      obtain ⟨e', he, hv⟩ := h (i + 1) u (by rw [← hi]; congr 1; omega) (by simpa using hu)
      exact ⟨e', by simpa using he, hv⟩]
    congr 1
    split
    · rename_i hc
      obtain ⟨e', he, hv⟩ := h 0 v hc rfl
      simp only [List.getElem?_cons_zero, Option.some.injEq] at he
      subst he
      exact hv
    · rfl
theorem maskL_s : ∀ {vs : List V} {j : Nat} {L : List Ent}, (maskL ios j L vs).map (·.s) = (List.range vs.length).map fun i => if ios.contains (j + i) then Evn.at (L.map (·.s)) i else .u
  | [], _, L => by cases L <;> rfl
  | v :: vs, j, [] => by
    simp only [maskL, List.map_cons, List.length_cons, List.range_succ_eq_map, List.map_map]
    rw [maskL_s (L := [])]
    have e0 : (eU (some v)).s = if ios.contains (j + 0) then Evn.at ([] : List Sl) 0 else .u := by split <;> rfl
    rw [e0]
    congr 1
    apply List.map_congr_left
    intro i _
    simp only [Function.comp]
    have e1 : j + 1 + i = j + (i + 1) := by omega
    rw [e1]
    split <;> rfl
  | v :: vs, j, e :: L => by
    simp only [maskL, List.map_cons, List.length_cons, List.range_succ_eq_map, List.map_map]
    rw [maskL_s (L := L)]
    congr 1
    · rw [Nat.add_zero]; split <;> rfl
    · apply List.map_congr_left
      intro i _
      simp only [Function.comp]
      have e1 : j + 1 + i = j + (i + 1) := by omega
      rw [e1]
      split <;> rfl
end
section
variable {F : Type} {G : Gc}
/-- a call's end, told without what may have got another value -/
theorem mask_ok {K : PySem.W.Frag} {w : World} {H : Hp} {fd : Fd F} {vs : List V} {σ : L2.St} {ρ : Evn} {L R : List Ent} (hl : vs.length = fd.np) (l : Loc σ ρ L) (f : Fx (fd.ios.map fun i => (i, vs.getD i .non)) σ) (st : Stt K w H (L ++ R)) :
    ∃ P, P.map (·.v) = vs.map some ∧ P.map (·.s) = maskE fd.ios fd.np ρ ∧ Stt K w H (P ++ R) := by
  refine ⟨maskL fd.ios 0 L vs, maskL_v fun i v hi hv => ?_, ?_, maskL_st st⟩
  · rw [Nat.zero_add] at hi
    have m : i ∈ fd.ios := List.contains_iff_mem.mp hi
    have q := f (i, vs.getD i .non) (List.mem_map.mpr ⟨i, m, rfl⟩)
    have hg : vs.getD i .non = v := by rw [List.getD_eq_getElem?_getD, hv]; rfl
    simp only [hg] at q
    rw [← l.1, List.getElem?_map, Option.map_eq_some_iff] at q
    exact q
  · rw [maskL_s, l.2, hl]
    unfold maskE
    apply List.map_congr_left
    intro i _
    rw [Nat.zero_add]
theorem fn_M {D : F → Fd F} {f : F} {P : Program} {w : World} {K : PySem.W.Frag} {mg : Str → Option Value} {base : Heap} {k n : Nat} {fa : Addr} {name qual : Str} {params : Arguments} {body : List Stmt} {scope : Scope} {dV kV doc pm cdv ct oc : Value} {an od : Option Addr}
    {osl : Array (Option Value)} {N ps : List Str} (lk : K.lookup fa = some ⟨oc, od, .func (PySem.W.fnOf name qual params body scope dV kV doc pm an cdv ct), osl⟩) (hcd : PySem.W.codeIn K cdv qual = true) (S : FnScope N ps scope)
    (hnp : ps.length = (D f).np) (hN : N.length = (D f).np + (D f).nl) (hio : ∀ i ∈ (D f).ios, i < (D f).np)
    (hbody : ∀ (A : Around) (outer : List Env) (s : Shared) (H : Hp) (E : XK) (fx : List (Nat × V)), iosOf fx = (D f).ios → Room k (A.deeper (envOfC qual scope s.heap.objs.size fa cdv)) →
      PSs (cxOf (L2.CX P w) P w K mg base N qual scope fa cdv A outer s H E) body (tSms G (fun v d _ H' => E v d H') fx (evF D n) (D f).body)) :
    FnOk P w K mg base (L2.CX P w) (k + 1) fa (PySem.W.fnOf name qual params body scope dV kV doc pm an cdv ct) ps (SpF G (evF D (n + 1) f)) := by
  have len0 : ∀ vs H Q E, SpF G (evF D (n + 1) f) vs H Q E → vs.length = (D f).np := fun vs H Q E ⟨ps', P', Θ, h1, h2, _, h4⟩ => by
    have e1 := congrArg List.length h1
    have e2 := congrArg List.length h2
    rw [List.length_map, List.length_map] at e1
    rw [List.length_map] at e2
    by_cases hl : ps'.length = (D f).np
    · omega
    · simp only [evF, hl, if_false] at h4
  refine fn_of lk hcd S (fun vs H Q E h => by rw [hnp]; exact len0 vs H Q E h) fun A outer s H vs Q E hr hsp => ?_
  have hl := len0 vs H Q E hsp
  obtain ⟨ps', P', Θ, h1, h2, h3, h4⟩ := hsp
  have hpl : ps'.length = (D f).np := by
    have e1 := congrArg List.length h1
    have e2 := congrArg List.length h2
    rw [List.length_map, List.length_map] at e1
    rw [List.length_map] at e2
    omega
  refine ⟨_, hbody A outer s H E ((D f).ios.map fun i => (i, vs.getD i .non)) (by show List.map _ (List.map _ _) = _; rw [List.map_map]; exact List.map_id _) hr, ps' ++ List.replicate (D f).nl .u, P' ++ List.replicate (D f).nl (eU none), Θ, ?_, ?_, ?_, ?_⟩
  · refine ⟨?_, ?_⟩
    · rw [List.map_append, h1, List.map_replicate]
      unfold L2.start
      rw [hN, hl]
      have : (D f).np + (D f).nl - (D f).np = (D f).nl := by omega
      rw [this]
      rfl
    · rw [List.map_append, h2, List.map_replicate]
      rfl
  · intro q hq
    obtain ⟨i, hi, rfl⟩ := List.mem_map.mp hq
    have hlt : i < vs.length := by rw [hl]; exact hio i hi
    unfold L2.start
    rw [List.getElem?_append_left (by rw [List.length_map]; exact hlt), List.getElem?_map, List.getElem?_eq_getElem hlt]
    simp [List.getD_eq_getElem?_getD, hlt]
  · have add : ∀ n : Nat, Stt G.K G.w H (P' ++ (List.replicate n (eU none) ++ Θ)) := by
      intro n
      induction n with
      | zero => exact h3
      | succ n ih =>
        rw [List.replicate_succ, List.cons_append]
        exact (ih.addU none).perm List.perm_middle.symm
    rw [List.append_assoc]
    exact add _
  · have e0 : iosOf ((D f).ios.map fun i => (i, vs.getD i V.non)) = (D f).ios := by
      show List.map _ (List.map _ _) = _
      rw [List.map_map]; exact List.map_id _
    rw [e0]
    simp only [evF, hpl, if_true] at h4
    cases er : evSs (evF D n) (D f).ios (D f).body (ps' ++ List.replicate (D f).nl .u) with
    | no => rw [er] at h4; exact h4
    | ex c fs ρ =>
      rw [er] at h4
      intro σ' fx' d H' L' Fe l' fe st'
      obtain ⟨Pm, a1, a2, a3⟩ := mask_ok hl l' fx' st'
      exact h4 d H' Pm Fe a1 a2 fe a3
    | ok fl ρ =>
      rw [er] at h4
      cases fl with
      | nx =>
        intro σ' H' L' l' fx' st'
        obtain ⟨Pm, a1, a2, a3⟩ := mask_ok hl l' fx' st'
        exact h4 .non H' Pm [⟨some .non, .v .non, [], fun _ => False⟩] a1 a2 ⟨_, rfl⟩ ((a3.flatV (p := .non) (v := .non) rfl).perm List.perm_middle.symm)
      | rt t =>
        intro v σ' H' L' Te l' fx' r' st'
        obtain ⟨Pm, a1, a2, a3⟩ := mask_ok hl l' fx' st'
        exact h4 v H' Pm Te a1 a2 r' a3
/-- without fuel nothing is promised -/
theorem fn_0 {D : F → Fd F} {f : F} {P : Program} {w : World} {K : PySem.W.Frag} {mg : Str → Option Value} {base : Heap} {k : Nat} {fa : Addr} {fd : FuncData} {ps : List Str} : FnOk P w K mg base (L2.CX P w) k fa fd ps (SpF G (evF D 0 f)) := by
  have no : ∀ vs H Q E, ¬ SpF G (evF D 0 f) vs H Q E := fun vs H Q E ⟨_, _, _, _, _, _, h⟩ => by simp only [evF] at h
  exact ⟨fun vs H Q E h => (no vs H Q E h).elim, fun A outer s H args us vs Q E _ _ _ _ h => (no vs H Q E h).elim⟩
end
end Mi

set_option Elab.async false
set_option linter.all false
set_option maxRecDepth 100000
set_option maxHeartbeats 4000000
/-! Items stored. -/
namespace Mi
open PySem PySem.Spec PyProof.Rows L2

section
variable {F : Type} {call : F → List Sl → CR} {G : Gc} {W : WX} {fx : List (Nat × V)} {X : Cx} {D : Ends} {σ : L2.St} {H : Hp}
/-- behind the value and the key of a store -/
def SetPost (G : Gc) (σ : L2.St) (o k x : V) (H2 : Hp) (Q : Hp → Prop) : Prop := ∃ d p tk te fp z Te R p', TmsE σ [tk, te] [k, x] Te ∧ Stt G.K G.w H2 (⟨some o, .o d p, fp, z⟩ :: (Te ++ R)) ∧ putI d p tk te = some p' ∧
  ∀ H' fp' z', Stt G.K G.w H' (⟨some o, .o d p', fp', z'⟩ :: R) → Q H'
theorem setI_core {i : Nat} {k e : Ex F} (q : tSm G W fx call (.setI i k e) D σ H) : tAsg (tE G W call e) (gSub (tVar i) (tE G W call k) (SetPost G σ)) D σ H := by
  have q' : tS G W fx (fun ρ => (evE call e ρ).bd fun te ρ1 => (match ρ1.at i with
    | .o _ _ => (evE call k ρ1).bd fun tk ρ2 => (match ρ2.at i with
      | .o d p => (match putI d p tk te with | some p' => .ok .nx (ρ2.set i (.o d p')) | none => .no)
      | _ => .no)
    | _ => .no)) D σ H := tS_eq (fun ρ => by simp only [evS] <;> rfl) q
  refine (tS_R (rel := TmE) q').mono fun x H1 h1 => ?_
  obtain ⟨te, ρ1, L, Θ, Te, l, fxx, r, st, o⟩ := h1
  cases h : ρ1.at i with
  | u => rw [h] at o; exact o.elim
  | v p => rw [h] at o; exact o.elim
  | l d p => rw [h] at o; exact o.elim
  | b d p => rw [h] at o; exact o.elim
  | o d0 p0 =>
    rw [h] at o
    obtain ⟨⟨ev, es0, ef, ez⟩, a1, rfl, a3⟩ := l.ent h (by intro z; cases z)
    obtain ⟨_, v, e4, _⟩ := st.ok _ (List.mem_append_left _ (List.mem_of_getElem? a1))
    cases e4
    refine ⟨v, a3, ?_⟩
    have o' : OutS G W fx Θ D ((evE call k ρ1).bd fun tk ρ2 => (match ρ2.at i with
      | .o d p => (match putI d p tk te with | some p' => .ok .nx (ρ2.set i (.o d p')) | none => .no)
      | _ => .no)) := o
    refine ⟨ρ1, L, Te ++ Θ, l, st, ?_⟩
    cases ek : evE call k ρ1 with
    | no => rw [ek] at o'; exact o'.elim
    | ex c fs ρ' => rw [ek] at o'; exact (o' σ fxx).more Te
    | ok tk ρ2 =>
      rw [ek] at o'
      simp only [R.bd_ok] at o'
      intro kv H2 L2 Tk l2 r2 s2
      cases h2 : ρ2.at i with
      | u => rw [h2] at o'; exact o'.elim
      | v p => rw [h2] at o'; exact o'.elim
      | l d p => rw [h2] at o'; exact o'.elim
      | b d p => rw [h2] at o'; exact o'.elim
      | o d p =>
        rw [h2] at o'
        cases hp : putI d p tk te with
        | none => simp only [hp] at o'; exact o'.elim
        | some p' =>
          simp only [hp] at o'
          obtain ⟨⟨ev', es', ef', ez'⟩, b1, rfl, b3⟩ := l2.ent h2 (by intro z; cases z)
          rw [a3] at b3
          obtain rfl : ev' = some v := (Option.some.inj b3).symm
          refine ⟨d, p, tk, te, ef', ez', Tk ++ Te, L2.eraseIdx i ++ Θ, p', ⟨kv, [x], Tk, Te, rfl, rfl, r2, x, [], Te, [], rfl, (List.append_nil _).symm, r, rfl, rfl⟩, ?_, hp, fun H' fp' z' s3 => ?_⟩
          · refine (s2.out b1).perm (.cons _ ?_)
            rw [← List.append_assoc Tk Te Θ]
            exact perm3 _ _ _
          · exact o' σ H' (L2.set i ⟨some v, .o d p', fp', z'⟩) (l2.set b1 rfl) fxx (Stt.put (x := ⟨some v, .o d p', fp', z'⟩) s3 (lt_of_get b1))
theorem R0s.set {K : PySem.W.Frag} {w : World} {z : Addr → Prop} {y : PV} {yv : V} (hy : R0 K w H z y yv) : ∀ {ps : List PV} {vs : List V} {j : Nat}, R0s K w H z ps vs → R0s K w H z (ps.set j y) (vs.set j yv)
  | [], _, j, h => by cases h; exact rfl
  | p :: ps, _, 0, h => by obtain ⟨v, vs', rfl, _, h2⟩ := h; exact ⟨yv, vs', rfl, hy, h2⟩
  | p :: ps, _, j + 1, h => by obtain ⟨v, vs', rfl, h1, h2⟩ := h; exact ⟨v, _, rfl, h1, R0s.set hy h2⟩
theorem set_lst {o k x : V} {Q : Hp → Prop} {d : Nat} {xs : List PV} {tk te : Tm} {fp : List Addr} {z : Addr → Prop} {Te R : List Ent} {p' : PV} (hr : TmsE σ [tk, te] [k, x] Te) (st : Stt G.K G.w H (⟨some o, .o d (.lst xs), fp, z⟩ :: (Te ++ R))) (he : putI d (.lst xs) tk te = some p')
    (hq : ∀ H' fp' z', Stt G.K G.w H' (⟨some o, .o d p', fp', z'⟩ :: R) → Q H') : rSetL o k x H Q := by
  obtain ⟨kv, _, e1, _, ee, rfl, r1, xv, _, e2, _, ee2, rfl, r2, rfl, rfl⟩ := hr
  cases ee
  cases ee2
  cases tk with
  | v kp =>
    cases kp with
    | int i =>
      obtain ⟨zk, rfl⟩ := r1
      simp only [putI] at he
      cases hd : te.dn d with
      | none => rw [hd] at he; cases he
      | some y =>
        rw [hd] at he
        by_cases hz : d = 0
        · subst hz
          simp only [if_true, Option.map_eq_some_iff] at he
          obtain ⟨j, hj, rfl⟩ := he
          rw [List.append_nil] at st
          obtain ⟨_, _, u, eu, ek⟩ := st.ok ⟨some k, .v (.int i), [], zk⟩ (by simp)
          cases eu
          cases ek
          have st1 : Stt G.K G.w H (⟨some o, .o 0 (.lst xs), fp, z⟩ :: (e2 ++ R)) := Stt.tail (e := ⟨some (.int i), .v (.int i), [], zk⟩) (st.perm (.swap _ _ _))
          obtain ⟨a, vs, rfl, ha, r0, rfl⟩ := own0 st1
          obtain ⟨zt, ft, rt, _, _, hold⟩ := hold_one (es := ⟨some (.ref a), .o 0 (.lst xs), [a], z⟩ :: R) (st1.perm List.perm_middle.symm) r2 hd
          obtain ⟨rt0, rfl⟩ := RO_zero.mp rt
          have hj' := hold_join st1 rfl hold
          have stR : Stt G.K G.w H (⟨some (.ref a), .o 0 (.lst xs), [a], z⟩ :: R) := Stt.drop (fs := e2) (st1.perm List.perm_middle.symm)
          refine ⟨a, vs, i, j, rfl, rfl, ha, by rw [r0.length]; exact hj, hq _ _ _ (stR.mutL ha hj' (.of0 ?_))⟩
          exact R0s.set (rt0.zone fun _ => .inr) (r0.zone fun _ => .inl)
        · simp only [hz, if_false] at he; cases he
    | _ => simp only [putI] at he; cases he
  | _ => simp only [putI] at he; cases he
end
end Mi

set_option Elab.async false
set_option linter.all false
set_option maxRecDepth 100000
set_option maxHeartbeats 4000000
/-! Stores into dicts by their entries. -/
namespace Mi
open PySem PySem.Spec PyProof.Rows L2

section
variable {X : Cx} {pins : List (Addr × Obj)} {σ : L2.St} {H : Hp} {s : Shared} {z : Addr → Prop}
/-- what a store leaves -/
def Stored (X : Cx) (pins : List (Addr × Obj)) (σ : L2.St) (H : Hp) (z : Addr → Prop) (a : Addr) (ks : List PV) (es : List DictEntry) (k : PV) (u : Value) (s' : Shared) : Prop :=
  ∃ es', KEs X.K X.w H z (kPut ks k) es' ∧ es'.map (·.val) = vPut ks (es.map (·.val)) k u ∧ Inv X pins σ (upd H a (rawO a es')) s'
theorem kPut_length (ks : List PV) (k : PV) : (kPut ks k).length ≤ ks.length + 1 := by
  unfold kPut
  split <;> simp
theorem raw_store {E : Value → Shared → Prop} {A : Around} (I : Inv X pins σ H s) {a : Addr} {ks : List (PV × PV)} {es : List DictEntry} {k : PV} {kv : V} {ku u : Value} {Q : Unit → Shared → Prop} {f : Value → Value → Sem Unit}
    (ff : ∀ {Q : Unit → Shared → Prop} {xs : List (NestedKey × Addr × Value)} {b : Addr} {n : NestedKey}, ku = .ref b → (nestedKind X.prog X.w).is s.heap n b → s.heap.DictOfH (nestedKind X.prog X.w) a xs → (∀ h', h'.DictOfH (nestedKind X.prog X.w) a (storedH xs n b u) → Heap.SameBut a s.heap h' → Q () { s with heap := h', toks := s.toks + (nestedKind X.prog X.w).draws n }) → xs.length ≤ sizeLine → wpAny (model X.prog X.w) A (f ku u) Q E s)
    (fg : ∀ {Q : Unit → Shared → Prop} {kvs : List (L2.Key × Value)} {n : L2.Key}, (mixKind X.prog X.w).is n ku = true → s.heap.DictOf (mixKind X.prog X.w) a kvs → (∀ h', h'.DictOf (mixKind X.prog X.w) a (stored kvs n u) → Heap.SameBut a s.heap h' → Q () { s with heap := h', toks := s.toks + 1 }) → kvs.length ≤ sizeLine → wpAny (model X.prog X.w) A (f ku u) Q E s)
    (h1 : H a = some (rawO a es)) (h2 : KEs X.K X.w H z (ks.map (·.1)) es) (nd : (ks.map (·.1)).Nodup) (hl : keyLike k ks = true) (r0 : R0 X.K X.w H z k kv) (rk : RelV kv ku) (hlen : ks.length < sizeLine)
    (hq : ∀ s', Stored X pins σ H z a (ks.map (·.1)) es k u s' → Q () s') : wpAny (model X.prog X.w) A (f ku u) Q E s := by
  obtain ⟨e1, e2, e3⟩ := keyLike_parts hl
  obtain ⟨k1, k2⟩ := kval I r0 rk e1 e2
  obtain ⟨g0, g1, o, ep, g2, g3, g4⟩ := raw_get I h1
  have hn := h2.length
  rw [List.length_map] at hn
  have mu : Mut (H a) := by rw [h1]; exact True.intro
  have fin : ∀ (h' : Heap) (tk : Nat) (es' : List DictEntry) (o' : Obj) (ep' : Nat), Heap.SameBut a s.heap h' → h'.get? a = some o' → o'.ExactDict → o'.data = .dict es'.toArray ep' → KEs X.K X.w H z (kPut (ks.map (·.1)) k) es' → es'.map (·.val) = vPut (ks.map (·.1)) (es.map (·.val)) k u → Q () { s with heap := h', toks := tk } := by
    intro h' tk es' o' ep' hs a1 a2 a3 a4 a5
    refine hq _ ⟨es', a4, a5, d_write I mu hs ⟨o', a1⟩ (raw_ok g0 ?_ a1 a2 a3)⟩
    have b1 := a4.length
    have b2 := kPut_length (ks.map (·.1)) k
    rw [List.length_map] at b2
    omega
  rcases e3 with ⟨t1, t2⟩ | ⟨t1, t2⟩
  · obtain ⟨b, rfl, rfl, kk⟩ := k1 t1
    obtain ⟨es', c1, c2, c3⟩ := tup_stored (X := X) (b := b) (u := u) h2 t2 r0 e1 e2
    refine ff rfl kk (tup_dict I h1 h2 t2 nd) (fun h' hd hs => ?_) ?_
    · obtain ⟨o', es2, ep', d1, d2, d3, d4, _, _⟩ := hd
      rw [c1] at d4
      exact fin h' _ es' o' ep' hs d1 d2 (by rw [← d4, Array.toArray_toList]; exact d3) c2 c3
    · unfold tupXs
      rw [List.length_map, List.length_zip, List.length_map]
      omega
  · refine fg (k2 t1) (flat_dict I h1 h2 t2 nd) (fun h' hd hs => ?_) ?_
    · obtain ⟨o', es2, ep', d1, d2, d3, d4, d5, _⟩ := hd
      have hu : (es.map (·.val)).length = (ks.map (·.1)).length := by rw [List.length_map, List.length_map]; exact hn
      rw [flat_stored hu t2 t1] at d5
      obtain ⟨b1, b2⟩ := flat_back (X := X) (K := X.K) (H := H) (z := z) (vPut_length hu) (kPut_mem t2 t1) d5 (fun e he => d4 e (by simpa using he))
      exact fin h' _ es2.toList o' ep' hs d1 d2 (by rw [Array.toArray_toList]; exact d3) b1 b2
    · unfold flatKvs
      rw [List.length_map, List.length_zip, List.length_map]
      omega
end
end Mi

set_option Elab.async false
set_option linter.all false
set_option maxRecDepth 100000
set_option maxHeartbeats 4000000
/-! Dicts of ours, changed. -/
namespace Mi
open PySem PySem.Spec PyProof.Rows L2

section
variable {K : PySem.W.Frag} {w : World} {H : Hp}
/-- the dict at a becomes another one -/
theorem Stt.mutD {a : Addr} {d : Nat} {ks ks' : List (PV × PV)} {es es' : List DictEntry} {f f' : List Addr} {z z' : Addr → Prop} {R : List Ent} (st : Stt K w H (⟨some (.ref a), .o d (.dct ks), a :: f, z⟩ :: R)) (ha : H a = some (rawO a es))
    (hd : Hold H R z' (a :: f')) (ro : ROk K w H z' d ks' es' f') (nk : (ks'.map (·.1)).Nodup) : Stt K w (upd H a (rawO a es')) (⟨some (.ref a), .o d (.dct ks'), a :: f', z'⟩ :: R) := by
  have kp : Kp (fun b => b = a) H (upd H a (rawO a es')) := Kp.at
  have ow : ∀ b, b = a → Own (H b) := fun b e => by subst e; exact .inr ⟨_, ha⟩
  have fr := hd.fr a List.mem_cons_self
  have naf : a ∉ f' := (List.nodup_cons.mp hd.nd).1
  have dom : ∀ b, (∃ o, H b = some o) → ∃ o, upd H a (rawO a es') b = some o := fun b ⟨o, e⟩ => by
    by_cases h : b = a
    · subst h; exact ⟨_, upd_same⟩
    · exact ⟨o, by rw [upd_ne h]; exact e⟩
  have sR : Stt K w (upd H a (rawO a es')) R := ⟨fun e m => (st.tail.ok e m).kp kp ow (fun b e1 => by subst e1; exact (fr.2 e m).2) fun b e1 => by subst e1; exact (fr.2 e m).1, st.tail.nd, st.tail.nz⟩
  refine sR.addO ?_ hd.nd (fun b hb => dom b (hd.dom b hb)) hd.ex hd.fr
  simp only [RO]
  exact ⟨a, es', f', rfl, upd_same, ro.kp kp ow (fun b e => by subst e; exact fr.1) (fun _ x => x) (fun b e => by subst e; exact naf), nk, rfl⟩
end
section
variable {G : Gc} {H : Hp}
/-- a dict of ours with shared values -/
theorem ownD0 {v : V} {ks : List (PV × PV)} {fp : List Addr} {z : Addr → Prop} {R : List Ent} (st : Stt G.K G.w H (⟨some v, .o 0 (.dct ks), fp, z⟩ :: R)) : ∃ a es, v = .ref a ∧ H a = some (rawO a es) ∧ KEs G.K G.w H z (ks.map (·.1)) es ∧ VLs G.K G.w H z (ks.map (·.2)) (es.map (·.val)) ∧ (ks.map (·.1)).Nodup ∧ fp = [a] := by
  obtain ⟨_, u, e1, r⟩ := st.ok _ List.mem_cons_self
  cases e1
  simp only [RO] at r
  obtain ⟨a, es, f, e1, h1, h2, h3, h4⟩ := r
  obtain ⟨rfl, r0⟩ := h2.r0
  obtain ⟨g1, g2⟩ := R0k_iff.mp r0
  exact ⟨a, es, e1, h1, g1, g2, h3, h4⟩
theorem KEs.zone {K : PySem.W.Frag} {w : World} {z z' : Addr → Prop} (zz : ∀ b, z b → z' b) : ∀ {ks : List PV} {es : List DictEntry}, KEs K w H z ks es → KEs K w H z' ks es
  | [], _, h => h
  | k :: ks, _, h => by
    obtain ⟨e, es', rfl, ⟨kv, nk, a1, a2, a3⟩, h2⟩ := h
    exact ⟨e, es', rfl, ⟨kv, nk, a1, a2.zone zz, a3⟩, h2.zone zz⟩
theorem VLs.zone {K : PySem.W.Frag} {w : World} {z z' : Addr → Prop} (zz : ∀ b, z b → z' b) : ∀ {ps : List PV} {us : List Value}, VLs K w H z ps us → VLs K w H z' ps us
  | [], _, h => h
  | p :: ps, _, h => by
    obtain ⟨u, us', rfl, ⟨v, a1, a2⟩, h2⟩ := h
    exact ⟨u, us', rfl, ⟨v, a1, a2.zone zz⟩, h2.zone zz⟩
end
end Mi

set_option Elab.async false
set_option linter.all false
set_option maxRecDepth 100000
set_option maxHeartbeats 4000000
/-! Dict comprehensions, the dict told by its entries. -/
namespace Mi
open PySem PySem.Spec PyProof.Rows L2

section
variable {X : Cx}
/-- what a turn stores: the dict at D, its keys, the new key and its value -/
def TurnD (K : PySem.W.Frag) (w : World) (D : Addr) (y x : V) (H5 : Hp) (N : Hp → Prop) : Prop := ∃ z ks es k, H5 D = some (rawO D es) ∧ KEs K w H5 z (ks.map (·.1)) es ∧ (ks.map (·.1)).Nodup ∧ keyLike k ks = true ∧ R0 K w H5 z k y ∧ ks.length < sizeLine ∧
  ∀ u es', RelV x u → KEs K w H5 z (kPut (ks.map (·.1)) k) es' → es'.map (·.val) = vPut (ks.map (·.1)) (es.map (·.val)) k u → N (upd H5 D (rawO D es'))
def tDcR (K : PySem.W.Frag) (w : World) (wi : TI) (g : TG) (tt : TT) (tk tv : TE) (vs : List Nat) : TE := fun σ H Q => wi σ H fun J H1 => ∀ D, H1 D = none → ∃ W : Nat → Nat → Hp → Prop, (∃ m, W 0 m (upd H1 D (rawO D []))) ∧ ∀ i m H, W i m H →
  (J.stop i H ∧ Q (.ref D) H) ∨ (J.go i H ∧ ∃ Nx : Hp → Prop, (∀ H', Nx H' → ∃ m', m' < m ∧ W (i + 1) m' H') ∧ ∀ x H', J.yld i H x H' → g x (wipe σ vs) H' fun σ2 H2 => wipe σ2 vs = wipe σ vs ∧ tt σ2 H2 fun b H3 =>
    if b = true then tk σ2 H3 fun y H4 => tv σ2 H4 fun z H5 => TurnD K w D y z H5 Nx else Nx H3)
theorem raw_empty {P : Program} {w : World} {H : Hp} {h : Heap} (hb : sysModules < h.objs.size) : ObjOk P w H (h.push { cls := .type "dict", data := .dict #[] }) h.objs.size (rawO h.objs.size []) :=
  raw_ok (beq_eq_false_iff_ne.mpr (Nat.ne_of_gt hb)) (Nat.zero_le _) (Heap.get?_push_size _ rfl) ⟨rfl, rfl, rfl⟩ rfl
/-- a turn's store -/
theorem turn_store {pins : List (Addr × Obj)} {σ : L2.St} {H : Hp} {s : Shared} {E : Value → Shared → Prop} {D : Addr} {y x : V} {ku u : Value} {N : Hp → Prop} {Q : Unit → Shared → Prop} (hu : X.A.units + 64 < cLine) (I : Inv X pins σ H s) (ry : RelV y ku) (rx : RelV x u) (h : TurnD X.K X.w D y x H N)
    (hq : ∀ s' H', Inv X pins σ H' s' → N H' → Q () s') : wpAny (model X.prog X.w) X.A (dictSet D ku u) Q E s := by
  obtain ⟨z, ks, es, k, h1, h2, nd, hl, r0, hlen, hN⟩ := h
  refine raw_store (f := fun a b => dictSet D a b) I (fun e hk hd hQ hsz => ?_) (fun hk hd hQ hsz => wpAny_dictSet_pairs hk hd hQ hsz) h1 h2 nd hl r0 ry hlen fun s' ⟨es', a1, a2, a3⟩ => hq s' _ a3 (hN u es' rx a1 a2)
  subst e
  exact wpAny_dictSet_heap (show X.A.units + 8 < cLine by omega) hk hd hQ hsz
/-- the dict comprehension: Q behind it -/
theorem dcR_core {pins : List (Addr × Obj)} {s : Shared} {σ : L2.St} {H : Hp} {Q : VK} {kx vx tg iter : Expr} {ifs : List Expr} {scope : Scope} {own : List (Str × Nat)} {pos pos' : Pos} {wi : TI} {g : TG} {tt : TT} {tk tv : TE}
    (hu : X.A.units + 64 < cLine) (hc : X.calm = true) (hN : X.N.Nodup) (I : Inv X pins σ H s) (hi : PI X tg iter wi) (ok : BlkOk X.N X.env.scope scope own)
    (hg : ∀ (s : Shared) (H : Hp) (C : Addr) (cl : List (Str × Addr)) (fp : List Addr), PG (X.blk s H scope (compEnvC scope cl C X.env) fp) tg g)
    (ht : ∀ (s : Shared) (H : Hp) (C : Addr) (cl : List (Str × Addr)) (fp : List Addr), L2.PTs (X.blk s H scope (compEnvC scope cl C X.env) fp) ifs tt)
    (hk : ∀ (s : Shared) (H : Hp) (C : Addr) (cl : List (Str × Addr)) (fp : List Addr), PE (X.blk s H scope (compEnvC scope cl C X.env) fp) kx tk)
    (he : ∀ (s : Shared) (H : Hp) (C : Addr) (cl : List (Str × Addr)) (fp : List Addr), PE (X.blk s H scope (compEnvC scope cl C X.env) fp) vx tv) (hs : ∀ x, foldedSetIterable iter X.env x = pure x)
    (h : tDcR X.K X.w wi g tt tk tv (own.map (·.2)) σ H Q) :
    wpAny (model X.prog X.w) X.A (eval (.DictComp kx vx [⟨tg, iter, ifs, 0⟩] scope pos) X.env) (EP X pins σ Q) X.xe s := by
  have hfree : ∀ y ∈ scope.names, y.2 = .free → ∃ c, X.env.cells.lookup y.1 = some c := fun y hy e => (ok.free y hy e).elim (fun k => I.ok.has _ (.inl k)) fun k => I.ok.has _ (.inr k)
  rw [arm_eval_DictComp]
  refine wpAny_comprehension_free (use := none) rfl hs (closure_ok hfree) ok.kind (fun y hy e => by rw [ok.uniq y hy, e]) (thn (hi.run pins s σ H _ I h) fun xv s1 hx => thn hx fun itv s2 h2 => ?_)
  obtain ⟨it, fp, tn, J, H2, rfl, I2, T, st2, f2, q⟩ := h2
  refine wpAny_newObj_type (newEnv_comp ?_)
  obtain ⟨W, ⟨m0, w0⟩, turn⟩ := q s2.heap.objs.size (I2.hok.fresh (Nat.le_refl _))
  -- the new dict lies there
  have I3 : Inv X pins σ (upd H2 s2.heap.objs.size (rawO s2.heap.objs.size [])) { s2 with heap := s2.heap.push { cls := .type "dict", data := .dict #[] } } :=
    I2.laid (t' := s2.toks) (fun b o e => Heap.get?_push_of_some _ e) (Nat.le_refl _) (raw_empty I2.big)
  have szs : ∀ b ∈ fp, b < s2.heap.objs.size := fun b hb => let ⟨o, e, _⟩ := T.obj _ _ st2 b hb; Heap.lt_size e
  generalize hD : s2.heap.objs.size = D at *
  generalize hs3 : ({ s2 with heap := s2.heap.push { cls := .type "dict", data := .dict #[] } } : Shared) = s3 at I3
  have h3 : s3.heap = s2.heap.push { cls := .type "dict", data := .dict #[] } := by rw [← hs3]
  have f3 : ∀ b ∈ fp, FpOk X pins (upd H2 D (rawO D [])) b ∧ b < s3.heap.objs.size := fun b hb =>
    ⟨⟨by rw [upd_ne (Nat.ne_of_lt (szs b hb))]; exact (f2 b hb).1, (f2 b hb).2⟩, by rw [h3, Heap.size_push, hD]; exact Nat.lt_succ_of_lt (szs b hb)⟩
  have st3 : tn 0 s3.heap := T.keep _ _ _ st2 fun b _ o e => by rw [h3]; exact Heap.get?_push_of_some _ e
  have I4 := block_start I3 ok hN f3
  have pg := hg s3 (upd H2 D (rawO D [])) s3.heap.objs.size (cellsFrom (s3.heap.objs.size + 1) scope.names (cloFrom X.env.cells scope.names [])) fp
  have pt := ht s3 (upd H2 D (rawO D [])) s3.heap.objs.size (cellsFrom (s3.heap.objs.size + 1) scope.names (cloFrom X.env.cells scope.names [])) fp
  have pk := hk s3 (upd H2 D (rawO D [])) s3.heap.objs.size (cellsFrom (s3.heap.objs.size + 1) scope.names (cloFrom X.env.cells scope.names [])) fp
  have pv := he s3 (upd H2 D (rawO D [])) s3.heap.objs.size (cellsFrom (s3.heap.objs.size + 1) scope.names (cloFrom X.env.cells scope.names [])) fp
  have n3 : ∀ b ∈ fp, (upd H2 D (rawO D [])) b = none := fun b hb => (f3 b hb).1.1
  have post : ∀ s6 m H5, Inv X pins σ H5 s6 → Q (.ref D) H5 → s6.heap.Ns s3.heap.objs.size m → H5 s3.heap.objs.size = none → compPost (model X.prog X.w) X.A X.xe none (EP X pins σ Q) (.ref D) s3.heap.objs.size (.ok .next) s6 := fun s6 m H5 I' q hn nC => by
    refine ⟨m, hn, fun h'' sb => ?_⟩
    obtain ⟨f0, f1, f2', f3', f4, f5⟩ := I3.fpOk (Nat.le_refl _) nC
    exact ⟨.ref D, H5, I'.turned (t' := s6.toks) (fun b o hb e => (sb.2 b hb).trans e) f0 f1 f3' f4 f5, rfl, q⟩
  show codeAny _ _ (.compStart (.DictComp kx vx [⟨tg, iter, ifs, 0⟩] scope pos) 0 (.ref it) (.ref D) (compEnvC scope (cellsFrom (s3.heap.objs.size + 1) scope.names (cloFrom X.env.cells scope.names [])) s3.heap.objs.size X.env)) (compPost (model X.prog X.w) X.A X.xe none (EP X pins σ Q) (.ref D) s3.heap.objs.size) { s3 with heap := pushCells (s3.heap.push { cls := .type "dict", data := .dict #[] }) scope.names }
  generalize hce : compEnvC scope (cellsFrom (s3.heap.objs.size + 1) scope.names (cloFrom X.env.cells scope.names [])) s3.heap.objs.size X.env = ce at I4 pg pt pk pv ⊢
  have cL : ce.locals = s3.heap.objs.size := by subst hce; rfl
  generalize hs4 : ({ s3 with heap := pushCells (s3.heap.push { cls := .type "dict", data := .dict #[] }) scope.names } : Shared) = s4 at I4 ⊢
  have st4 : tn 0 s4.heap := T.keep _ _ _ st3 fun b _ o e => by rw [← hs4]; exact pushCells_keeps _ _ _ _ (Heap.get?_push_of_some _ e)
  generalize upd H2 D (rawO D []) = H3 at I3 I4 pg pt pk pv w0 n3 f3 post
  have stat : ∀ {σ' : L2.St} {H' : Hp} {s' : Shared}, Inv (X.blk s3 H3 scope ce fp) [] σ' H' s' → (∀ b ∈ fp, H' b = none) → ∀ b ∈ fp, FpOk (X.blk s3 H3 scope ce fp) [] H' b := fun {σ' H' s'} J' hn b hb =>
    ⟨hn b hb, (J'.ok.exf b hb).1, J'.ok.exfs b hb, .inl hb, fun x c e => (J'.ok.exf b hb).2 x c e, fun p hp => absurd (show p ∈ ([] : List (Addr × Obj)) ++ [] from hp) (by simp)⟩
  have loop : codeAny (model X.prog X.w) X.A (.compLoop (.DictComp kx vx [⟨tg, iter, ifs, 0⟩] scope pos) 0 (.ref it) (.ref D) ce) (compPost (model X.prog X.w) X.A X.xe none (EP X pins σ Q) (.ref D) s3.heap.objs.size) s4 := by
    refine compLoop_anyD (fun n s' => ∃ i H', Inv (X.blk s3 H3 scope ce fp) [] (wipe σ (own.map (·.2))) H' s' ∧ tn i s'.heap ∧ (∀ b ∈ fp, H' b = none) ∧ W i n H') ?_ m0 ⟨0, H3, I4, st4, n3, w0⟩
    rintro n s5 ⟨i, H5, I5, st5, n5, w5⟩
    rcases turn i n H5 w5 with ⟨stop, qq⟩ | ⟨go, Nx, hNx, step⟩
    · refine thnF (T.done (X.blk s3 H3 scope ce fp) rfl rfl rfl hc i [] s5 _ H5 (fun _ _ => False) I5 (stat I5 n5) st5 stop) fun r s6 ⟨hr, I6⟩ => ?_
      subst hr
      have nC : H5 ce.locals = none := I6.free
      obtain ⟨m, hn, _⟩ := I6.loc
      have hn : s6.heap.Ns ce.locals m := hn
      rw [cL] at hn nC
      refine post s6 m H5 (I3.call' (ch := fp) I6.os I6.base I6.hok I6.bare fun b hb => ?_) qq hn nC
      exact ⟨(f3 b hb).1.2.2.2.1, (f3 b hb).1.2.1, (f3 b hb).1.2.2.2.2.1, (f3 b hb).1.2.2.2.2.2⟩
    · refine thnF (T.item (X.blk s3 H3 scope ce fp) rfl rfl rfl hc i [] s5 _ H5 (fun _ _ => False) I5 (stat I5 n5) st5 go) fun r s6 ⟨u, hr, h6⟩ => ?_
      subst hr
      refine thnF h6 fun _ s7 ⟨x, H7, I7, r7, y7, st7, n7⟩ => ?_
      refine thnF (pg.run _ s7 _ H7 x u _ (I7.pinned (stat I7 n7) (T.obj _ _ st7)) r7 (step x H7 y7)) fun _ s8 ⟨σ8, H8, I8, hw8, q8⟩ => ?_
      refine thnF (pt.run _ s8 σ8 H8 _ I8 q8) fun b s9 ⟨H9, I9, q9⟩ => ?_
      have fin : ∀ {s' : Shared} {H' : Hp}, Inv (X.blk s3 H3 scope ce fp) ([] ++ pinsAt fp s7.heap) σ8 H' s' → Nx H' → ∃ m, m < n ∧ ∃ i H', Inv (X.blk s3 H3 scope ce fp) [] (wipe σ (own.map (·.2))) H' s' ∧ tn i s'.heap ∧ (∀ b ∈ fp, H' b = none) ∧ W i m H' := fun {s' H'} J' nx => by
        obtain ⟨m', hm, w'⟩ := hNx H' nx
        have held : ∀ b ∈ fp, ∀ o, s7.heap.get? b = some o → s'.heap.get? b = some o ∧ H' b = none := fun b hb o e => by
          obtain ⟨a1, a2, _⟩ := J'.pin (b, o) (List.mem_append_right _ (List.mem_append_right _ (mem_pinsAt hb e)))
          exact ⟨a1, a2⟩
        refine ⟨m', hm, i + 1, H', (J'.unpinned (pins := [])).weak (by rw [← wipe_length σ8 (own.map (·.2)), hw8]) (fun j v e => (wipe_some (vs := own.map (·.2)) (by rw [hw8]; exact e)).1), T.keep _ _ _ st7 fun b hb o e => (held b hb o e).1, fun b hb => ?_, w'⟩
        obtain ⟨o, e, _⟩ := T.obj _ _ st7 b hb
        exact (held b hb o e).2
      cases b with
      | false => simp only [Bool.false_eq_true, if_false] at q9 ⊢; exact fin I9 q9
      | true =>
        simp only [if_true] at q9 ⊢
        refine thnF (pk.run _ s9 σ8 H9 _ I9 q9) fun z s10 ⟨yk, H10, I10, r10, q10⟩ => ?_
        refine thnF (pv.run _ s10 σ8 H10 _ I10 q10) fun z2 s11 ⟨yv, H11, I11, r11, q11⟩ => ?_
        exact turn_store (X := X.blk s3 H3 scope ce fp) hu I11 r10 r11 q11 fun s12 H12 I12 nx => fin I12 nx
  exact codeAny_compStart_dict loop (T.self X.A 0 _ _ _ st4 loop)
end
end Mi

set_option Elab.async false
set_option linter.all false
set_option maxRecDepth 100000
set_option maxHeartbeats 4000000
/-! Dict comprehensions: the core. -/
namespace Mi
open PySem PySem.Spec PyProof.Rows L2

section
variable {F : Type} {call : F → List Sl → CR} {G : Gc} {W : WX} {X : Cx} {σ : L2.St} {H : Hp}
theorem dc_coreM {ke e it : Ex F} {t : Tg} {ws : List Nat} {cs : List (Ex F)} {Q : VK} (hsub : ∀ i ∈ t.is, i ∈ ws) (q : tE G W call (.dc 0 ke e t ws it cs) σ H Q) :
    tDcR G.K G.w (iS call G W it) (gT G.K t) (tAnd' call G Wf cs) (tE G Wf call ke) (tE G Wf call e) ws σ H Q := by
  obtain ⟨ρ, L, Θ, l, st, o⟩ := q
  have e1 : evE call (.dc 0 ke e t ws it cs) ρ = (evE call it ρ).bd fun tm ρ1 => match tm.walk ρ1 with
    | some k =>
      (noEx (dcL k.chk (fun x ρ => match bindS [] t x ρ with
        | some ρ => (evAnd call cs ρ).bd fun b ρ3 => if b then (evE call ke ρ3).bd fun tk ρ4 => (evE call e ρ4).bd fun tm ρ5 => (match tk.dn 0, tm.dn 0 with
            | some a, some y => .ok (some (a, y)) (wipeE ws ρ5)
            | _, _ => .no) else .ok none (wipeE ws ρ3)
        | none => .no) k.xs [] (wipeE ws k.ρ))).bd fun ys ρ5 => .ok (.o 0 (.dct ys)) (k.back (backE ws k.ρ ρ5))
    | none => .no := by simp only [evE] <;> rfl
  rw [e1, Out.bd] at o
  refine ⟨ρ, L, Θ, l, st, o.imp fun tm ρ1 o1 => ?_⟩
  cases hk : tm.walk ρ1 with
  | none => rw [hk] at o1; exact o1.elim
  | some k =>
    rw [hk] at o1
    refine ⟨k, rfl, fun J H1 L1 Te C l1 s1 hJ hmono hb hl hC D hD => ?_⟩
    generalize hB : (fun (x : PV) (ρ : Evn) => match bindS [] t x ρ with
        | some ρ => (evAnd call cs ρ).bd fun b ρ3 => if b then (evE call ke ρ3).bd fun tk ρ4 => (evE call e ρ4).bd fun tm ρ5 => (match tk.dn 0, tm.dn 0 with
            | some a, some y => .ok (some (a, y)) (wipeE ws ρ5)
            | _, _ => .no) else .ok none (wipeE ws ρ3)
        | none => R.no) = B at o1
    have o2 : Out G W σ Θ ((noEx (dcL k.chk B k.xs [] (wipeE ws k.ρ))).bd fun ys ρ5 => .ok (.o 0 (.dct ys)) (k.back (backE ws k.ρ ρ5))) fun a ρ' => ∀ b H' L' Te, Loc σ ρ' L' → TmE σ a b Te → Stt G.K G.w H' (L' ++ (Te ++ Θ)) → Q b H' := o1
    obtain ⟨Lw, Ws, lw, sw, back⟩ := wipe_ok (ws := ws) l1 s1
    -- what the loop's answer gives
    let Fin : List (PV × PV) → Evn → Prop := fun ys ρ5 => ∀ H' L5 fp z, Loc (wipe σ ws) ρ5 L5 → Stt G.K G.w H' (⟨some (.ref D), .o 0 (.dct ys), fp, z⟩ :: (L5 ++ (Ws ++ (Te ++ Θ)))) → Q (.ref D) H'
    let OutL : R (List (PV × PV)) → Prop := fun r => ∃ ys ρ5, r = .ok ys ρ5 ∧ Fin ys ρ5
    have start : OutL (dcL k.chk B k.xs [] (wipeE ws k.ρ)) := by
      cases er : dcL k.chk B k.xs [] (wipeE ws k.ρ) with
      | no => rw [er] at o2; exact o2.elim
      | ex c fs ρ' => rw [er] at o2; exact o2.elim
      | ok ys ρ5 =>
        rw [er] at o2
        refine ⟨ys, ρ5, rfl, fun H' L5 fp z l5 s5 => ?_⟩
        have s6 : Stt G.K G.w H' (L5 ++ (Ws ++ (Te ++ (⟨some (.ref D), .o 0 (.dct ys), fp, z⟩ :: Θ)))) := s5.perm (by
          rw [← List.append_assoc, ← List.append_assoc, ← List.append_assoc, ← List.append_assoc]
          exact List.perm_middle.symm)
        obtain ⟨L6, l6, s7⟩ := back H' ρ5 L5 _ l5 s6
        obtain ⟨L7, l7, s8⟩ := hb G.K G.w H' σ _ L6 _ l6 s7
        refine o2 (.ref D) H' L7 [⟨some (.ref D), .o 0 (.dct ys), fp, z⟩] l7 ⟨fp, z, rfl⟩ ?_
        exact (s8.perm (perm3 L7 Te _)).drop
    let Inv' : Nat → Nat → Hp → Prop := fun i m H' => i + m = k.xs.length ∧ ∃ ρ' L' acc fp z, Loc (wipe σ ws) ρ' L' ∧ Stt G.K G.w H' (⟨some (.ref D), .o 0 (.dct acc), fp, z⟩ :: (L' ++ (Ws ++ (Te ++ Θ)))) ∧ OutL (dcL k.chk B (k.xs.drop i) acc ρ')
    have h0 : Stt G.K G.w (upd H1 D (rawO D [])) (⟨some (.ref D), .o 0 (.dct []), [D], fun _ => False⟩ :: (Lw ++ (Ws ++ (Te ++ Θ)))) := by
      have hd0 : Hold H1 (Lw ++ (Ws ++ (Te ++ Θ))) (fun _ => False) [] := ⟨fun _ h => h.elim, (fun _ h => by cases h), List.nodup_nil, fun _ _ _ _ _ h => h, fun _ h => by cases h⟩
      refine (hd0.new sw hD (.inr ⟨_, rfl⟩)).addO (sw.ext (Kp.fresh hD)) ?_
      simp only [RO]
      exact ⟨D, [], [], rfl, upd_same, by simp only [ROk]; exact ⟨trivial, trivial⟩, List.nodup_nil, rfl⟩
    refine ⟨Inv', ⟨k.xs.length, by omega, wipeE ws k.ρ, Lw, [], [D], _, lw, h0, by rw [List.drop_zero]; exact start⟩, ?_⟩
    rintro i m H2 ⟨him, ρ2, L2, acc, fp, z, l2, s2, o3⟩
    by_cases hchk : k.chk ρ2
    case neg =>
      exfalso
      obtain ⟨ys, ρ5, er, _⟩ := o3
      cases hx : k.xs.drop i with
      | nil => rw [hx] at er; simp only [dcL, hchk, if_false] at er; cases er
      | cons x xs => rw [hx] at er; simp only [dcL, hchk, if_false] at er; cases er
    case pos =>
      have hc0 := hC (wipe σ ws) ρ2 L2 l2 (fun j p hj => by
        have hat : ρ2.at j = .l 0 p := by
          have := hchk
          unfold Wk.chk at this
          rw [hj] at this
          exact this
        obtain ⟨en, a1, a2, a3⟩ := l2.ent hat (by intro z; cases z)
        obtain ⟨ev, es', ef, ez⟩ := en
        obtain rfl : es' = _ := a2
        obtain ⟨_, v, e4, _⟩ := s2.ok _ (List.mem_cons_of_mem _ (List.mem_append_left _ (List.mem_of_getElem? a1)))
        obtain rfl : ev = some v := e4
        rw [a3]
        exact (wipe_some a3).1.symm) hchk
      have hc : C (⟨some (.ref D), .o 0 (.dct acc), fp, z⟩ :: (L2 ++ (Ws ++ (Te ++ Θ)))) := hmono _ _ (fun en men => by
        refine List.mem_cons_of_mem _ ?_
        rcases List.mem_append.mp men with men | men
        · exact List.mem_append_left _ men
        · exact List.mem_append_right _ (List.mem_append_right _ men)) hc0
      obtain ⟨j1, j2⟩ := hJ H2 _ s2 hc i
      cases m with
      | zero =>
        refine .inl ⟨j1 (by omega), ?_⟩
        have ed : k.xs.drop i = [] := List.drop_eq_nil_of_le (by omega)
        rw [ed] at o3
        obtain ⟨ys, ρ5, er, fin⟩ := o3
        simp only [dcL, hchk, if_true] at er
        cases er
        exact fin H2 L2 fp z l2 s2
      | succ m =>
        have hi : i < k.xs.length := by omega
        have ed : k.xs.drop i = k.xs[i] :: k.xs.drop (i + 1) := List.drop_eq_getElem_cons hi
        obtain ⟨g1, g2⟩ := j2 k.xs[i] (List.getElem?_eq_getElem hi)
        rw [ed] at o3
        have o4 : OutL ((B k.xs[i] ρ2).bd fun o ρ1 => (match o with
          | some q => if keyLike q.1 acc ∧ acc.length < lim then dcL k.chk B (k.xs.drop (i + 1)) (dPut acc q.1 q.2) ρ1 else .no
          | none => dcL k.chk B (k.xs.drop (i + 1)) acc ρ1)) := by
          simp only [dcL, hchk, if_true] at o3
          exact o3
        refine .inr ⟨g1, Inv' (i + 1) m, fun H' h => ⟨m, Nat.lt_succ_self m, h⟩, fun xv H3 hy => ?_⟩
        obtain ⟨rfl, zx, s3⟩ := g2 xv H3 hy
        cases hbd : bindS [] t k.xs[i] ρ2 with
        | none =>
          exfalso
          obtain ⟨ys, ρ5, er, _⟩ := o4
          rw [← hB] at er
          simp only [hbd, R.bd_no] at er
          cases er
        | some ρ3 =>
          have eB : B k.xs[i] ρ2 = (evAnd call cs ρ3).bd fun b ρ3 => if b then (evE call ke ρ3).bd fun tk ρ4 => (evE call e ρ4).bd fun tm ρ5 => (match tk.dn 0, tm.dn 0 with
            | some a, some y => .ok (some (a, y)) (wipeE ws ρ5)
            | _, _ => .no) else .ok none (wipeE ws ρ3) := by rw [← hB]; simp only [hbd]
          rw [eB] at o4
          have s3' : Stt G.K G.w H3 (L2 ++ ([⟨some xv, .v k.xs[i], [], zx⟩] ++ (⟨some (.ref D), .o 0 (.dct acc), fp, z⟩ :: (Ws ++ (Te ++ Θ))))) := s3.perm (by
            refine (List.Perm.cons _ List.perm_middle.symm).trans ?_
            exact List.perm_middle.symm)
          refine bind_coreP (fx := []) (R := ⟨some (.ref D), .o 0 (.dct acc), fp, z⟩ :: (Ws ++ (Te ++ Θ))) (fun σ' => wipe σ' ws = wipe σ ws) l2 (fun _ h => by cases h) s3' hbd wipe_idem (fun σ' j v hj h => by rw [wipe_set (hsub j hj)]; exact h) fun σ4 L4 p4 l4 _ s4 => ⟨p4, ?_⟩
          -- the turn's end: the block's own names are forgotten
          have fin : ∀ {H' : Hp} {ρ' : Evn} {L' : List Ent} {acc' : List (PV × PV)} {fp' : List Addr} {z' : Addr → Prop}, Loc σ4 ρ' L' → Stt G.K G.w H' (⟨some (.ref D), .o 0 (.dct acc'), fp', z'⟩ :: (L' ++ (Ws ++ (Te ++ Θ)))) → OutL (dcL k.chk B (k.xs.drop (i + 1)) acc' (wipeE ws ρ')) → Inv' (i + 1) m H' := fun {H' ρ' L' acc' fp' z'} l' s' o' => by
            obtain ⟨Lv, Wv, lv, sv, _⟩ := wipe_ok (ws := ws) (R := ⟨some (.ref D), .o 0 (.dct acc'), fp', z'⟩ :: (Ws ++ (Te ++ Θ))) l' (s'.perm List.perm_middle.symm)
            rw [p4] at lv
            refine ⟨by omega, wipeE ws ρ', Lv, acc', fp', z', lv, ?_, o'⟩
            exact ((sv.perm (perm3 Lv Wv _)).drop).perm List.perm_middle
          refine ⟨ρ3, L4, _, l4, s4, ?_⟩
          cases ea : evAnd call cs ρ3 with
          | no => exfalso; rw [ea] at o4; obtain ⟨ys, ρ5, er, _⟩ := o4; cases er
          | ex c fs ρ' => exfalso; rw [ea] at o4; obtain ⟨ys, ρ5, er, _⟩ := o4; cases er
          | ok b ρ5 =>
            rw [ea] at o4
            simp only [R.bd_ok] at o4
            rintro b' H4 L5 Te5 l5 ⟨rfl, rfl⟩ s5
            have s5 : Stt G.K G.w H4 (L5 ++ (⟨some (.ref D), .o 0 (.dct acc), fp, z⟩ :: (Ws ++ (Te ++ Θ)))) := s5
            cases b with
            | false => exact fin l5 (s5.perm List.perm_middle) o4
            | true =>
              refine ⟨ρ5, L5, _, l5, s5, ?_⟩
              simp only [if_true] at o4
              cases ek : evE call ke ρ5 with
              | no => exfalso; rw [ek] at o4; obtain ⟨ys, ρ6, er, _⟩ := o4; cases er
              | ex c fs ρ' => exfalso; rw [ek] at o4; obtain ⟨ys, ρ6, er, _⟩ := o4; cases er
              | ok tk ρk =>
                rw [ek] at o4
                simp only [R.bd_ok] at o4
                intro yk Hk Lk Tk lk rk sk
                refine ⟨ρk, Lk, _, lk, sk, ?_⟩
                cases ee : evE call e ρk with
                | no => exfalso; rw [ee] at o4; obtain ⟨ys, ρ6, er, _⟩ := o4; cases er
                | ex c fs ρ' => exfalso; rw [ee] at o4; obtain ⟨ys, ρ6, er, _⟩ := o4; cases er
                | ok tm2 ρ6 =>
                  rw [ee] at o4
                  simp only [R.bd_ok] at o4
                  intro yv H5 L6 Te6 l6 r6 s6
                  cases ha : tk.dn 0 with
                  | none => exfalso; rw [ha] at o4; obtain ⟨ys, ρ7, er, _⟩ := o4; cases er
                  | some kk =>
                    cases hy : tm2.dn 0 with
                    | none => exfalso; rw [ha, hy] at o4; obtain ⟨ys, ρ7, er, _⟩ := o4; cases er
                    | some y =>
                      rw [ha, hy] at o4
                      simp only [R.bd_ok] at o4
                      by_cases hlen : keyLike kk acc = true ∧ acc.length < lim
                      case neg => exfalso; simp only [hlen, if_false] at o4; obtain ⟨ys, ρ7, er, _⟩ := o4; cases er
                      case pos =>
                        simp only [hlen, and_self, if_true] at o4
                        have s7 : Stt G.K G.w H5 (⟨some (.ref D), .o 0 (.dct acc), fp, z⟩ :: ((Tk ++ Te6) ++ (L6 ++ (Ws ++ (Te ++ Θ))))) := s6.perm (by
                          refine (List.Perm.append_left L6 (perm3 Te6 Tk _)).trans ?_
                          refine (perm3 L6 Tk _).trans ?_
                          refine (List.Perm.append_left Tk (perm3 L6 Te6 _)).trans ?_
                          rw [List.append_assoc Tk Te6]
                          refine (List.Perm.append_left Tk (List.Perm.append_left Te6 List.perm_middle)).trans ?_
                          refine (List.Perm.append_left Tk List.perm_middle).trans ?_
                          exact List.perm_middle)
                        obtain ⟨a0, es, e0, hD0, k0, v0, nd0, rfl⟩ := ownD0 s7
                        cases e0
                        have hm : [tk, tm2].mapM (Tm.dn 0) = some [kk, y] := by simp [List.mapM_cons, ha, hy]
                        obtain ⟨zt, ft, rt, _, _, hold⟩ := hold_all (es := ⟨some (.ref D), .o 0 (.dct acc), [D], z⟩ :: (L6 ++ (Ws ++ (Te ++ Θ)))) (ts := [tk, tm2]) (vs := [yk, yv]) (d := 0) (s7.perm List.perm_middle.symm) ⟨yk, [yv], Tk, Te6, rfl, rfl, rk, yv, [], Te6, [], rfl, (List.append_nil _).symm, r6, rfl, rfl⟩ hm
                        obtain ⟨rfl, rk0, _, erk, hrk, ryv, _, ery, hry, _⟩ := rt.r0
                        cases erk
                        cases ery
                        have hj := hold_join s7 rfl hold
                        have stR : Stt G.K G.w H5 (⟨some (.ref D), .o 0 (.dct acc), [D], z⟩ :: (L6 ++ (Ws ++ (Te ++ Θ)))) := Stt.drop (fs := Tk ++ Te6) (s7.perm List.perm_middle.symm)
                        refine ⟨fun b => z b ∨ zt b, acc, es, kk, hD0, k0.zone fun _ => .inl, nd0, hlen.1, hrk.zone fun _ => .inr, hlen.2, fun u es' ru hes hvs => ?_⟩
                        refine fin l6 (stR.mutD (ks' := dPut acc kk y) hD0 hj (.of0 (R0k_iff.mpr ⟨by rw [put_keys]; exact hes, ?_⟩)) (by rw [put_keys]; exact kPut_nodup nd0)) o4
                        rw [hvs]
                        exact VLs.put (v0.zone fun _ => .inl) ⟨yv, ru, hry.zone fun _ => .inr⟩
end
end Mi

set_option Elab.async false
set_option linter.all false
set_option maxRecDepth 100000
set_option maxHeartbeats 4000000
/-! Dict comprehensions and stores: the forms. -/
namespace Mi
open PySem PySem.Spec PyProof.Rows L2

section
variable {F : Type} {call : F → List Sl → CR} {G : Gc} {W : WX} {X : Cx}
variable {kx vx tg iter : Expr} {ifs : List Expr} {scope : Scope} {own : List (Str × Nat)} {pos : Pos} {ke e it : Ex F} {t : Tg} {cs : List (Ex F)}
theorem f_dc (hu : X.A.units + 64 < cLine) (hG : G.K = X.K ∧ G.w = X.w) (hc : X.calm = true) (hN : X.N.Nodup) (hi : PI X tg iter (iS call G W it)) (ok : BlkOk X.N X.env.scope scope own)
    (hg : ∀ (s : Shared) (H : Hp) (C : Addr) (cl : List (Str × Addr)) (fp : List Addr), PG (X.blk s H scope (compEnvC scope cl C X.env) fp) tg (gT G.K t))
    (ht : ∀ (s : Shared) (H : Hp) (C : Addr) (cl : List (Str × Addr)) (fp : List Addr), L2.PTs (X.blk s H scope (compEnvC scope cl C X.env) fp) ifs (tAnd' call G Wf cs))
    (hk : ∀ (s : Shared) (H : Hp) (C : Addr) (cl : List (Str × Addr)) (fp : List Addr), PE (X.blk s H scope (compEnvC scope cl C X.env) fp) kx (tE G Wf call ke))
    (he : ∀ (s : Shared) (H : Hp) (C : Addr) (cl : List (Str × Addr)) (fp : List Addr), PE (X.blk s H scope (compEnvC scope cl C X.env) fp) vx (tE G Wf call e))
    (hs : ∀ x, foldedSetIterable iter X.env x = pure x) (hsub : ∀ i ∈ t.is, i ∈ own.map (·.2)) : PE X (.DictComp kx vx [⟨tg, iter, ifs, 0⟩] scope pos) (tE G W call (.dc 0 ke e t (own.map (·.2)) it cs)) :=
  ⟨fun pins s σ H Q I q => dcR_core (pos' := pos) hu hc hN I hi ok hg ht hk he hs (by rw [← hG.1, ← hG.2]; exact dc_coreM hsub q)⟩
/-! ### x[k] = v -/
theorem set_dct {σ : L2.St} {H : Hp} {o k x : V} {Q : Hp → Prop} {ks : List (PV × PV)} {tk te : Tm} {fp : List Addr} {z : Addr → Prop} {Te R : List Ent} {p' : PV} (hr : TmsE σ [tk, te] [k, x] Te) (st : Stt G.K G.w H (⟨some o, .o 0 (.dct ks), fp, z⟩ :: (Te ++ R))) (he : putI 0 (.dct ks) tk te = some p')
    (hq : ∀ H' fp' z', Stt G.K G.w H' (⟨some o, .o 0 p', fp', z'⟩ :: R) → Q H') : ∃ D, o = .ref D ∧ TurnD G.K G.w D k x H Q := by
  simp only [putI] at he
  cases ha : tk.dn 0 with
  | none => rw [ha] at he; cases he
  | some kk =>
    cases hy : te.dn 0 with
    | none => rw [ha, hy] at he; cases he
    | some y =>
      rw [ha, hy] at he
      by_cases hl : (keyLike kk ks && decide (ks.length < lim)) = true
      case neg => simp [hl] at he
      case pos =>
        simp only [hl, true_and, and_self, if_true, Option.some.injEq] at he
        subst he
        rw [Bool.and_eq_true, decide_eq_true_eq] at hl
        obtain ⟨D, es, rfl, hD0, k0, v0, nd0, rfl⟩ := ownD0 st
        have hm : [tk, te].mapM (Tm.dn 0) = some [kk, y] := by simp [List.mapM_cons, ha, hy]
        obtain ⟨zt, ft, rt, _, _, hold⟩ := hold_all (es := ⟨some (.ref D), .o 0 (.dct ks), [D], z⟩ :: R) (d := 0) (st.perm List.perm_middle.symm) hr hm
        obtain ⟨rfl, rk0, _, erk, hrk, ryv, _, ery, hry, e5⟩ := rt.r0
        cases erk
        cases ery
        have hj := hold_join st rfl hold
        have stR : Stt G.K G.w H (⟨some (.ref D), .o 0 (.dct ks), [D], z⟩ :: R) := Stt.drop (fs := Te) (st.perm List.perm_middle.symm)
        refine ⟨D, rfl, fun b => z b ∨ zt b, ks, es, kk, hD0, k0.zone fun _ => .inl, nd0, hl.1, hrk.zone fun _ => .inr, hl.2, fun u es' ru hes hvs => ?_⟩
        refine hq _ _ _ (stR.mutD (ks' := dPut ks kk y) hD0 hj (.of0 (R0k_iff.mpr ⟨by rw [put_keys]; exact hes, ?_⟩)) (by rw [put_keys]; exact kPut_nodup nd0))
        rw [hvs]
        exact VLs.put (v0.zone fun _ => .inl) ⟨_, ru, hry.zone fun _ => .inr⟩
end
end Mi

set_option Elab.async false
set_option linter.all false
set_option maxRecDepth 100000
set_option maxHeartbeats 4000000
/-! x[k] = v: the statement. -/
namespace Mi
open PySem PySem.Spec PyProof.Rows L2

section
variable {F : Type} {call : F → List Sl → CR} {G : Gc} {W : WX} {X : Cx} {fx : List (Nat × V)}
/-- a store, by what is held -/
def rSetM (G : Gc) : TSet := fun o k x H Q => ∃ σ, SetPost G σ o k x H Q
theorem putI_top {d : Nat} {p p' : PV} {tk te : Tm} (h : putI d p tk te = some p') : (∃ xs, p = .lst xs) ∨ ∃ ks, p = .dct ks := by
  cases p with
  | lst xs => exact .inl ⟨xs, rfl⟩
  | dct ks => exact .inr ⟨ks, rfl⟩
  | _ => simp only [putI] at h; cases h
theorem putI_dct0 {d : Nat} {ks : List (PV × PV)} {p' : PV} {tk te : Tm} (h : putI d (.dct ks) tk te = some p') : d = 0 := by
  simp only [putI] at h
  split at h
  · split at h
    · rename_i hc; exact hc.1
    · cases h
  · cases h
theorem pset_M (hu : X.A.units + 64 < cLine) (hG : G.K = X.K ∧ G.w = X.w) : PSet X (rSetM G) := by
  intro pins s σ H o k x ov kv xv Q I ro rk rx h
  obtain ⟨σ', d, p, tk, te, fp, z, Te, R, p', hr, st, he, hq⟩ := h
  rcases putI_top he with ⟨xs, rfl⟩ | ⟨ks, rfl⟩
  · exact set_list pins s σ H o k x ov kv xv Q I ro rk rx (set_lst hr st he hq)
  · obtain rfl := putI_dct0 he
    obtain ⟨D, rfl, z', ks', es, kk, h1, h2, nd, hl, r0, hlen, hN⟩ := set_dct hr st he hq
    cases ro
    rw [hG.1, hG.2] at h2 r0 hN
    refine raw_store (f := fun a b => setItem (.ref D) a b) I (fun e hk hd hQ hsz => ?_) (fun hk hd hQ hsz => wpAny_setItem_pairs hk hd hQ hsz) h1 h2 nd hl r0 rk hlen fun s' ⟨es', a1, a2, a3⟩ => ⟨_, a3, hN xv es' rx a1 a2⟩
    subst e
    exact wpAny_setItem_heap (show X.A.units + 1 + 8 < cLine by omega) hk hd hQ hsz
theorem s_setI {i : Nat} {k e : Ex F} {x : Str} {ke v : Expr} {p pos spos : Pos} (hu : X.A.units + 64 < cLine) (hG : G.K = X.K ∧ G.w = X.w) (hN : X.N[i]? = some x) (hl : Vis X.env.scope x) (hd : (x == ("__debug__" : Str)) = false) (hcd : (x == ("__classdict__" : Str)) = false)
    (hk : PE X ke (tE G W call k)) (he : PE X v (tE G W call e))
    (ha : ∀ u, assign (.Subscript (.Name x p) ke pos) X.env u = (do
      let ov ← holding [u] (eval (.Name x p) X.env)
      let iv ← holding [u, ov] (eval ke X.env)
      standAt pos
      holding [u, ov, iv] (setItem ov iv u)
      release [u, ov, iv] []))
    (hs : swapsWithSole [.Subscript (.Name x p) ke pos] v spos.line X.env = pure false) (hw : swappedStores [.Subscript (.Name x p) ke pos] v X.env = pure none) (h1 : (assignEach [.Subscript (.Name x p) ke pos] X.env).map (·.2) = [assign (.Subscript (.Name x p) ke pos) X.env]) :
    PS X (.Assign [.Subscript (.Name x p) ke pos] v spos) (tSm G W fx call (.setI i k e)) :=
  (ps_asg he (pg_sub (pe_var hN hl hd hcd) hk (pset_M hu hG) ha) hs hw h1).imp fun D σ H q => (setI_core q).mono fun xv H1 ⟨o, ho, h⟩ => ⟨o, ho, h.mono fun kv H2 h2 => ⟨σ, h2⟩⟩
end
end Mi

set_option Elab.async false
set_option linter.all false
set_option maxRecDepth 100000
set_option maxHeartbeats 4000000
/-! super().__init__("text") in an own exception's __init__: the statement. -/
namespace Mi
open PySem PySem.Calls PyProof.Rows PySem.W

/-- what the written part says of the class C, whose __init__ stands in the class D -/
structure SupC (K : Frag) (C D : Addr) : Prop where
  cls : ∃ nm q N bs bm sn sub ab col dd k0 k1 k2 k3 k5, K.lookup C = some (excClassObj nm q C N bs bm true sn sub ab col dd k0 k1 k2 k3 k5 "ValueError.__new__") ∧ PySem.HandSPX.refsVE bm = true
  hD : ∃ cd, clsIn K D = some cd
  sub : mroIn K C (.ref D) = some true
  ve : subIn K (.ref C) (.type "ValueError") = some true
  sup : ks_superIn K C D "__init__" = some (some (.builtin "ValueError.__init__"))
  third : nsIn K cStatics "thirdparty.any" = some none
section
variable {prog : Program} {w : World} {A : Around} {E : Value → Shared → Prop} {s : Shared} {K : Frag} {C D : Addr}
theorem notCls_ne {h : Heap} {x : Addr} {ox : Obj} (X : K.In h) {cd : ClassData} (hc : clsIn K C = some cd) (hx : h.get? x = some ox) (hn : ∀ c, ox.data ≠ .cls c) : x ≠ C := by
  rintro rfl
  unfold clsIn at hc
  split at hc
  · rename_i c d cd' sl ho
    have e := X _ _ ho
    rw [hx] at e
    cases e
    exact hn cd' rfl
  · cases hc
/-- the built-in __init__ bound to x, called -/
theorem mw_call {u x t : Addr} {dv : Option Addr} {rest : List Value} {Q : Value → Shared → Prop} (S : SupC K C D) (X : K.In s.heap) (hu : s.heap.get? u = some (kxs_mw "ValueError.__init__" x)) (he : s.heap.get? x = some (excObj C t dv .none)) (hz : rest.length ≤ sizeLine)
    (h : ∀ t' h', (∀ b o, b ≠ x → s.heap.get? b = some o → h'.get? b = some o) → h'.get? x = some (excObj C t' dv .none) → Q .none { s with heap := h' }) :
    wpAny (model prog w) A (call (.ref u) rest) Q E s := by
  obtain ⟨nm, q, N, bs, bm, sn, sub, ab, col, dd, k0, k1, k2, k3, k5, hC0, hbm⟩ := S.cls
  have hC := X _ _ hC0
  obtain ⟨hh, g, d, tk, os⟩ := s
  refine wpAny_call (codeAny_of_tree ?_)
  show wpAny _ A.in1 (callAny (.ref u) ⟨rest, []⟩) _ _ _
  simp only [callAny]
  refine wpAny_bind (wpAny_load hu ?_)
  simp only [kxs_mw, show (Value.type "method-wrapper" == Value.type "method" || Value.type "method-wrapper" == Value.type "builtin_function_or_method" || Value.type "method-wrapper" == Value.type "method-wrapper") = true by decide, if_true]
  refine KFB.if_so (by decide) ?_
  refine wpAny_bind (check_bound_init PySem.F.excBase_ValueError.toExcCallFacts hC he rfl ?_)
  refine wpAny_bind (wpAny_pure (wpAny_pure ?_))
  refine ⟨plainId_quiet PySem.F.excBase_ValueError.init.plain _, codeAny_builtin PySem.F.excBase_ValueError.initEntry ?_⟩
  exact exc_init_tree (cls := .ref C) (t0 := t) (dv := dv) (c2 := .none) (c3 := .none) (b4 := .bool false) he hz fun h' k e' _ => h _ h' k e'
theorem meth_eval {o : Expr} {name : Str} {apos pos p3 : Pos} {env : Env} {m : Str} {j : Nat} (hl : (apos.endLine == pos.line) = true) : eval (.Call (.Attribute o name apos) [.Constant (.str m) j p3] [] pos) env = (do
      let ov ← attributeBase o name env (eval o env)
      standAt apos.atName
      let (f, first) ← holding [ov] (getMethod ov name (L2.plainOf o env))
      callWith pos f first (backTo pos (starEach [.Constant (.str m) j p3] env)) []) := by
  have hf : methodCallForm ([Expr.Constant (.str m) j p3].length + ([] : List Keyword).length) (backTo pos (starEach [.Constant (.str m) j p3] env)) (backToKw pos (keywordEach [] env)) = true := rfl
  rw [arm_eval_Call]
  simp only [L2.mcall_line hf hl]
  rfl
/-- super().__init__("text"); -/
theorem super_stmt {body : List Stmt} {env : Env} {p0 p1 p2 p3 p4 p5 : Pos} {m : Str} {j : Nat} {fI cc cda x t : Addr} {dv : Option Addr} {of : Obj} {fd : FuncData} {ar : Arg} {vs : Array Value} {file : Str} {tf : Tok} {ccl cl : Value} {cdd cld : Option Addr} {ccs csl : Array (Option Value)}
    {mL mg mb : Str → Option Value} {Q : Flow → Shared → Prop}
    (S : SupC K C D) (X : K.In s.heap) (hk : env.scope.kind = .function) (hks : env.kindOf "super" = some .globalImplicit) (hkc : env.kindOf "__class__" = some .free) (hka : env.kindOf ar.arg = some .local)
    (hfu : env.func = some fI) (hf : s.heap.get? fI = some of) (hfd : of.data = .func fd) (hp : (fd.params.posonlyargs ++ fd.params.args).head? = some ar)
    (hco : env.code = .ref cda) (hcode : K.lookup cda = some ⟨ccl, cdd, .fields vs, ccs⟩) (hvs : vs[2]? = some (.str file tf)) (hfile : ((prog.main.file : Str) == file) = true) (htop : (prog.main.scope.names.lookup ("super" : Str)).isSome = false)
    (hcc : env.cells.lookup ("__class__" : Str) = some cc) (hcell : K.lookup cc = some ⟨cl, cld, .cell (some (.ref D)), csl⟩) (hns : s.heap.Ns env.locals mL) (hmL : mL ar.arg = some (.ref x))
    (hg : s.heap.Ns env.globals mg) (hmg : mg "super" = none) (hb : s.heap.Ns env.builtins mb) (hmb : mb "super" = some (.type "super"))
    (hx : s.heap.get? x = some (excObj C t dv .none))
    (hin : interactive env = false) (hl : (p2.endLine == p4.line) = true)
    (h : ∀ t' h' tk, (∀ b o, b ≠ x → s.heap.get? b = some o → h'.get? b = some o) → h'.get? x = some (excObj C t' dv .none) → Q .next { s with heap := h', toks := tk }) :
    PySem.wpAt (model prog w) A (.func body env) (exec (.Expr (.Call (.Attribute (.Call (.Name "super" p0) [] [] p1) "__init__" p2) [.Constant (.str m) j p3] [] p4) p5) env) Q E s := by
  obtain ⟨cd, hD⟩ := S.hD
  obtain ⟨oD, hD1, hD2⟩ : ∃ oD, K.lookup D = some oD ∧ oD.data = .cls cd := by
    unfold clsIn at hD
    split at hD
    · rename_i c d cd' sl ho
      cases hD
      exact ⟨_, ho, rfl⟩
    · cases hD
  have hC : ∃ cdC, clsIn K C = some cdC := by
    have e := S.sup
    unfold ks_superIn at e
    obtain ⟨cdC, a, _⟩ := Option.bind_eq_some_iff.mp e
    exact ⟨cdC, a⟩
  obtain ⟨cdC, hC⟩ := hC
  have hsup := S.sup
  unfold ks_superIn at hsup
  rw [hC, Option.bind_some] at hsup
  refine ks_wpAt_Expr_any ?_ hin
  refine ks_wpAt_MethodCall (pl := L2.plainOf (.Call (.Name "super" p0) [] [] p1) env) ?_ (meth_eval hl)
  refine ks_wpAt_super_base hks hkc rfl hfu hf hfd hp hco (X _ _ hcode) rfl hvs hfile htop ?_
  refine ks_loadName_global hk hks (loadGlobal_builtin hg hmg hb hmb ⟨rfl, ?_⟩)
  refine wpAny_loadName_free hk hkc hcc ⟨_, X _ _ hcell, rfl⟩ ?_
  refine wpAny_loadName_local hk hka hns hmL ?_
  obtain ⟨hh, g, d, tk, os⟩ := s
  refine ks_wpAny_isType_cls (X _ _ hD1) hD2 ⟨rfl, ?_⟩
  refine ks_wpAny_call_super (X _ _ hD1) hD2 hx rfl (fun c e => by cases e) (looks_mroIn X S.sub) (fun h1 e1 k1 => ?_)
  have X1 : K.In h1 := X.keeps k1
  have hx1 := k1 _ _ hx
  have hI : Looks (model prog w) h1 (isInstance (.ref x) (.type "ValueError")) true := (show Looks (model prog w) h1 (typeOf (.ref x)) (.ref C) from (Looks.ld hx1).andThen .now).andThen (looks_subIn X1 S.ve)
  refine kxs_getMethod kxs_ValueError e1 (looks_opaque X1 S.third) (l₀ := cdC.mro) ?_ rfl X1 hsup hI (notCls_ne X hC hx fun c e => by cases e) rfl ?_
  · exact fun A Q E s k q => wpAny_bind ((looks_clsIn X1 hC) A _ E s k (wpAny_pure q))
  · show wpAny _ _ (callWith p4 (.ref h1.objs.size) [] (backTo p4 (starEach [.Constant (.str m) j p3] env)) []) _ _ _
    refine kxs_callWith (i := "ValueError.__init__") (x := x) rfl ?_
    refine Calls.evalArgs_plain ?_
    refine Calls.spliced_cons (wpAny_Constant_str (k := j) (pos := p3) (Calls.spliced_nil ⟨Heap.get?_push_at rfl rfl, ?_⟩))
    refine mw_call (x := x) (dv := dv) S (X1.keeps fun b o e => Heap.get?_push_of_some _ e) (Heap.get?_push_at rfl rfl) (Heap.get?_push_of_some _ hx1) (by simp [sizeLine_eq]) fun t' h' k' e' => ?_
    exact h t' h' _ (fun b o hb ho => k' b o hb (Heap.get?_push_of_some _ (k1 _ _ ho))) e'
end
end Mi

set_option Elab.async false
set_option linter.all false
set_option maxRecDepth 100000
set_option maxHeartbeats 4000000
/-! An own exception's __init__: super().__init__("text"), then its fields. -/
namespace Mi
open PySem PySem.Spec PyProof.Rows L2

/-- such a def's names -/
structure InScope (N ps : List Str) (sc : Scope) : Prop where
  kind : sc.kind = .function
  co : sc.isCoroutine = false
  gen : sc.isGenerator = false
  nd : N.Nodup
  pre : N.take ps.length = ps
  par : ∀ x ∈ ps, sc.names.lookup x = some .local
  nocell : ∀ y ∈ sc.names, y.2 ≠ .cell
  free : ∀ y ∈ sc.names, y.2 = .free → y.1 = "__class__"
  cls : sc.names.lookup ("__class__" : Str) = some .free
  sup : sc.names.lookup ("super" : Str) = some .globalImplicit
def cxI (CX : CXT) (P : Program) (w : World) (K : PySem.W.Frag) (mg : Str → Option Value) (base : Heap) (N : List Str) (qual : Str) (scope : Scope) (f : Addr) (cd : Value) (cc : Addr) (A : Around) (outer : List Env) (s : Shared) (H : Hp) (E : XK) : Cx where
  prog := P
  w := w
  K := K
  mg := mg
  base := base
  A := A.deeper (PySem.W.ksEnv qual scope s.heap.objs.size f cd cc)
  N := N
  s_0 := s
  H_0 := H
  env := PySem.W.ksEnv qual scope s.heap.objs.size f cd cc
  outer := outer
  stack := PySem.W.ksEnv qual scope s.heap.objs.size f cd cc :: outer
  ex := []
  calm := true
  fn := fun x => !(x == ("__class__" : Str))
  pn := []
  xe := fun e s' => wpAny (model P w) (A.deeper (PySem.W.ksEnv qual scope s.heap.objs.size f cd cc)) (leaving (PySem.W.ksEnv qual scope s.heap.objs.size f cd cc) e) (fun _ s'' => CX outer H s E e s'') (fun e' s'' => CX outer H s E e' s'') s'
theorem zip_sub : ∀ (ps : List Str) (us : List Value), ((ps.zip us).map (·.1)).Sublist ps
  | [], _ => by simp
  | _ :: _, [] => by simp
  | p :: ps, u :: us => by
    simp only [List.zip_cons_cons, List.map_cons]
    exact (zip_sub ps us).cons₂ p
theorem rev_lookup : ∀ {ps : List Str} {us : List Value} {i : Nat} {x : Str} {u : Value}, ps.Nodup → ps[i]? = some x → us[i]? = some u → (ps.zip us).reverse.lookup x = some u := by
  intro ps us i x u nd h1 h2
  have m : (x, u) ∈ (ps.zip us).reverse := by
    rw [List.mem_reverse, List.mem_iff_getElem?]
    refine ⟨i, ?_⟩
    rw [List.getElem?_zip_eq_some]
    exact ⟨h1, h2⟩
  have nd2 : (((ps.zip us).reverse).map (·.1)).Nodup := by
    rw [List.map_reverse, List.nodup_iff_pairwise_ne, List.pairwise_reverse]
    have : ((ps.zip us).map (·.1)).Sublist ps := zip_sub ps us
    exact (List.Pairwise.sublist this nd).imp fun h => Ne.symm h
  have key : ∀ l : List (Str × Value), (l.map (·.1)).Nodup → (x, u) ∈ l → l.lookup x = some u := by
    intro l
    induction l with
    | nil => intro _ m; cases m
    | cons q l ih =>
      intro nd m
      rw [List.map_cons, List.nodup_cons] at nd
      rcases List.mem_cons.mp m with rfl | m
      · simp [List.lookup_cons]
      · have ne : ¬ x = q.1 := fun e => nd.1 (e ▸ List.mem_map.mpr ⟨_, m, rfl⟩)
        rw [List.lookup_cons]
        have : (x == q.1) = false := by simpa using ne
        rw [this]
        exact ih nd.2 m
  exact key _ nd2 m
theorem inv_startI {CX : CXT} {P : Program} {w : World} {K : PySem.W.Frag} {mg : Str → Option Value} {base : Heap} {N ps : List Str} {qual : Str} {scope : Scope} {f cc D : Addr} {cd : Value} {A : Around} {outer : List Env} {s : Shared} {h1 : Heap} {tk : Nat} {H : Hp} {E : XK} {us : List Value} {vs : List V}
    {cl : Value} {cld : Option Addr} {csl : Array (Option Value)} (hcell : K.lookup cc = some ⟨cl, cld, .cell (some (.ref D)), csl⟩)
    (S : InScope N ps scope) (hd : A.handled = none) (e0 : Env0 P w K mg base A outer s H) (hl : vs.length = ps.length) (r : Vals vs us)
    (hns : h1.Ns s.heap.objs.size (fun x => (ps.zip us).reverse.lookup x)) (hk : ∀ b o, s.heap.get? b = some o → h1.get? b = some o) :
    Inv (cxI CX P w K mg base N qual scope f cd cc A outer s H E) [] (L2.start N vs) H { s with heap := h1, toks := tk } := by
  have KX : K.In s.heap := e0.mod.kin.keeps fun b o e => (e0.bs b o e).1
  have hcc0 : ∃ o, base.get? cc = some o ∧ o.data = .cell (some (.ref D)) := ⟨_, e0.mod.kin _ _ hcell, rfl⟩
  obtain ⟨oc, hcb, hcd⟩ := hcc0
  have hcs : s.heap.get? cc = some oc := (e0.bs _ _ hcb).1
  have hpl : ps.length ≤ N.length := by have := congrArg List.length S.pre; rw [List.length_take] at this; omega
  have cl1 : ∀ y c, (PySem.W.ksEnv qual scope s.heap.objs.size f cd cc).cells.lookup y = some c → c = cc ∧ y = ("__class__" : Str) := fun y c h => by
    have h : ([(("__class__" : Str), cc)] : List (Str × Addr)).lookup y = some c := h
    rw [List.lookup_cons] at h
    split at h
    · rename_i e
      cases h
      exact ⟨rfl, eq_of_beq e⟩
    · cases h
  refine ⟨⟨e0.mod, S.kind, rfl, rfl, Nat.le_refl _, fun y z c h1 h2 => ?_, fun y hy => ?_, fun y c hf h => ?_, fun _ => hd, Around.frames_deeper e0.frames, .inr ⟨rfl, rfl⟩, fun b z => absurd (show b ∈ ([] : List Addr) from z) (by simp), e0.bs, e0.bsz, fun b _ _ z => absurd (show b ∈ ([] : List Addr) from z) (by simp), fun b z => absurd (show b ∈ ([] : List Addr) from z) (by simp), e0.funs, e0.frf⟩,
    rfl, e0.bare, Un.kept hk, ⟨_, hns, fun i y v h1 h2 h3 => ?_⟩, fun y c h => ?_, e0.hok.fresh (Nat.le_refl _), fun y c h => ?_, fun p hp => absurd (show p ∈ ([] : List (Addr × Obj)) from hp) (by simp), e0.hok.kept hk, ?_⟩
  · rw [(cl1 y c h1).2, (cl1 z c h2).2]
  · have hy : scope.names.lookup y = some .cell ∨ scope.names.lookup y = some .free := hy
    rcases hy with hy | hy
    · exact absurd rfl (S.nocell _ (PySem.mem_of_lookup hy))
    · have e : y = "__class__" := S.free _ (PySem.mem_of_lookup hy) rfl
      subst e
      exact ⟨cc, by show ([(("__class__" : Str), cc)] : List (Str × Addr)).lookup _ = _; simp [List.lookup_cons]⟩
  · have e := (cl1 y c h).2
    subst e
    simp [cxI] at hf
  · have hi : i < vs.length := by
      unfold L2.start at h2
      by_cases hi : i < vs.length
      · exact hi
      · rw [List.getElem?_append_right (by simpa using hi)] at h2
        rw [List.getElem?_replicate] at h2
        split at h2 <;> cases h2
    have ha : vs[i]? = some v := by
      unfold L2.start at h2
      rw [List.getElem?_append_left (by simpa using hi), List.getElem?_map] at h2
      cases e : vs[i]? with
      | none => rw [e] at h2; cases h2
      | some a => rw [e] at h2; cases h2; rfl
    obtain ⟨u, hu, rv⟩ := r.get ha
    have hp : ps[i]? = some y := by
      rw [← S.pre, List.getElem?_take_of_lt (by omega)]; exact h1
    have ndP : ps.Nodup := by rw [← S.pre]; exact S.nd.sublist (List.take_sublist _ _)
    exact ⟨u, rv, .inl ⟨S.par y (List.mem_of_getElem? hp), rev_lookup ndP hp hu⟩⟩
  · rw [(cl1 y c h).1]
    exact ⟨some (.ref D), _, hk _ _ hcs, hcd⟩
  · rw [(cl1 y c h).1]
    exact (e0.bs _ _ hcb).2
  · unfold L2.start
    show _ = N.length
    rw [List.length_append, List.length_map, List.length_replicate]
    omega
end Mi

set_option Elab.async false
set_option linter.all false
set_option maxRecDepth 100000
set_option maxHeartbeats 4000000
/-! An own exception's __init__ as a def. -/
namespace Mi
open PySem PySem.Spec PyProof.Rows L2

/-- what the written part says of such a def -/
structure SupF (P : Program) (K : PySem.W.Frag) (f : Addr) (fd : FuncData) (name qual : Str) (params : Arguments) (body : List Stmt) (scope : Scope) (cda cc D : Addr) : Prop where
  ex : ∃ (dV kV doc pm ct oc : Value) (an od : Option Addr) (osl : Array (Option Value)), fd = PySem.W.ksFn name qual params body scope dV kV doc pm an (.ref cda) ct cc ∧ K.lookup f = some ⟨oc, od, .func fd, osl⟩
  hcd : PySem.W.codeIn K (.ref cda) qual = true
  code : ∃ (ccl : Value) (cdd : Option Addr) (vs : Array Value) (ccs : Array (Option Value)) (file : Str) (tf : Tok), K.lookup cda = some ⟨ccl, cdd, .fields vs, ccs⟩ ∧ vs[2]? = some (.str file tf) ∧ ((P.main.file : Str) == file) = true
  cell : ∃ (cl : Value) (cld : Option Addr) (csl : Array (Option Value)), K.lookup cc = some ⟨cl, cld, .cell (some (.ref D)), csl⟩
  top : (P.main.scope.names.lookup ("super" : Str)).isSome = false
/-- what it promises, its other statements reading t -/
def spI (K : PySem.W.Frag) (D : Addr) (N ps : List Str) (t : TS) : Sp := fun vs H Q E => ∃ (a C : Addr) (ws : List V), vs = .ref a :: ws ∧ vs.length = ps.length ∧ SupC K C D ∧ H a = some (exo a C none) ∧ t { nx := fun _ H' => Q .non H', rt := Q } (L2.start N vs) H
theorem init_ok {CX : CXT} {P : Program} {w : World} {K : PySem.W.Frag} {mg : Str → Option Value} {base : Heap} {k : Nat} {f cda cc D : Addr} {name qual : Str} {params : Arguments} {rest : List Stmt} {scope : Scope} {fd : FuncData} {N ps : List Str} {t : TS} {ar : Arg}
    {p0 p1 p2 p3 p4 p5 : Pos} {m : Str} {j : Nat}
    (SF : SupF P K f fd name qual params (.Expr (.Call (.Attribute (.Call (.Name "super" p0) [] [] p1) "__init__" p2) [.Constant (.str m) j p3] [] p4) p5 :: rest) scope cda cc D) (S : InScope N ps scope)
    (hpa : (params.posonlyargs ++ params.args).head? = some ar) (hps : ps[0]? = some ar.arg) (hl : (p2.endLine == p4.line) = true) (hsup : mg "super" = none)
    (hrest : ∀ (A : Around) (outer : List Env) (s : Shared) (H : Hp) (E : XK), PSs (cxI CX P w K mg base N qual scope f (.ref cda) cc A outer s H E) rest t) :
    FnOk P w K mg base CX (k + 1) f fd ps (spI K D N ps t) := by
  refine ⟨fun vs H Q E ⟨_, _, _, _, h, _⟩ => h, fun A outer s H args us vs Q E hr e0 hb r hsp => ?_⟩
  obtain ⟨a, C, ws, rfl, hlen, SC, ea, hq⟩ := hsp
  obtain ⟨dV, kV, doc, pm, ct, oc, an, od, osl, rfl, lk⟩ := SF.ex
  obtain ⟨ccl, cdd, vf, ccs, file, tf, c1, c2, c3⟩ := SF.code
  obtain ⟨cl, cld, csl, hcell⟩ := SF.cell
  have KX : K.In s.heap := e0.mod.kin.keeps fun b o e => (e0.bs b o e).1
  have lim : s.heap.NoLimit := e0.mod.nolimit.keeps fun b o e => (e0.bs b o e).1
  refine ks_codeAny_call_defAt hr.depth (KX _ _ lk) rfl lim (PySem.W.codeRec_of KX SF.hcd) rfl hb (fun y hy => S.nocell y hy) (fun y hy => ?_) (fun h1 hns hk => ?_) S.co S.gen S.kind
  · obtain ⟨n, v⟩ := y
    exact S.par n (List.of_mem_zip hy).1
  · have I := inv_startI (CX := CX) (w := w) (E := E) (qual := qual) (f := f) (cd := .ref cda) (tk := s.toks + (ps.zip us).length) hcell S hr.hd e0 hlen r hns hk
    obtain ⟨t1, ho⟩ := exo_at I.hok ea
    have hu0 : us[0]? = some (.ref a) := by
      cases r with
      | cons r1 r2 =>
        have : _ = Value.ref a := r1
        simp [this]
    have ndP : ps.Nodup := by rw [← S.pre]; exact S.nd.sublist (List.take_sublist _ _)
    obtain ⟨mb, hmb, hbb⟩ := e0.mod.blt
    refine ks_wpAt_execs_cons ?_
    refine super_stmt (A := A.deeper (PySem.W.ksEnv qual scope s.heap.objs.size f (.ref cda) cc)) SC I.kIn S.kind S.sup S.cls (S.par _ (List.mem_of_getElem? hps)) rfl (I.kIn _ _ lk) rfl hpa rfl c1 c2 c3 SF.top (cc := cc) ?_ hcell hns (rev_lookup ndP hps hu0)
      (mg := mg) (I.mod.glob.keeps I.bk) hsup (mb := mb) (hmb.keeps I.bk) ?_ ho I.quiet hl ?_
    · show ([(("__class__" : Str), cc)] : List (Str × Addr)).lookup _ = _
      simp [List.lookup_cons]
    · rw [hbb _ (by decide)]; decide +kernel
    · intro t' h' tk k' hx'
      have J := I.write (t' := tk) (x := a) (e := a) (o := exo a C none) (by rw [ea]; exact True.intro) (.inl rfl) k' ⟨_, hx'⟩ (exo_ok hx')
      have eu : upd H a (exo a C none) = H := by
        funext b
        by_cases hb : b = a
        · rw [hb, upd_same, ea]
        · rw [upd_ne hb]
      rw [eu] at J
      refine wpAt_of_wpAny (wpAny_mono ((hrest A outer s H E).run [] _ (L2.start N (.ref a :: ws)) H _ J hq) (fun fl s' hs => ?_) fun e s' hs => hs)
      have fin : ∀ {σ' : L2.St} {H' : Hp} {v : V} {u : Value}, Inv (cxI CX P w K mg base N qual scope f (.ref cda) cc A outer s H E) [] σ' H' s' → RelV v u → Q v H' → CE outer P w H s Q u s' :=
        fun {σ' H' v u} J rv q => ⟨v, H', J.os, J.bare, J.base, J.hok, rv, q⟩
      cases fl with
      | ret u =>
        obtain ⟨v, σ', H', J, rv, q⟩ := hs
        exact fin J rv q
      | next =>
        obtain ⟨σ', H', J, q⟩ := hs
        exact fin (v := V.non) (u := Value.none) J rfl q
      | brk =>
        obtain ⟨_, _, _, q⟩ := hs
        exact False.elim q
      | cont =>
        obtain ⟨_, _, _, q⟩ := hs
        exact False.elim q
end Mi

set_option Elab.async false
set_option linter.all false
set_option maxRecDepth 100000
set_option maxHeartbeats 4000000
/-! An own exception's fields set by its __init__; raise. -/
namespace Mi
open PySem PySem.Spec PyProof.Rows L2

/-- self.f = f, one after the other -/
def mRest (sc : Scope) : List Str → List Stmt → Bool
  | [], [] => true
  | f :: fs, st :: as => (match st with
    | .Assign [.Attribute (.Name x _) g _] (.Name y _) _ => decide (x = "self") && decide (g = f) && decide (y = f)
    | _ => false) && mRest sc fs as
  | _, _ => false
def tRest (K : PySem.W.Frag) : Nat → List Str → TS
  | _, [] => tNext
  | j, f :: fs => tSeq (tOst K f (tVar 0) (tVar j)) (tRest K (j + 1) fs)
theorem mRest_ok {X : Cx} {sc : Scope} (hs : X.env.scope = sc) (h0 : X.N[0]? = some ("self" : Str)) (hv : sc.names.lookup ("self" : Str) = some .local) : ∀ {fs : List Str} {j : Nat} {as : List Stmt}, (∀ i f, fs[i]? = some f → X.N[j + i]? = some f) →
    (∀ f ∈ fs, sc.names.lookup f = some .local ∧ (f == ("__debug__" : Str)) = false ∧ (f == ("__classdict__" : Str)) = false) → mRest sc fs as = true → PSs X as (tRest X.K j fs)
  | [], j, [], _, _, _ => pss_nil
  | [], _, _ :: _, _, _, h => by simp [mRest] at h
  | _ :: _, _, [], _, _, h => by simp [mRest] at h
  | f :: fs, j, st :: as, hN, hf, h => by
    simp only [mRest, Bool.and_eq_true] at h
    obtain ⟨h1, h2⟩ := h
    split at h1
    · rename_i x p1 g p2 y p3 p4
      simp only [Bool.and_eq_true, decide_eq_true_eq] at h1
      obtain ⟨⟨rfl, rfl⟩, rfl⟩ := h1
      obtain ⟨a1, a2, a3⟩ := hf y List.mem_cons_self
      refine pss_cons (ps_ost (pe_var h0 (.inl (by rw [hs]; exact hv)) (by decide) (by decide)) (pe_var (by have := hN 0 y rfl; simpa using this) (.inl (by rw [hs]; exact a1)) a2 a3) rfl) ?_
      exact mRest_ok hs h0 hv (fun i f e => by have := hN (i + 1) f (by simpa using e); rw [show j + 1 + i = j + (i + 1) by omega]; exact this) (fun f m => hf f (List.mem_cons_of_mem _ m)) h2
    · cases h1
section
variable {K : PySem.W.Frag} {D : Ends} {σ : L2.St} {a C dx : Addr}
theorem upd_upd {H : Hp} {x : Addr} {o o' : HO} : upd (upd H x o) x o' = upd H x o' := by
  funext b
  by_cases hb : b = x
  · rw [hb, upd_same, upd_same]
  · rw [upd_ne hb, upd_ne hb, upd_ne hb]
theorem tRest_old (T : OexC K C) (h0 : σ[0]? = some (some (.ref a))) (hne : dx ≠ a) : ∀ {fs : List Str} {ws : List V} {j : Nat} {H : Hp} {acc : List (Str × V)}, ws.length = fs.length → (∀ i v, ws[i]? = some v → σ[j + i]? = some (some v)) →
    (∀ f ∈ fs, PySem.W.findIn K (.ref C) f = some none) → acc.length + fs.length ≤ 900 → H a = some (exo a C (some dx)) → H dx = some (exd dx acc) →
    (∀ H', H' a = some (exo a C (some dx)) → H' dx = some (exd dx ((fs.zip ws).reverse ++ acc)) → (∀ b, b ≠ dx → H' b = H b) → D.nx σ H') → tRest K j fs D σ H
  | [], [], j, H, acc, _, _, _, _, ea, ed, q => q H ea ed fun _ _ => rfl
  | [], _ :: _, _, _, _, h, _, _, _, _, _, _ => by simp at h
  | _ :: _, [], _, _, _, h, _, _, _, _, _, _ => by simp at h
  | f :: fs, w :: ws, j, H, acc, hl, hw, hno, hz, ea, ed, q => by
    refine ⟨w, by have := hw 0 w rfl; simpa using this, .ref a, h0, a, C, rfl, T, hno f List.mem_cons_self, .inr ⟨dx, acc, ea, ed, by simp at hz; omega, ?_⟩⟩
    refine tRest_old (ws := ws) (acc := (f, w) :: acc) T h0 hne (by simpa using hl) (fun i v e => by have := hw (i + 1) v (by simpa using e); rw [show j + 1 + i = j + (i + 1) by omega]; exact this) (fun g m => hno g (List.mem_cons_of_mem _ m)) (by simp at hz ⊢; omega) (by rw [upd_ne (Ne.symm hne)]; exact ea) (by rw [upd_same]) fun H' e1 e2 e3 => ?_
    exact q H' e1 (by rw [e2]; simp) fun b hb => by rw [e3 b hb, upd_ne hb]
theorem tRest_new (T : OexC K C) (h0 : σ[0]? = some (some (.ref a))) {f : Str} {fs : List Str} {w : V} {ws : List V} {j : Nat} {H : Hp} (hl : ws.length = fs.length) (hw : ∀ i v, (w :: ws)[i]? = some v → σ[j + i]? = some (some v))
    (hno : ∀ g ∈ f :: fs, PySem.W.findIn K (.ref C) g = some none) (hz : fs.length ≤ 800) (ea : H a = some (exo a C none))
    (q : ∀ dx H', H dx = none → dx ≠ a → H' a = some (exo a C (some dx)) → H' dx = some (exd dx (((f :: fs).zip (w :: ws)).reverse)) → (∀ b, b ≠ a → b ≠ dx → H' b = H b) → D.nx σ H') : tRest K j (f :: fs) D σ H := by
  refine ⟨w, by have := hw 0 w rfl; simpa using this, .ref a, h0, a, C, rfl, T, hno f List.mem_cons_self, .inl ⟨ea, fun dx hn hne => ?_⟩⟩
  refine tRest_old (ws := ws) (acc := [(f, w)]) T h0 hne hl (fun i v e => by have := hw (i + 1) v (by simpa using e); rw [show j + 1 + i = j + (i + 1) by omega]; exact this) (fun g m => hno g (List.mem_cons_of_mem _ m)) (by simp; omega) (by rw [upd_same]) (by rw [upd_ne hne, upd_same]) fun H' e1 e2 e3 => ?_
  refine q dx H' hn hne e1 (by rw [e2]; simp) fun b hb hb2 => by rw [e3 b hb2, upd_ne hb, upd_ne hb2]
end
/-- what such an __init__ promises -/
def spX (C : Addr) (flds : List Str) : Sp := fun vs H Q E => ∃ (a : Addr) (ws : List V), vs = .ref a :: ws ∧ ws.length = flds.length ∧ H a = some (exo a C none) ∧
  ∀ dx H', H dx = none → dx ≠ a → H' a = some (exo a C (some dx)) → H' dx = some (exd dx (flds.zip ws).reverse) → (∀ b, b ≠ a → b ≠ dx → H' b = H b) → Q .non H'
theorem FnOk.weak {P : Program} {w : World} {K : PySem.W.Frag} {mg : Str → Option Value} {base : Heap} {CX : CXT} {k : Nat} {f : Addr} {fd : FuncData} {ps : List Str} {sp sp' : Sp} (F : FnOk P w K mg base CX k f fd ps sp) (i : ∀ vs H Q E, sp' vs H Q E → sp vs H Q E) : FnOk P w K mg base CX k f fd ps sp' :=
  ⟨fun vs H Q E h => F.len vs H Q E (i _ _ _ _ h), fun A outer s H args us vs Q E hr he hb hv hs => F.run A outer s H args us vs Q E hr he hb hv (i _ _ _ _ hs)⟩
theorem exc_init {CX : CXT} {P : Program} {w : World} {K : PySem.W.Frag} {mg : Str → Option Value} {base : Heap} {k : Nat} {f cda cc C : Addr} {name qual : Str} {params : Arguments} {rest : List Stmt} {scope : Scope} {fd : FuncData} {flds : List Str} {ar : Arg}
    {p0 p1 p2 p3 p4 p5 : Pos} {m : Str} {j : Nat}
    (SF : SupF P K f fd name qual params (.Expr (.Call (.Attribute (.Call (.Name "super" p0) [] [] p1) "__init__" p2) [.Constant (.str m) j p3] [] p4) p5 :: rest) scope cda cc C) (S : InScope ("self" :: flds) ("self" :: flds) scope)
    (hpa : (params.posonlyargs ++ params.args).head? = some ar) (har : ar.arg = "self") (hl : (p2.endLine == p4.line) = true) (hsup : mg "super" = none) (SC : SupC K C C) (T : OexC K C) (hno : ∀ g ∈ flds, PySem.W.findIn K (.ref C) g = some none) (hne : flds ≠ [])
    (hz : flds.length ≤ 800) (hd : ∀ f ∈ flds, (f == ("__debug__" : Str)) = false ∧ (f == ("__classdict__" : Str)) = false) (hm : mRest scope flds rest = true) : FnOk P w K mg base CX (k + 1) f fd ("self" :: flds) (spX C flds) := by
  refine FnOk.weak (init_ok (N := "self" :: flds) (t := tRest K 1 flds) SF S hpa (by rw [har] <;> rfl) hl hsup fun A outer s H E => ?_) fun vs H Q E h => ?_
  · exact mRest_ok (X := cxI CX P w K mg base ("self" :: flds) qual scope f (.ref cda) cc A outer s H E) rfl rfl (S.par ("self" : Str) List.mem_cons_self) (fun i g e => by show ((("self" : Str) :: flds))[1 + i]? = some g; rw [Nat.add_comm]; simpa using e) (fun g hg => ⟨S.par g (List.mem_cons_of_mem _ hg), hd g hg⟩) hm
  · obtain ⟨a, ws, rfl, h1, h2, h3⟩ := h
    refine ⟨a, C, ws, rfl, by simp [h1], SC, h2, ?_⟩
    cases flds with
    | nil => exact absurd rfl hne
    | cons g gs => cases ws with
      | nil => simp at h1
      | cons v ws =>
        refine tRest_new (a := a) (w := v) (ws := ws) T (by simp [L2.start]) (by simpa using h1) (fun i v' e => ?_) hno (by simp at hz ⊢; omega) h2 fun dx H' a1 a2 a3 a4 a5 => h3 dx H' a1 a2 a3 a4 a5
        unfold L2.start
        rw [List.getElem?_append_left (by
          have := (List.getElem?_eq_some_iff.mp e).1
          simp at this ⊢; omega), List.getElem?_map, Nat.add_comm, List.getElem?_cons_succ, e]
        rfl
end Mi

set_option Elab.async false
set_option linter.all false
set_option maxRecDepth 100000
set_option maxHeartbeats 4000000
/-! raise C(e, ..). -/
namespace Mi
open PySem PySem.Spec PyProof.Rows L2

/-- an own exception class at hand -/
structure ErrC (ca : Str → Addr) (P : Program) (w : World) (K : PySem.W.Frag) (mg : Str → Option Value) (base : Heap) (c : Str) (flds : List Str) : Prop where
  gl : mg c = some (.ref (ca c))
  kC : PySem.W.keepIn K (.ref (ca c)) = true
  exC : PySem.W.subIn K (.ref (ca c)) (.type "BaseException") = some true
  tyC : PySem.W.typeIn K (.ref (ca c)) = some (.type "type")
  zero : flds = [] → PySem.W.excIn K (ca c) He.veBase "ValueError.__new__" = true
  more : flds ≠ [] → OexC K (ca c) ∧ ∃ fI fd, PySem.W.findIn K (.ref (ca c)) "__init__" = some (some (.ref fI)) ∧ PySem.W.typeIn K (.ref fI) = some (.type "function") ∧
    FnOk P w K mg base (L2.CX P w) 1 fI fd ("self" :: flds) (spX (ca c) flds) ∧ Binds K fd ("self" :: flds) []
abbrev ErrX (G : Gc) (X : Cx) : Str → List Str → Prop := ErrC G.ca X.prog X.w X.K X.mg X.base
section
variable {X : Cx} {C : Addr} {bmB : List Value} {B newId initId : String}
/-- X() -/
theorem pmk_own0 {x : Str} {p pos : Pos} (F : ExcBaseFacts B newId initId bmB) (q : PySem.W.excIn X.K C bmB newId = true) (gC : X.mg x = some (.ref C)) (kC : PySem.W.keepIn X.K (.ref C) = true) (r : Raises X (.ref C)) (hg : Gl X x)
    (hdb : (x == ("__debug__" : Str)) = false := by decide) : PMk X (.Call (.Name x p) [] [] pos) (fun _ H Q => Q (.ref C) none H) := by
  intro pins s σ H Q I h
  refine wpAny_Call_Name_kw (ld_glob I hg gC ?_ hdb)
  refine PySem.W.callWith_K0 I.kIn kC ?_
  show wpAny _ _ (call (.ref C) []) _ _ _
  obtain ⟨bm, N, nm, qn, bs, hdct, sn, sub, ab, col, dd, k0, k1, k2, k3, k5, mN, hC, hN, hni, T⟩ := exc_obj I.kIn q
  refine wpAny_call_exc_subT F T hC hN hni (fun h' e hm => ?_) (by show 0 ≤ sizeLine; omega)
  exact mk_of I hm r h (I.hok.gone hm.new)
end
theorem FEs.app : ∀ {fs gs : List (Str × PV)} {us vs : List (Str × V)} {es fs' : List Ent}, FEs fs us es → FEs gs vs fs' → FEs (fs ++ gs) (us ++ vs) (es ++ fs')
  | [], _, _, _, _, _, h, h2 => by obtain ⟨rfl, rfl⟩ := h; exact h2
  | (f, p) :: fs, _, _, _, _, _, h, h2 => by
    obtain ⟨v, us', z, es', rfl, rfl, h⟩ := h
    exact ⟨v, _, z, _, rfl, rfl, h.app h2⟩
section
variable {K : PySem.W.Frag} {w : World} {H : Hp} {z : Addr → Prop}
/-- fields, as an exception's -/
theorem fes_of : ∀ {names : List Str} {ps : List PV} {vs : List V} {es : List Ent}, names.length = ps.length → R0s K w H z ps vs → (∀ a, z a → ∃ o, H a = some o) → (∀ e ∈ es, e.s.excl = true → ∀ a ∈ e.fp, ¬ z a) → Stt K w H es →
    ∃ Fe, FEs (names.zip ps).reverse (names.zip vs).reverse Fe ∧ Stt K w H (Fe ++ es) ∧ (∀ e ∈ Fe, e.fp = [])
  | [], [], _, es, _, r, _, _, st => by
    obtain rfl := (show _ = [] from r)
    exact ⟨[], ⟨rfl, rfl⟩, st, fun e m => by cases m⟩
  | [], _ :: _, _, _, h, _, _, _, _ => by simp at h
  | _ :: _, [], _, _, h, _, _, _, _ => by simp at h
  | n :: ns, p :: ps, _, es, hl, r, dm, ex, st => by
    obtain ⟨v, vs', rfl, r1, r2⟩ := r
    have st1 : Stt K w H (⟨some v, .v p, [], z⟩ :: es) := st.addV r1 dm fun e m q a ha => ex e m q a ha
    obtain ⟨Fe, f1, f2, f3⟩ := fes_of (es := ⟨some v, .v p, [], z⟩ :: es) (by simpa using hl) r2 dm (fun e m q a ha => by
      rcases List.mem_cons.mp m with rfl | m
      · cases ha
      · exact ex e m q a ha) st1
    refine ⟨Fe ++ [⟨some v, .v p, [], z⟩], ?_, by simpa using f2, fun e m => ?_⟩
    · simp only [List.zip_cons_cons, List.reverse_cons]
      exact f1.app ⟨v, [], z, [], rfl, rfl, rfl, rfl⟩
    · rcases List.mem_append.mp m with m | m
      · exact f3 e m
      · obtain rfl := List.mem_singleton.mp m; rfl
end
section
variable {F : Type} {call : F → List Sl → CR} {G : Gc} {W : WX} {fx : List (Nat × V)} {X : Cx}
theorem s_raise {c : Str} {names : List Str} {es : List (Ex F)} {as : List Expr} {p pos pos' : Pos} (hc : X.calm = true) (tk : Takes X W) (hr : Room 2 X.A) (hG : G.K = X.K ∧ G.w = X.w) (E : ErrX G X c names) (hn : names ≠ []) (hg : Gl X c) (hdb : (c == ("__debug__" : Str)) = false)
    (ha : PA X as (tEs G W call es)) (hst : ∀ a ∈ as, isStar a = false) (hne : as ≠ []) (hz : names.length ≤ 800) : PS X (.Raise (some (.Call (.Name c p) as [] pos)) none pos') (tSm G W fx call (.raise c names es)) := by
  obtain ⟨T, fI, fd, e1, e2, F1, hb⟩ := E.more hn
  cases as with
  | nil => exact absurd rfl hne
  | cons a as =>
  have hx : Passes (L2.CX X.prog X.w) X (fun _ _ _ => False) := passes_call tk fun _ _ _ _ h => h.elim
  have mk := pmk_oex (p := p) (pos := pos) (dvs := []) T e1 e2 F1 hr hb .nil hx hg E.gl ha hdb (star_cons (hst _ List.mem_cons_self)) (star_none fun b hb => hst b (List.mem_cons_of_mem _ hb))
  refine (ps_raise hc tk mk).imp fun D σ H q => ?_
  have q' : tS G W fx (fun ρ => (evEs call es ρ).bd fun ts ρ1 => (match ts.mapM (Tm.dn 0) with
    | some ps => if ps.length = names.length then .ex c (names.zip ps).reverse ρ1 else .no
    | none => .no)) D σ H := tS_eq (fun ρ => by simp only [evS] <;> rfl) q
  refine (tS_R (rel := TmsE) q').mono fun vs H1 ⟨ts, ρ1, L, Θ, Te, l, fxx, r, st, o⟩ => ?_
  cases hm : ts.mapM (Tm.dn 0) with
  | none => rw [hm] at o; exact o.elim
  | some ps =>
    rw [hm] at o
    by_cases hl : ps.length = names.length
    · simp only [hl, if_true] at o
      obtain ⟨z, f, ro, _, _, hold⟩ := hold_all (st.perm (perm3 L Te Θ)) r hm
      obtain ⟨rfl, r0⟩ := ROs.r0 ro
      have hvl : vs.length = ps.length := ROs.len ro
      have st1 : Stt G.K G.w H1 (L ++ Θ) := (st.perm (perm3 L Te Θ)).drop
      obtain ⟨Fe, f1, f2, f3⟩ := fes_of hl.symm r0 hold.dom hold.ex st1
      refine ⟨by simp only [hvl, hl]; omega, fun x hx1 => ?_⟩
      refine ⟨x, vs, by simp, by rw [hvl, hl], upd_same, fun dx H' n1 n2 n3 n4 n5 => ?_⟩
      refine ⟨rfl, dx, _, n3, n4, by rw [upd_ne n2] at n1; exact n1, ?_⟩
      have eH : upd (del H' x) dx (.xd (names.zip vs).reverse) = upd H1 dx (.xd (names.zip vs).reverse) := by
        funext b
        by_cases h1 : b = dx
        · rw [h1, upd_same, upd_same]
        · rw [upd_ne h1, upd_ne h1]
          by_cases h2 : b = x
          · rw [h2, del_same, hx1]
          · rw [del_ne h2, n5 b h2 h1, upd_ne h2]
      rw [eH]
      have n1' : H1 dx = none := by rw [upd_ne n2] at n1; exact n1
      refine o σ fxx (some dx) _ L Fe l (.inr ⟨?_, dx, _, rfl, upd_same, f1⟩) ((f2.ext (Kp.fresh n1')).perm ?_)
      · intro e
        cases names with
        | nil => exact hn rfl
        | cons n ns => cases ps with
          | nil => simp at hl
          | cons p ps => simp at e
      · rw [← List.append_assoc, ← List.append_assoc]
        exact List.perm_append_comm.append_right Θ
    · simp only [hl, if_false] at o; exact o.elim
theorem s_raise0 {c : Str} {p pos pos' : Pos} (hc : X.calm = true) (tk : Takes X W) (hG : G.K = X.K ∧ G.w = X.w) (E : ErrX G X c []) (hg : Gl X c) (hdb : (c == ("__debug__" : Str)) = false) : PS X (.Raise (some (.Call (.Name c p) [] [] pos)) none pos') (tSm G W fx call (.raise c [] [])) := by
  have mk := pmk_own0 (p := p) (pos := pos) PySem.F.excBase_ValueError (E.zero rfl) E.gl E.kC (raises_own E.exC E.tyC) hg hdb
  refine (ps_raise hc tk mk).imp fun D σ H q => ?_
  obtain ⟨ρ, L, Θ, l, fxx, st, o⟩ := q
  simp only [evS, evEs, R.bd_ok, List.mapM_nil, Option.pure_def, List.length_nil, if_true, List.zip_nil_right, List.reverse_nil] at o
  exact o σ fxx none H L [] l (.inl ⟨rfl, rfl, rfl⟩) (by simpa using st)
end
end Mi

set_option Elab.async false
set_option linter.all false
set_option maxRecDepth 100000
set_option maxHeartbeats 4000000
/-! isinstance of a caught exception that has fields. -/
namespace Mi
open PySem PySem.Spec PySem.Calls PySem.W PyProof.Rows
section
variable {prog : Program} {w : World} {A : Around} {E : Value → Shared → Prop} {s : Shared} {K : Frag} {x C : Addr} {ox : Obj} {o1 : Option Obj}
/-- an instance asked for its class -/
theorem ask_class {Q : Option Value → Shared → Prop} (T : L2.ExcC K C) (X : K.In s.heap) (I : W.InstAt s.heap x ox C o1) (h : Q (some (.ref C)) { s with toks := s.toks + 1 }) : wpAny (model prog w) A (getAttr? (.ref x) "__class__") Q E s := by
  obtain ⟨hga, hgt, hsub, hdct, ha, hn, htk, hm⟩ := T
  have hf : findObj K C o1 "__class__" = some (.bind (.builtin "getset_descriptor.__get__") (.builtin "object.__class__")) := by
    obtain ⟨cd, hc, _⟩ := any_some hdct
    unfold findObj
    rw [hc, Option.bind_some, ha, Option.bind_some] <;> simp [hn, htk]
  obtain ⟨hp, g, d, t, os⟩ := s
  have T0 := I.type (M := model prog w)
  have T1 := looks_findIn (M := model prog w) X hga; have T2 := looks_findIn (M := model prog w) X hgt; have T3 := looks_find (M := model prog w) X I hf
  have sb : Looks (model prog w) hp (isInstance (.ref x) (.type "BaseException")) true := T0.andThen (looks_subIn X hsub)
  have z0 : (false && onTheHeap (Value.builtin "BaseException.__getattribute__")) = false := rfl
  have z2 : (Value.builtin "BaseException.__getattribute__" == Value.builtin "object.__getattribute__") = false := by decide +kernel
  have z1 : (onTheHeap (Value.ref C) && Value.builtin "BaseException.__getattribute__" == Value.builtin "object.__getattribute__") = false := by rw [z2]; rfl
  unfold getAttr? getAttrBy? getAttrBy
  refine wpAny_bind (wpAny_mkText (wpAny_bind (wpAny_attempt (wpAny_holding (wpAny_bind (T0.at (wpAny_bind (T1.at ?_))))))))
  show wpAny _ _ (if (onTheHeap (Value.ref C) && Value.builtin "BaseException.__getattribute__" == Value.builtin "object.__getattribute__") = true then _ else _) _ _ _
  rw [z1, if_neg Bool.false_ne_true]; unfold getAttrByItsOwn hookBefore
  refine wpAny_bind ?_
  rw [if_pos (show onTheHeap (Value.ref C) = true from rfl)]
  refine T2.at (wpAny_bind (wpAny_attempt (wpAny_holding ?_)))
  unfold callGetattribute
  rw [z0, if_neg Bool.false_ne_true]; unfold boundAndCalled
  rw [PySem.F.excAttr_ValueError.ga.bind (.ref x)]; refine wpAny_bind (wpAny_pure ?_)
  show wpAny _ _ (call (.builtin "BaseException.__getattribute__") [.ref x, .str "__class__" t]) _ _ _
  refine wpAny_call (codeAny_call_builtin PySem.F.excAttr_ValueError.ga.plain PySem.F.entry_bexc_ga (@check_slot (model prog w) _ _ ⟨hp, g, d, t + 1, os⟩ "BaseException.__getattribute__" "BaseException" "__getattribute__" (.ref x) [.str "__class__" t] [] _ (by decide +kernel) (by decide +kernel) sb (PySem.F.args_bexc_ga (.ref x) (.str "__class__" t)) ?_))
  unfold Builtin.«object.__getattribute__»
  refine wpAny_bind (wpAny_of_eq (a := ((Value.ref x : Value), [Value.str "__class__" t])) (by first | rfl | (simp only [slotArgs]; rfl)) (wpAny_bind (wpAny_pure (wpAny_bind (T0.at (wpAny_bind (T3.at ?_)))))))
  show wpAny _ _ (holding [Value.builtin "object.__class__"] (call (.builtin "getset_descriptor.__get__") [.builtin "object.__class__", .ref x, .ref C]) >>= ret) _ _ _
  refine wpAny_bind (wpAny_holding (wpAny_call (class_get (s := ⟨hp, g, d, t + 1, os⟩) (ox := ox) (od := o1) X I hm (wpAny_pure ?_))))
  show wpAny _ _ (handedOut (.ref C)) _ _ _
  rw [handedOut_of (v := .ref C) rfl]
  first
    | (exact wpAny_pure (wpAny_pure h); done)
    | (exact wpAny_pure h; done)
    | (exact wpAny_pure (wpAny_bind (wpAny_pure (wpAny_pure h))); done)
theorem kitX_err (T : L2.ExcC K C) : KitX K (.ref x) (.ref C) (fun h => W.InstAt h x ox C o1) where
  ty := fun _ _ _ I => I.type
  it := fun _ _ X _ => by
    obtain ⟨cd, hc, _⟩ := any_some T.hd
    unfold clsIn at hc
    split at hc
    · rename_i ho
      exact fun A' Q' E' s' k q => by unfold isType loadHead; exact wpAny_bind (wpAny_loadPart (k _ _ (X _ _ ho)) (wpAny_pure q))
    · cases hc
  ne := fun h tp dd its n sl X htp => by
    obtain ⟨cd, hc, _⟩ := any_some T.hd
    refine Bool.eq_false_iff.mpr fun q => ?_
    cases Value.ref.inj (beq_iff_eq.mp q)
    unfold clsIn at hc
    split at hc
    · rename_i ho
      cases (X _ _ ho).symm.trans htp
    · cases hc
  ca := fun X I k => ask_class T X I k
end
end Mi

set_option Elab.async false
set_option linter.all false
set_option maxRecDepth 100000
set_option maxHeartbeats 4000000
/-! What an except suite makes of its exception. -/
namespace Mi
open PySem PySem.Spec PyProof.Rows L2

/-- it holds d's fields, slot i names it -/
def HIn (G : Gc) (a : Addr) (d : Option Addr) (i : Nat) (σ : L2.St) (H : Hp) (fs : List (Str × PV)) (Fe R : List Ent) : Prop := σ[i]? = some (some (.ref a)) ∧ FldE H fs d Fe ∧ Stt G.K G.w H (Fe ++ R)
def tHx (G : Gc) (a : Addr) (d : Option Addr) (i : Nat) (c : Str) (h : Hx) : TE := fun σ H Q => ∃ fs Fe R t, HIn G a d i σ H fs Fe R ∧ evH c fs h = some t ∧ ∀ v H' Te, TmR t v Te → Ext H H' → Stt G.K G.w H' (Te ++ (Fe ++ R)) → Q v H'
def tHs (G : Gc) (a : Addr) (d : Option Addr) (i : Nat) (c : Str) (hs : List Hx) : TA := fun σ H Q => ∃ fs Fe R ts, HIn G a d i σ H fs Fe R ∧ evHs c fs hs = some ts ∧ ∀ vs H' Te, TmsE σ ts vs Te → Ext H H' → Stt G.K G.w H' (Te ++ (Fe ++ R)) → Q vs H'
theorem FldE.ext {H H' : Hp} {fs : List (Str × PV)} {d : Option Addr} {es : List Ent} (h : FldE H fs d es) (x : Ext H H') : FldE H' fs d es := by
  rcases h with h | ⟨h1, a, us, h2, h3, h4⟩
  · exact .inl h
  · exact .inr ⟨h1, a, us, h2, x.get h3, h4⟩
theorem FEs.find {f : Str} {p : PV} : ∀ {fs : List (Str × PV)} {us : List (Str × V)} {es : List Ent}, FEs fs us es → fs.lookup f = some p → ∃ v z, us.lookup f = some v ∧ (⟨some v, .v p, [], z⟩ : Ent) ∈ es
  | [], _, _, _, h => by cases h
  | (g, q) :: fs, _, _, h, hl => by
    obtain ⟨v, us', z, es', rfl, rfl, h⟩ := h
    rw [lookup_put'] at hl ⊢
    by_cases e : f = g
    · rw [if_pos e] at hl
      cases hl
      exact ⟨v, z, if_pos e, List.mem_cons_self⟩
    · rw [if_neg e] at hl
      obtain ⟨v2, z2, h1, h2⟩ := FEs.find h hl
      exact ⟨v2, z2, by rw [if_neg e]; exact h1, List.mem_cons_of_mem _ h2⟩
where
  lookup_put' {α : Type} {f g : Str} {y : α} {fs : List (Str × α)} : ((f, y) :: fs).lookup g = if g = f then some y else fs.lookup g := by
    by_cases h : g = f
    · subst h
      simp [List.lookup]
    · have e : (g == f) = false := by simpa using h
      rw [if_neg h]
      simp [List.lookup, e]
section
variable {G : Gc} {a : Addr} {d : Option Addr} {i : Nat} {c : Str} {X : Cx} {pos : Pos}
theorem hs_nil {σ : L2.St} {H : Hp} {Q : List V → Hp → Prop} (q : tHs G a d i c [] σ H Q) : Q [] H := by
  obtain ⟨fs, Fe, R, ts, h1, h2, h3⟩ := q
  simp only [evHs, Option.some.injEq] at h2
  subst h2
  exact h3 [] H [] ⟨rfl, rfl⟩ Kp.rfl h1.2.2
theorem hs_cons {h : Hx} {hs : List Hx} {σ : L2.St} {H : Hp} {Q : List V → Hp → Prop} (q : tHs G a d i c (h :: hs) σ H Q) : tHx G a d i c h σ H fun x H1 => tHs G a d i c hs σ H1 fun xs H2 => Q (x :: xs) H2 := by
  obtain ⟨fs, Fe, R, ts0, ⟨h1, h2, h3⟩, h4, h5⟩ := q
  simp only [evHs] at h4
  cases e1 : evH c fs h with
  | none => rw [e1] at h4; cases h4
  | some t =>
    rw [e1] at h4
    cases e2 : evHs c fs hs with
    | none => rw [e2] at h4; cases h4
    | some ts =>
      rw [e2] at h4
      cases h4
      refine ⟨fs, Fe, R, t, ⟨h1, h2, h3⟩, e1, fun v H1 Te r x st => ⟨fs, Fe, Te ++ R, ts, ⟨h1, h2.ext x, st.perm (perm3 Te Fe R)⟩, e2, fun vs H2 Te2 r2 x2 st2 => ?_⟩⟩
      refine h5 (v :: vs) H2 (Te ++ Te2) ⟨v, vs, Te, Te2, rfl, rfl, r.e σ, r2⟩ (x.trans x2) (st2.perm ?_)
      rw [List.append_assoc]
      exact (List.Perm.append_left Te2 (perm3 Fe Te R)).trans (perm3 Te2 Te (Fe ++ R))
theorem h_const {k : Cn} {v : V} {e : Expr} (he : PE X e (tC v)) (hr : ∀ H, R0 G.K G.w H (fun _ => False) k.pv v) : PE X e (tHx G a d i c (.c k)) := he.imp fun σ H Q q => by
  obtain ⟨fs, Fe, R, t, h1, h2, h3⟩ := q
  simp only [evH, Option.some.injEq] at h2
  subst h2
  exact h3 v H [⟨some v, .v k.pv, [], fun _ => False⟩] ⟨_, rfl⟩ Kp.rfl (h1.2.2.addV (hr H) (fun _ h => h.elim) fun _ _ _ _ _ h => h)
theorem h_non {j : Nat} : PE X (.Constant .none j pos) (tHx G a d i c (.c .non)) := h_const pe_non fun _ => rfl
theorem h_bl {k : Bool} {j : Nat} : PE X (.Constant (.bool k) j pos) (tHx G a d i c (.c (.bl k))) := h_const pe_bl fun _ => rfl
theorem h_int {k : Int} {j : Nat} : PE X (.Constant (.int k) j pos) (tHx G a d i c (.c (.int k))) := h_const pe_int fun _ => rfl
theorem h_str {k : Str} {j : Nat} : PE X (.Constant (.str k) j pos) (tHx G a d i c (.c (.str k))) := h_const pe_str fun _ => rfl
theorem h_ite {ha hb hc : Hx} {ce ae be : Expr} (h1 : PT X ce (tB (tHx G a d i c ha))) (h2 : PE X ae (tHx G a d i c hb)) (h3 : PE X be (tHx G a d i c hc)) : PE X (.IfExp ce ae be pos) (tHx G a d i c (.ite ha hb hc)) :=
  (pe_ifExp h1 h2 h3).imp fun σ H Q q => hx_ite q
where
  hx_ite {ha hb hc : Hx} {σ : L2.St} {H : Hp} {Q : VK} (q : tHx G a d i c (.ite ha hb hc) σ H Q) : tB (tHx G a d i c ha) σ H fun k H1 => if k = true then tHx G a d i c hb σ H1 Q else tHx G a d i c hc σ H1 Q := by
    obtain ⟨fs, Fe, R, t, ⟨h1, h2, h3⟩, h4, h5⟩ := q
    have go : ∀ {b : Bool} {hh : Hx}, evH c fs ha = some (.v (.bl b)) → evH c fs hh = some t → (∀ H1, (if b = true then tHx G a d i c hb σ H1 Q else tHx G a d i c hc σ H1 Q) = tHx G a d i c hh σ H1 Q) → tB (tHx G a d i c ha) σ H fun k H1 => if k = true then tHx G a d i c hb σ H1 Q else tHx G a d i c hc σ H1 Q := by
      intro b hh e1 e2 e3
      refine ⟨fs, Fe, R, _, ⟨h1, h2, h3⟩, e1, fun v H1 Te r x st => ?_⟩
      obtain ⟨z, rfl⟩ := r
      obtain ⟨_, _, u, e4, r0⟩ := st.ok _ List.mem_cons_self
      cases e4
      refine ⟨b, r0, ?_⟩
      show (if b = true then tHx G a d i c hb σ H1 Q else tHx G a d i c hc σ H1 Q)
      rw [e3 H1]
      exact ⟨fs, Fe, R, t, ⟨h1, h2.ext x, st.tail⟩, e2, fun v2 H2 Te2 r2 x2 st2 => h5 v2 H2 Te2 r2 (x.trans x2) st2⟩
    simp only [evH] at h4
    split at h4
    · rename_i e1
      exact go e1 h4 fun H1 => if_pos rfl
    · rename_i e1
      exact go e1 h4 fun H1 => if_neg Bool.false_ne_true
    · cases h4
theorem h_tup {hs : List Hx} {as : List Expr} {x1} (h : PA X as (tHs G a d i c hs)) : PE X (.Tuple as x1 pos) (tHx G a d i c (.tup hs)) := (pe_tupF h).imp fun σ H Q q => by
  obtain ⟨fs, Fe, R, t, h1, h2, h3⟩ := q
  simp only [evH] at h2
  cases e1 : evHs c fs hs with
  | none => rw [e1] at h2; cases h2
  | some ts =>
    rw [e1] at h2
    cases e2 : ts.mapM (Tm.dn 0) with
    | none => simp only [e2] at h2; cases h2
    | some ps =>
      simp only [e2] at h2
      by_cases hl : ps.length ≤ lim
      · simp only [hl, if_true, Option.some.injEq] at h2
        subst h2
        refine ⟨fs, Fe, R, ts, h1, e1, fun vs H1 Te r x st => ?_⟩
        obtain ⟨z, f, ro, _, _, hd⟩ := hold_all st r e2
        obtain ⟨rfl, r0⟩ := ro.r0
        refine ⟨by rw [r0.length]; exact hl, fun p ob hp hc hdd => ?_⟩
        have x2 : Ext H1 (upd H1 p (.frz ob (.tup vs))) := Kp.fresh hp
        exact h3 (.ref p) _ [⟨some (.ref p), .v (.tup ps), [], z⟩] ⟨z, rfl⟩ (x.trans x2) ((hd.ext x2).addV (p := .tup ps) (v := .ref p) (st.drop.ext x2) ⟨p, vs, rfl, .inl ⟨ob, upd_same, hc, hdd⟩, r0.kp (S := fun _ => False) x2 (fun _ x => x.elim) (fun _ x => x.elim) fun _ x => x⟩)
      · simp only [hl, if_false] at h2; cases h2
theorem h_lst {hs : List Hx} {as : List Expr} (h : PA X as (tHs G a d i c hs)) : PE X (.List as pos) (tHx G a d i c (.lst hs)) := (pe_lst h).imp fun σ H Q q => by
  obtain ⟨fs, Fe, R, t, h1, h2, h3⟩ := q
  simp only [evH] at h2
  cases e1 : evHs c fs hs with
  | none => rw [e1] at h2; cases h2
  | some ts =>
    rw [e1] at h2
    cases e2 : ts.mapM (Tm.dn 0) with
    | none => simp only [e2] at h2; cases h2
    | some ps =>
      simp only [e2] at h2
      by_cases hl : ps.length ≤ lim
      · simp only [hl, if_true, Option.some.injEq] at h2
        subst h2
        refine ⟨fs, Fe, R, ts, h1, e1, fun vs H1 Te r x st => ?_⟩
        obtain ⟨z, f, ro, _, _, hd⟩ := hold_all st r e2
        refine ⟨by rw [ro.len]; exact hl, fun p hp => ?_⟩
        have x2 : Ext H1 (upd H1 p (.lst vs)) := Kp.fresh hp
        refine h3 (.ref p) _ [⟨some (.ref p), .o 0 (.lst ps), p :: f, z⟩] ⟨_, z, rfl⟩ (x.trans x2) ((hd.new st.drop hp (.inl ⟨vs, rfl⟩)).addO (st.drop.ext x2) ?_)
        simp only [RO]
        exact ⟨p, vs, f, rfl, upd_same, ro.kp (S := fun _ => False) x2 (fun _ x => x.elim) (fun _ x => x.elim) (fun _ x => x) (fun _ x => x.elim), rfl⟩
      · simp only [hl, if_false] at h2; cases h2
theorem hs_pa_nil : PA X [] (tHs G a d i c []) := pa_nil.imp fun σ H Q q => hs_nil q
theorem hs_pa_cons {h : Hx} {hs : List Hx} {e : Expr} {as : List Expr} (h1 : PE X e (tHx G a d i c h)) (h2 : PA X as (tHs G a d i c hs)) (hst : isStar e = false) : PA X (e :: as) (tHs G a d i c (h :: hs)) := (pa_cons h1 h2 (star_cons hst)).imp fun σ H Q q => hs_cons q
/-- e.f -/
theorem h_fld {oe : Obj} {pn : List (Addr × Obj)} {y f : Str} {p : Pos} (T : XfC X.K (G.ca c)) (hno : PySem.W.findIn X.K (.ref (G.ca c)) f = some none) (hz : Zc (.ref (G.ca c)) d oe) (hf : ∃ vs, oe.data = .fields vs)
    (hN : X.N[i]? = some y) (hv : Vis X.env.scope y) (hd : (y == ("__debug__" : Str)) = false) (hcd : (y == ("__classdict__" : Str)) = false) : PE (X.suite a ((a, oe) :: pn)) (.Attribute (.Name y p) f pos) (tHx G a d i c (.fld f)) :=
  (pe_xf T hno hz hf (pe_var (X := X.suite a ((a, oe) :: pn)) hN hv hd hcd) rfl).imp fun σ H Q q => by
    obtain ⟨fs, Fe, R, t, ⟨h1, h2, h3⟩, h4, h5⟩ := q
    simp only [evH, Option.map_eq_some_iff] at h4
    obtain ⟨q, h4, rfl⟩ := h4
    rcases h2 with ⟨rfl, _, _⟩ | ⟨_, dd, us, e1, e2, e3⟩
    · cases h4
    · obtain ⟨v, z, e4, e5⟩ := e3.find h4
      exact ⟨.ref a, h1, rfl, rfl, dd, us, v, e1, e2, e4, h5 v H [⟨some v, .v q, [], z⟩] ⟨z, rfl⟩ Kp.rfl (h3.dup (List.mem_append_left _ e5))⟩
/-- isinstance(e, C) of the suite's exception -/
def rIsX (K : PySem.W.Frag) (D a : Addr) (d : Option Addr) : List V → Hp → VK → Prop := fun xs H Q => ∃ (cv : Addr) (b : Bool), xs = [.ref a, .ref cv] ∧ (d = none ∨ ∃ dd fs, d = some dd ∧ H dd = some (.xd fs)) ∧ PySem.W.kitOne K (.ref D) (.ref cv) = some b ∧ Q (.bl b) H
theorem call_isX {D : Addr} {oe : Obj} {pn : List (Addr × Obj)} (C : ExcC X.K D) (hz : Zc (.ref D) d oe) (hf : ∃ vs, oe.data = .fields vs) : CallR (X.suite a ((a, oe) :: pn)) (.builtin "isinstance") (rIsX X.K D a d) := by
  intro pins s σ H xs us Q I r h
  obtain ⟨cv, b, rfl, hd, e, q⟩ := h
  cases r with
  | cons rx rr =>
    cases rr with
    | cons rt rr =>
      cases rr
      cases rx
      cases rt
      obtain ⟨hget, _⟩ := I.pin (a, oe) (List.mem_append.mpr (.inl List.mem_cons_self))
      obtain ⟨vs, hv⟩ := hf
      have nc : PySem.W.notCls oe = true := by unfold PySem.W.notCls; rw [hv]
      have J : ∃ od, PySem.W.InstAt s.heap a oe D od := by
        rcases hd with e1 | ⟨dd, fs, e1, e2⟩
        · exact ⟨none, hget, hz.1, nc, by rw [hz.2, e1]; trivial⟩
        · have hx : ObjOk X.prog X.w H s.heap dd (.xd fs) := I.hok dd _ e2
          obtain ⟨mA, hns, hr⟩ := hx
          obtain ⟨od, ho, hl⟩ := lookIn_ns hns
          exact ⟨some od, hget, hz.1, nc, by rw [hz.2, e1]; exact ho⟩
      obtain ⟨od, J⟩ := J
      exact PySem.W.kia_one (kitX_err C) I.kIn J e (fun z => nomatch z) fun tk => ⟨.bl b, H, I.kept (t' := tk) fun _ _ z => z, rfl, q⟩
theorem h_is {oe : Obj} {pn : List (Addr × Obj)} {y x : Str} {p1 p2 p3 : Pos} (T : ExcC X.K (G.ca c)) (hz : Zc (.ref (G.ca c)) d oe) (hf : ∃ vs, oe.data = .fields vs) (hk : PySem.W.kitOne X.K (.ref (G.ca c)) (.ref (G.ca x)) = some (catches x c))
    (hN : X.N[i]? = some y) (hv : Vis X.env.scope y) (hd : (y == ("__debug__" : Str)) = false) (hcd : (y == ("__classdict__" : Str)) = false) (hg : Gl X "isinstance") (hm : X.mg "isinstance" = none) (hgx : Gl X x) (hmx : X.mg x = some (.ref (G.ca x))) (hdx : (x == ("__debug__" : Str)) = false) :
    PE (X.suite a ((a, oe) :: pn)) (.Call (.Name "isinstance" p1) [.Name y p2, .Name x p3] [] pos) (tHx G a d i c (.is x)) := by
  have pa : PA (X.suite a ((a, oe) :: pn)) [.Name y p2, .Name x p3] _ := pa_cons (pe_var (X := X.suite a ((a, oe) :: pn)) hN hv hd hcd) (pa_cons (pe_glob (X := X.suite a ((a, oe) :: pn)) (v := .ref (G.ca x)) hgx hmx rfl hdx) pa_nil (star_cons rfl)) (star_cons rfl)
  refine (pe_callB (X := X.suite a ((a, oe) :: pn)) (call_isX T hz hf) hg hm boot_isi' pa (by decide) (by decide) (star_cons rfl) (star_none fun b hb => by obtain rfl := List.mem_singleton.mp hb; rfl)).imp fun σ H Q q => ?_
  obtain ⟨fs, Fe, R, t, ⟨h1, h2, h3⟩, h4, h5⟩ := q
  simp only [evH, Option.some.injEq] at h4
  subst h4
  refine ⟨.ref a, h1, _, _, rfl, ?_, hk, ?_⟩
  · rcases h2 with ⟨_, e, _⟩ | ⟨_, dd, us, e1, e2, _⟩
    · exact .inl e
    · exact .inr ⟨dd, us, e1, e2⟩
  · exact h5 (.bl _) H [⟨some (.bl _), .v (.bl _), [], fun _ => False⟩] ⟨_, rfl⟩ Kp.rfl (h3.addV rfl (fun _ h => h.elim) fun _ _ _ _ _ h => h)
where
  boot_isi' : bootBuiltins "isinstance" = some (.builtin "isinstance") := by decide +kernel
end
end Mi

set_option Elab.async false
set_option linter.all false
set_option maxRecDepth 100000
set_option maxHeartbeats 4000000
/-! try: .. except C as e: .. -/
namespace Mi
open PySem PySem.Spec PyProof.Rows L2

section
variable {F : Type} {call : F → List Sl → CR} {G : Gc} {W : WX} {fx : List (Nat × V)} {X : Cx}
theorem wipe_slot {K : PySem.W.Frag} {w : World} {H : Hp} {L R : List Ent} {i : Nat} (v : Option V) (st : Stt K w H (L ++ R)) (hi : i < L.length) : Stt K w H (L.set i (eU v) ++ R) :=
  Stt.store (x := eU v) ((st.addU v).perm List.perm_middle.symm) hi
theorem outS_ok {Θ : List Ent} {D : Ends} {fl : Fl} {ρ : Evn} (h : OutS G W fx Θ D (.ok fl ρ)) (W' : WX) : OutS G W' fx Θ D (.ok fl ρ) := by
  cases fl <;> exact h
section
variable {body : List (Sm F)} {cs : List Str} {x n : Str} {i : Nat} {cv : Value} {as suite : List Stmt} {b₀ : Stmt} {np pos pos' : Pos}
theorem s_tryR {h : Hx} (hs : X.stack = X.env :: X.outer) (hf : X.env.frame = some X.env.locals) (hN : X.N.Nodup) (hi : X.N[i]? = some n) (hln : X.env.kindOf n = some .local) (hc : Names X x cv) (tk : Takes X W)
    (hb : ∀ (W' : WX) (pn : List (Addr × Obj)) (xe : Value → Shared → Prop), Takes (X.tr pn xe) W' → PassesOwn (model X.prog X.w) X.A X.env xe → PSs (X.tr pn xe) as (tSms G W' fx call body))
    (hsu : ∀ c, cs.contains c = true → ∀ (a : Addr) (oe : Obj) (d : Option Addr) (pn : List (Addr × Obj)), Zc (.ref (G.ca c)) d oe → (∃ vs, oe.data = .fields vs) → PSs (X.suite a ((a, oe) :: pn)) (b₀ :: suite) (fun D σ H => tHx G a d i c h σ H D.rt))
    (hex : ∀ c, cs.contains c = true → PySem.W.exmOne X.K (.ref (G.ca c)) cv = some (catches x c)) :
    PS X (.Try as [.ExceptHandler (some (.Name x np)) (some n) (b₀ :: suite) pos'] [] [] pos) (tSm G W fx call (.tryR body cs x i h)) := by
  refine (ps_try_as (tb := fun W' => tSms G W' fx call body) (ts := fun a cls d => fun D σ H => ∃ c, cs.contains c = true ∧ cls = .ref (G.ca c) ∧ tHx G a d i c h σ H D.rt) hs hf hN hi hln hc tk hb fun a oe cls d pn hz hd => ⟨fun pins s σ H D I q => ?_⟩).imp fun D σ H q => ?_
  · obtain ⟨c, h1, rfl, h2⟩ := q
    exact (hsu c h1 a oe d pn hz hd).run pins s σ H D I h2
  · obtain ⟨ρ, L, Θ, l, fxx, st, o⟩ := q
    refine ⟨ρ, L, Θ, l, fxx, st, ?_⟩
    simp only [evS] at o
    cases e : evSs call (iosOf fx) body ρ with
    | no => rw [e] at o; exact o.elim
    | ok fl ρ1 => rw [e] at o; exact outS_ok o _
    | ex c fs ρ1 =>
      rw [e] at o
      intro σ' fx' d H' L' Fe l' fe st'
      by_cases hcs : cs.contains c = true
      · simp only [hcs, if_true] at o
        by_cases hct : catches x c = true
        · simp only [hct, if_true] at o
          by_cases hcan : canSet (iosOf fx) ρ1 i = true
          · simp only [hcan, if_true] at o
            obtain ⟨c1, c2, c3⟩ := canSet_parts hcan
            have hiL : i < L'.length := by rw [l'.len]; exact c3
            cases eh : evH c fs h with
            | none => rw [eh] at o; exact o.elim
            | some t =>
              rw [eh] at o
              refine ⟨true, by rw [hex c hcs, hct], fun _ a na => ⟨c, hcs, rfl, ?_⟩, fun z => nomatch z⟩
              have st2 := wipe_slot (some (.ref a)) st' hiL
              refine ⟨fs, Fe, L'.set i (eU (some (.ref a))) ++ Θ, t, ⟨?_, fe, st2.perm (perm3 _ Fe Θ)⟩, eh, fun v H2 Te r xx st3 => ?_⟩
              · rw [List.getElem?_set_self (by rw [← l'.1, List.length_map]; exact hiL)]
              · refine o v (σ'.set i (some (.ref a))) H2 (L'.set i (eU (some (.ref a)))) Te (Loc.put (x := eU (some (.ref a))) l') (fx'.set c1) r ?_
                have st4 := (st3.perm (perm3 Te Fe _)).drop
                exact st4.perm (perm3 Te _ Θ)
          · simp only [hcan, if_false] at o; exact o.elim
        · have hct' : catches x c = false := Bool.eq_false_iff.mpr hct
          simp only [hct', if_false, Bool.false_eq_true] at o
          exact ⟨false, by rw [hex c hcs, hct'], (fun z => nomatch z), fun _ => o σ' fx' d H' L' Fe l' fe st'⟩
      · simp only [hcs, if_false, Bool.false_eq_true] at o; exact o.elim
/-- a suite that does not look at the exception -/
theorem outS_noEx {Θ : List Ent} {D : Ends} {r : R Fl} (h : OutS G W fx Θ D (noEx r)) (W' : WX) : OutS G W' fx Θ D r := by
  cases r with
  | no => exact h
  | ok fl ρ => exact outS_ok h _
  | ex c fs ρ => exact h.elim
theorem s_tryN {ss : List (Sm F)} (hs : X.stack = X.env :: X.outer) (hf : X.env.frame = some X.env.locals) (hc : Names X x cv) (tk : Takes X W)
    (hb : ∀ (W' : WX) (pn : List (Addr × Obj)) (xe : Value → Shared → Prop), Takes (X.tr pn xe) W' → PassesOwn (model X.prog X.w) X.A X.env xe → PSs (X.tr pn xe) as (tSms G W' fx call body))
    (hsu : ∀ (a : Addr) (oe : Obj) (pn : List (Addr × Obj)), PSs (X.suite a ((a, oe) :: pn)) (b₀ :: suite) (tSms G Wf fx call ss))
    (hex : ∀ c, cs.contains c = true → PySem.W.exmOne X.K (.ref (G.ca c)) cv = some (catches x c)) :
    PS X (.Try as [.ExceptHandler (some (.Name x np)) none (b₀ :: suite) pos'] [] [] pos) (tSm G W fx call (.tryP body cs x none ss)) := by
  refine (ps_try_only (tb := fun W' => tSms G W' fx call body) (ts := fun a cls d => tSms G Wf fx call ss) hs hf hc tk hb fun a oe cls d pn hz hd => hsu a oe pn).imp fun D σ H q => ?_
  obtain ⟨ρ, L, Θ, l, fxx, st, o⟩ := q
  refine ⟨ρ, L, Θ, l, fxx, st, ?_⟩
  simp only [evS] at o
  cases e : evSs call (iosOf fx) body ρ with
  | no => rw [e] at o; exact o.elim
  | ok fl ρ1 => rw [e] at o; exact outS_ok o _
  | ex c fs ρ1 =>
    rw [e] at o
    intro σ' fx' d H' L' Fe l' fe st'
    by_cases hcs : cs.contains c = true
    · simp only [hcs, if_true] at o
      by_cases hct : catches x c = true
      · simp only [hct, if_true] at o
        exact ⟨true, by rw [hex c hcs, hct], fun _ a na => ⟨ρ1, L', Θ, l', fx', (st'.perm (perm3 L' Fe Θ)).drop, outS_noEx o _⟩, fun z => nomatch z⟩
      · have hct' : catches x c = false := Bool.eq_false_iff.mpr hct
        simp only [hct', if_false, Bool.false_eq_true] at o
        exact ⟨false, by rw [hex c hcs, hct'], (fun z => nomatch z), fun _ => o σ' fx' d H' L' Fe l' fe st'⟩
    · simp only [hcs, if_false, Bool.false_eq_true] at o; exact o.elim
theorem s_tryP {ss : List (Sm F)} (hs : X.stack = X.env :: X.outer) (hf : X.env.frame = some X.env.locals) (hN : X.N.Nodup) (hi : X.N[i]? = some n) (hln : X.env.kindOf n = some .local) (hc : Names X x cv) (tk : Takes X W)
    (hb : ∀ (W' : WX) (pn : List (Addr × Obj)) (xe : Value → Shared → Prop), Takes (X.tr pn xe) W' → PassesOwn (model X.prog X.w) X.A X.env xe → PSs (X.tr pn xe) as (tSms G W' fx call body))
    (hsu : ∀ (a : Addr) (oe : Obj) (pn : List (Addr × Obj)), PSs (X.suite a ((a, oe) :: pn)) (b₀ :: suite) (tSms G Wf fx call ss))
    (hex : ∀ c, cs.contains c = true → PySem.W.exmOne X.K (.ref (G.ca c)) cv = some (catches x c)) :
    PS X (.Try as [.ExceptHandler (some (.Name x np)) (some n) (b₀ :: suite) pos'] [] [] pos) (tSm G W fx call (.tryP body cs x (some i) ss)) := by
  refine (ps_try_as (tb := fun W' => tSms G W' fx call body) (ts := fun a cls d => tSms G Wf fx call ss) hs hf hN hi hln hc tk hb fun a oe cls d pn hz hd => hsu a oe pn).imp fun D σ H q => ?_
  obtain ⟨ρ, L, Θ, l, fxx, st, o⟩ := q
  refine ⟨ρ, L, Θ, l, fxx, st, ?_⟩
  simp only [evS] at o
  cases e : evSs call (iosOf fx) body ρ with
  | no => rw [e] at o; exact o.elim
  | ok fl ρ1 => rw [e] at o; exact outS_ok o _
  | ex c fs ρ1 =>
    rw [e] at o
    intro σ' fx' d H' L' Fe l' fe st'
    by_cases hcs : cs.contains c = true
    · simp only [hcs, if_true] at o
      by_cases hct : catches x c = true
      · simp only [hct, if_true] at o
        by_cases hcan : canSet (iosOf fx) ρ1 i = true
        · simp only [hcan, if_true] at o
          obtain ⟨c1, c2, c3⟩ := canSet_parts hcan
          have hiL : i < L'.length := by rw [l'.len]; exact c3
          refine ⟨true, by rw [hex c hcs, hct], fun _ a na => ⟨ρ1.set i .u, L'.set i (eU (some (.ref a))), Θ, Loc.put (x := eU (some (.ref a))) l', fx'.set c1, ((wipe_slot (some (.ref a)) st' hiL).perm (perm3 _ Fe Θ)).drop, ?_⟩, fun z => nomatch z⟩
          cases er : evSs call (iosOf fx) ss (ρ1.set i .u) with
          | no => rw [er] at o; exact o.elim
          | ex c2 fs2 ρ2 => rw [er] at o; exact o.elim
          | ok fl ρ2 =>
            rw [er] at o
            cases fl with
            | nx =>
              intro σ2 H2 L2 l2 fx2 st2
              have o : ∀ σ' H' L', Loc σ' (ρ2.set i .u) L' → Fx fx σ' → Stt G.K G.w H' (L' ++ Θ) → D.nx σ' H' := o
              show D.nx (σ2.set i none) H2
              by_cases h2 : i < L2.length
              · exact o _ H2 (L2.set i (eU none)) (Loc.put (x := eU none) l2) (fx2.set c1) (wipe_slot none st2 h2)
              · have e1 : σ2.set i none = σ2 := List.set_eq_of_length_le (by rw [← l2.1, List.length_map]; omega)
                have e2 : ρ2.set i .u = ρ2 := List.set_eq_of_length_le (by rw [← l2.len]; omega)
                rw [e1]
                rw [e2] at o
                exact o _ H2 L2 l2 fx2 st2
            | rt t =>
              intro v σ2 H2 L2 Te l2 fx2 r st2
              have o : ∀ v σ' H' L' Te, Loc σ' (ρ2.set i .u) L' → Fx fx σ' → TmR t v Te → Stt G.K G.w H' (L' ++ (Te ++ Θ)) → D.rt v H' := o
              show D.rt v H2
              by_cases h2 : i < L2.length
              · exact o v _ H2 (L2.set i (eU none)) Te (Loc.put (x := eU none) l2) (fx2.set c1) r (wipe_slot none st2 h2)
              · have e2 : ρ2.set i .u = ρ2 := List.set_eq_of_length_le (by rw [← l2.len]; omega)
                rw [e2] at o
                exact o v _ H2 L2 Te l2 fx2 r st2
        · simp only [hcan, if_false] at o; exact o.elim
      · have hct' : catches x c = false := Bool.eq_false_iff.mpr hct
        simp only [hct', if_false, Bool.false_eq_true] at o
        exact ⟨false, by rw [hex c hcs, hct'], (fun z => nomatch z), fun _ => o σ' fx' d H' L' Fe l' fe st'⟩
    · simp only [hcs, if_false, Bool.false_eq_true] at o; exact o.elim
end
end
end Mi

set_option Elab.async false
set_option linter.all false
set_option maxRecDepth 100000
set_option maxHeartbeats 4000000
/-! a, b = x, y. -/
namespace Mi
open PySem PySem.Spec PyProof.Rows L2

def parS : List Nat → List V → L2.St → L2.St
  | i :: is, v :: vs, σ => parS is vs (σ.set i (some v))
  | _, _, σ => σ
section
variable {F : Type} {call : F → List Sl → CR} {G : Gc} {W : WX} {fx : List (Nat × V)} {X : Cx}
theorem par_ok {K : PySem.W.Frag} {w : World} {H : Hp} {σ0 : L2.St} : ∀ {is : List Nat} {ts : List Tm} {vs : List V} {σ : L2.St} {ρ ρ2 : Evn} {L Te Θ : List Ent}, Loc σ ρ L → Fx fx σ → TmsE σ0 ts vs Te → Stt K w H (L ++ (Te ++ Θ)) → parT (iosOf fx) is ts ρ = some ρ2 →
    ∃ L2, Loc (parS is vs σ) ρ2 L2 ∧ Fx fx (parS is vs σ) ∧ Stt K w H (L2 ++ Θ)
  | [], [], _, σ, ρ, ρ2, L, _, Θ, l, f, r, st, h => by
    obtain ⟨rfl, rfl⟩ := r
    simp only [parT, Option.some.injEq] at h
    subst h
    exact ⟨L, l, f, st⟩
  | [], _ :: _, _, _, _, _, _, _, _, _, _, _, _, h => by simp [parT] at h
  | _ :: _, [], _, _, _, _, _, _, _, _, _, _, _, h => by simp [parT] at h
  | i :: is, t :: ts, _, σ, ρ, ρ2, L, _, Θ, l, f, r, st, h => by
    obtain ⟨v, vs', e, es', rfl, rfl, r1, r2⟩ := r
    simp only [parT] at h
    by_cases hc : canSet (iosOf fx) ρ i = true
    · simp only [hc, if_true] at h
      obtain ⟨c1, c2, c3⟩ := canSet_parts hc
      have hi : i < L.length := by rw [l.len]; exact c3
      cases t with
      | v p =>
        obtain ⟨z, rfl⟩ := r1
        show ∃ L2, Loc (parS is vs' (σ.set i (some v))) ρ2 L2 ∧ Fx fx (parS is vs' (σ.set i (some v))) ∧ Stt K w H (L2 ++ Θ)
        exact par_ok (Loc.put (x := ⟨some v, .v p, [], z⟩) l) (f.set c1) r2 (Stt.store (x := ⟨some v, .v p, [], z⟩) (by simpa using st) hi) h
      | o d p =>
        obtain ⟨fp, z, rfl⟩ := r1
        show ∃ L2, Loc (parS is vs' (σ.set i (some v))) ρ2 L2 ∧ Fx fx (parS is vs' (σ.set i (some v))) ∧ Stt K w H (L2 ++ Θ)
        exact par_ok (Loc.put (x := ⟨some v, .o d p, fp, z⟩) l) (f.set c1) r2 (Stt.store (x := ⟨some v, .o d p, fp, z⟩) (by simpa using st) hi) h
      | s i => cases h
      | m i d p => cases h
    · simp only [hc, if_false] at h; cases h
theorem par_core {is : List Nat} {es : List (Ex F)} {D : Ends} {σ : L2.St} {H : Hp} (q : tSm G W fx call (.par is es) D σ H) : tEs G W call es σ H fun vs H1 => vs.length = is.length ∧ D.nx (parS is vs σ) H1 := by
  have q' : tS G W fx (fun ρ => (evEs call es ρ).bd fun ts ρ1 => (match parT (iosOf fx) is ts ρ1 with | some ρ2 => .ok .nx ρ2 | none => .no)) D σ H := tS_eq (fun ρ => by simp only [evS] <;> rfl) q
  refine (tS_R (rel := TmsE) q').mono fun vs H1 ⟨ts, ρ1, L, Θ, Te, l, fxx, r, st, o⟩ => ?_
  cases hp : parT (iosOf fx) is ts ρ1 with
  | none => rw [hp] at o; exact o.elim
  | some ρ2 =>
    rw [hp] at o
    obtain ⟨L2, l2, f2, s2⟩ := par_ok l fxx r st hp
    exact ⟨(len_ts r).trans (len_is hp).symm, o _ H1 L2 l2 f2 s2⟩
where
  len_ts : ∀ {ts : List Tm} {vs : List V} {Te : List Ent} {σ : L2.St}, TmsE σ ts vs Te → vs.length = ts.length
    | [], _, _, _, r => by rw [r.1]; rfl
    | t :: ts, _, _, _, r => by
      obtain ⟨v, vs', e, es', rfl, rfl, _, r2⟩ := r
      simp [len_ts r2]
  len_is : ∀ {ios is : List Nat} {ts : List Tm} {ρ ρ2 : Evn}, parT ios is ts ρ = some ρ2 → is.length = ts.length
    | _, [], [], _, _, _ => rfl
    | _, [], _ :: _, _, _, h => by simp [parT] at h
    | _, _ :: _, [], _, _, h => by simp [parT] at h
    | ios, i :: is, t :: ts, ρ, ρ2, h => by
      simp only [parT] at h
      split at h
      · cases t with
        | v p => simp [len_is h]
        | o d p => simp [len_is h]
        | s i => cases h
        | m i d p => cases h
      · cases h
/-- stored from the right -/
def swapB (x y : Str) (px py : Pos) (a b : Expr) : Bool := (py.line == px.line) && !(x == y) && !isStar a && !isStar b && !(foldedForSure 8 a && foldedForSure 8 b) && !(constantsAlone 8 a && constantsAlone 8 b)
theorem swap_eq {x y : Str} {px py pt pt2 : Pos} {kt k2} {a b : Expr} {env : Env} (h : swapB x y px py a b = true) (hk : env.blockKind = .function) (hx : env.kindOf x = some .local) (hy : env.kindOf y = some .local) :
    swappedStores [.Tuple [.Name x px, .Name y py] kt pt] (.Tuple [a, b] k2 pt2) env = pure (some [x, y]) := by
  simp only [swapB, Bool.and_eq_true, Bool.not_eq_true', beq_iff_eq] at h
  obtain ⟨⟨⟨⟨⟨h1, h2⟩, h3⟩, h4⟩, h5⟩, h6⟩ := h
  have n3 : ∀ {c : Expr}, isStar c = false → (match c with | .Starred .. => true | _ => false) = false := by
    intro c hc
    cases c <;> first | rfl | (simp [isStar] at hc)
  unfold swappedStores
  simp [hk, hx, hy, h1, h2, n3 h3, n3 h4, Expr.pos, List.eraseDups_cons, h5, h6]
  have h2' : (y == x) = false := by
    rw [beq_eq_false_iff_ne] at h2 ⊢
    exact Ne.symm h2
  refine (if_neg fun hh => ?_).trans ?_
  · rcases hh with hh | hh
    · revert hh h3; clear n3 h5 h6; cases a <;> simp [isStar]
    · revert hh h4; clear n3 h5 h6; cases b <;> simp [isStar]
  · refine if_pos ?_
    simp [List.filter, h2', List.eraseDups_cons]
theorem s_par2 {i j : Nat} {x y : Str} {a b : Expr} {es : List (Ex F)} {px py pt pos : Pos} {kt k2 pt2} (hc : X.calm = true) (hN : X.N.Nodup) (hi : X.N[i]? = some x) (hj : X.N[j]? = some y) (hij : i ≠ j)
    (hx : X.env.scope.names.lookup x = some .local) (hy : X.env.scope.names.lookup y = some .local) (ha : PA X [a, b] (tEs G W call es)) (hk : X.env.blockKind = .function) (h : swapB x y px py a b = true) :
    PS X (.Assign [.Tuple [.Name x px, .Name y py] kt pt] (.Tuple [a, b] k2 pt2) pos) (tSm G W fx call (.par [i, j] es)) :=
  (ps_par hc hN hi hj hij hx hy ha (swap_eq h hk hx hy) rfl).imp fun D σ H q => (par_core q).mono fun vs H1 ⟨hl, q⟩ => by
    match vs, hl, q with
    | [v, w], _, q => exact ⟨v, w, rfl, q⟩
end
end Mi

set_option Elab.async false
set_option linter.all false
set_option maxRecDepth 100000
set_option maxHeartbeats 4000000
/-! A def's surroundings, told for the matcher. -/
namespace Mi
open PySem PySem.Spec PyProof.Rows L2

/-- what the matcher knows of a place in the text -/
structure MC (F : Type) where
  N : List Str
  sc : Scope
  fn : Str → Bool
  fns : List (Str × F)
  cst : List (Str × PV)
  exs : List (Str × List Str) := []
  hot : Bool := false
/-- an except suite's -/
def MC.hotOf {F : Type} (c : MC F) : MC F := { c with fns := [], exs := [], hot := true }
def MC.blk {F : Type} (c : MC F) (scope : Scope) : MC F := { c with sc := relS scope c.sc, fn := fun x => scope.names.lookup x == some .cell }
/-- the builtins that may be named -/
def bltNames : List Str := ["len", "tuple", "list", "sorted", "sum", "abs", "str", "int", "min", "max", "range", "dict", "isinstance", "bool"]
section
variable {F : Type}
/-- a def of the text, called by its name -/
def FnHere (X : Cx) (G : Gc) (call : F → List Sl → CR) (x : Str) (f : F) : Prop := ∃ k fa fd ps, FnOk X.prog X.w X.K X.mg X.base (L2.CX X.prog X.w) k fa fd ps (SpF G (call f)) ∧ Room k X.A ∧ X.mg x = some (.ref fa) ∧ PySem.W.keepIn X.K (.ref fa) = true ∧ Binds X.K fd ps []
structure COk (c : MC F) (call : F → List Sl → CR) (G : Gc) (W : WX) (X : Cx) : Prop where
  N : X.N = c.N
  sc : X.env.scope = c.sc
  fn : X.fn = c.fn
  nd : X.N.Nodup
  K : G.K = X.K ∧ G.w = X.w
  calm : c.hot = false → X.calm = true
  rm : c.hot = false → Room 2 X.A
  un : X.A.units + 100 < cLine
  tk : Takes X W
  fns : ∀ x f, c.fns.lookup x = some f → FnHere X G call x f
  cst : ∀ x p, c.cst.lookup x = some p → GlR G X.mg x p
  blt : ∀ x ∈ bltNames, X.mg x = none
  exs : ∀ x flds, c.exs.lookup x = some flds → ErrX G X x flds ∧ ExcC X.K (G.ca x) ∧ XfC X.K (G.ca x)
  prs : ∀ x y, (c.exs.lookup x).isSome = true → (c.exs.lookup y).isSome = true → PySem.W.exmOne X.K (.ref (G.ca y)) (.ref (G.ca x)) = some (catches x y) ∧ PySem.W.kitOne X.K (.ref (G.ca y)) (.ref (G.ca x)) = some (catches x y)
  nof : ∀ x f, (c.exs.lookup x).isSome = true → (c.exs.any fun q => q.2.contains f) = true → PySem.W.findIn X.K (.ref (G.ca x)) f = some none
theorem COk.blk {c : MC F} {call : F → List Sl → CR} {G : Gc} {W : WX} {X : Cx} (h : COk c call G W X) (scope : Scope) (s : Shared) (H : Hp) (C : Addr) (cl : List (Str × Addr)) (fp : List Addr) : COk (c.blk scope) call G Wf (X.blk s H scope (compEnvC scope cl C X.env) fp) where
  N := h.N
  sc := by
    show relabel scope X.env = relS scope c.sc
    rw [← h.sc]
    rfl
  fn := rfl
  nd := h.nd
  K := h.K
  calm := h.calm
  rm := h.rm
  exs := fun x f e => h.exs x f e
  prs := fun x y e1 e2 => h.prs x y e1 e2
  nof := fun x f e1 e2 => h.nof x f e1 e2
  un := h.un
  tk := fun u s' ⟨_, _, _, _, _, _, _, _, _, _, _, _, _, _, _, _, w⟩ => w
  fns := fun x f e => h.fns x f e
  cst := fun x p e => h.cst x p e
  blt := h.blt
/-- a try's body -/
theorem COk.tr {c : MC F} {call : F → List Sl → CR} {G : Gc} {W W' : WX} {X : Cx} (h : COk c call G W X) {pn : List (Addr × Obj)} {xe : Value → Shared → Prop} (t : Takes (X.tr pn xe) W') : COk c call G W' (X.tr pn xe) where
  N := h.N
  sc := h.sc
  fn := h.fn
  nd := h.nd
  K := h.K
  calm := h.calm
  rm := h.rm
  un := h.un
  tk := t
  fns := fun x f e => h.fns x f e
  cst := fun x p e => h.cst x p e
  blt := h.blt
  exs := fun x f e => h.exs x f e
  prs := fun x y e1 e2 => h.prs x y e1 e2
  nof := fun x f e1 e2 => h.nof x f e1 e2
theorem COk.suite {c : MC F} {call : F → List Sl → CR} {G : Gc} {W : WX} {X : Cx} (h : COk c call G W X) (a : Addr) (pn : List (Addr × Obj)) : COk c.hotOf call G Wf (X.suite a pn) where
  N := h.N
  sc := h.sc
  fn := h.fn
  nd := h.nd
  K := h.K
  calm := fun z => nomatch z
  rm := fun z => nomatch z
  un := h.un
  tk := fun u s' ⟨_, _, _, _, _, _, _, _, _, _, _, _, _, _, _, _, w⟩ => w
  fns := fun x f e => nomatch e
  cst := fun x p e => h.cst x p e
  blt := h.blt
  exs := fun x f e => nomatch e
  prs := fun x y e1 e2 => nomatch e1
  nof := fun x f e1 e2 => nomatch e1
end
end Mi

set_option Elab.async false
set_option linter.all false
set_option maxRecDepth 100000
set_option maxHeartbeats 4000000
/-! What the matcher needs of the text's shapes. -/
namespace Mi
open PySem PySem.Spec PyProof.Rows L2

def isLC : Expr → Bool
  | .ListComp .. | .SetComp .. | .DictComp .. => true
  | _ => false
def isSetD : Expr → Bool
  | .Set .. => true
  | _ => false
def isTupD : Expr → Bool
  | .Tuple .. => true
  | _ => false
def isSlc : Expr → Bool
  | .Slice .. => true
  | _ => false
theorem noSwap {v : Expr} {tg : Option Expr} {line : Nat} {env : Env} (h : isLC v = false) : swapsWith v tg line env = pure false := by
  cases v <;> first | rfl | (simp [isLC] at h)
theorem noSwapSole {v tg : Expr} {line : Nat} {env : Env} (h : isLC v = false) : swapsWithSole [tg] v line env = pure false := noSwap h
theorem noSwapped {v : Expr} {tgs : List Expr} {env : Env} (h : isTupD v = false) : swappedStores tgs v env = pure none := by
  cases v <;> first | (simp [isTupD] at h; done) | skip
  all_goals
    unfold swappedStores
    cases tgs with
    | nil => rfl
    | cons t ts => cases t <;> cases ts <;> rfl
theorem unfolded {it : Expr} {env : Env} (h : isSetD it = false) : ∀ x, foldedSetIterable it env x = pure x := fun x => by
  cases it <;> first | rfl | (simp [isSetD] at h)
theorem plainIx {b : Expr} (h : isSlc b = false) : PlainIx b := fun o i => by
  cases b <;> first | rfl | (simp [isSlc] at h)

/-! ### names -/
def visB (sc : Scope) (x : Str) : Bool := match sc.names.lookup x with
  | some .local => true | some .cell => true | some .free => true | _ => false
theorem visB_ok {sc : Scope} {x : Str} (h : visB sc x = true) : Vis sc x := by
  unfold visB at h
  unfold Vis
  cases e : sc.names.lookup x with
  | none => rw [e] at h; cases h
  | some k => rw [e] at h; cases k <;> first | (simp; done) | cases h
def locB (sc : Scope) (x : Str) : Bool := match sc.names.lookup x with
  | some .local => true | some .cell => true | _ => false
theorem locB_ok {sc : Scope} {x : Str} (h : locB sc x = true) : L2.Loc sc x := by
  unfold locB at h
  unfold L2.Loc
  cases e : sc.names.lookup x with
  | none => rw [e] at h; cases h
  | some k => rw [e] at h; cases k <;> first | (simp; done) | cases h
def glbB (sc : Scope) (x : Str) : Bool := match sc.names.lookup x with
  | some .globalImplicit => true | _ => false
theorem glbB_ok {X : Cx} {x : Str} (h : glbB X.env.scope x = true) : Gl X x := by
  unfold glbB at h
  show X.env.scope.names.lookup x = _
  cases e : X.env.scope.names.lookup x with
  | none => rw [e] at h; cases h
  | some k => rw [e] at h; cases k <;> first | rfl | cases h
def okN (x : Str) : Bool := !(x == ("__debug__" : Str)) && !(x == ("__classdict__" : Str)) && !(x == ("__name__" : Str))
theorem okN_ok {x : Str} (h : okN x = true) : (x == ("__debug__" : Str)) = false ∧ (x == ("__classdict__" : Str)) = false ∧ x ≠ "__name__" := by
  unfold okN at h
  simp only [Bool.and_eq_true, Bool.not_eq_true'] at h
  exact ⟨h.1.1, h.1.2, fun e => by rw [e] at h; simp at h⟩

/-! ### operators, built-ins -/
def opOf : Pr → Operator → Bool
  | .add, .Add | .sub, .Sub | .mul, .Mult | .mod, .Mod | .fdiv, .FloorDiv | .pow, .Pow | .shl, .LShift | .shr, .RShift => true
  | _, _ => false
def cmpOf : Pr → CmpOp → Bool
  | .eq, .Eq | .ne, .NotEq | .lt, .Lt | .le, .LtE | .gt, .Gt | .ge, .GtE | .isIn, .In | .notIn, .NotIn => true
  | _, _ => false
def bltName : Pr → Nat → Option Str
  | .len, 1 => some "len" | .tuple, 1 => some "tuple" | .list, 1 => some "list" | .sorted, 1 => some "sorted" | .sum, 1 => some "sum" | .abs, 1 => some "abs"
  | .str, 1 => some "str" | .int, 1 => some "int" | .min1, 1 => some "min" | .max1, 1 => some "max" | .min2, 2 => some "min" | .max2, 2 => some "max"
  | .dictP, 1 => some "dict"
  | _, _ => none
section
variable {F : Type} {call : F → List Sl → CR} {G : Gc} {W : WX} {X : Cx} {e1 e2 : Ex F} {a b : Expr} {pos : Pos}
theorem bin_of {p : Pr} {op : Operator} (hG : G.K = X.K ∧ G.w = X.w) (h : opOf p op = true) (ha : PE X a (tE G W call e1)) (hb : PE X b (tE G W call e2)) : PE X (.BinOp a op b pos) (tE G W call (.pr p [e1, e2])) := by
  obtain ⟨hK, hw⟩ := hG
  cases p <;> cases op <;> first | (simp only [opOf] at h; cases h; done) | skip
  · exact f_bin (r := rAdd') (by rw [hK, hw]; exact op_add') ok_add ha hb
  · exact f_bin (r := fun _ _ => rI0 fun i j => .int (i - j)) op_sub ok_sub ha hb
  · exact f_bin (r := rMul') (by rw [hK, hw]; exact op_mul') ok_mul ha hb
  · exact f_bin (r := fun _ _ => rI (fun _ j => 0 < j) fun i j => .int (i % j)) op_mod ok_mod ha hb
  · exact f_bin (r := fun _ _ => rI CDiv fun i j => .int (i / j)) op_fdiv ok_fdiv ha hb
  · exact f_bin (r := fun _ _ => rI CPow fun i j => .int (i ^ j.toNat)) op_pow ok_pow ha hb
  · exact f_bin (r := fun _ _ => rI CPow fun i j => .int (i * 2 ^ j.toNat)) op_shl ok_shl ha hb
  · exact f_bin (r := fun _ _ => rI (fun _ j => 0 ≤ j) fun i j => .int (i / 2 ^ j.toNat)) op_shr ok_shr ha hb
/-- a comparison's rule -/
theorem cmp_rule {p : Pr} {op : CmpOp} (hu : X.A.units + 100 < cLine) (hG : G.K = X.K ∧ G.w = X.w) (h : cmpOf p op = true) : ∃ r : PySem.W.Frag → World → R2, OpR X (compareOp op) (r G.K G.w) ∧ PrOk p (ofR2 r) := by
  obtain ⟨hK, hw⟩ := hG
  rw [hK, hw]
  cases p <;> cases op <;> first | (simp only [cmpOf] at h; cases h; done) | skip
  · exact ⟨_, op_eqN (by omega), ok_eq⟩
  · exact ⟨_, op_neN (by omega), ok_ne⟩
  · exact ⟨_, op_lt', ok_cmp rfl rfl⟩
  · exact ⟨_, op_le', ok_cmp rfl rfl⟩
  · exact ⟨_, op_gt', ok_cmp rfl rfl⟩
  · exact ⟨_, op_ge', ok_cmp rfl rfl⟩
  · exact ⟨_, op_in' (by omega), ok_isIn⟩
  · exact ⟨_, op_notIn' (by omega), ok_notIn⟩
theorem cmp_of {p : Pr} {op : CmpOp} (hu : X.A.units + 100 < cLine) (hG : G.K = X.K ∧ G.w = X.w) (h : cmpOf p op = true) (ha : PE X a (tE G W call e1)) (hb : PE X b (tE G W call e2)) (hs : isSet b = false) : PE X (.Compare a [op] [b] pos) (tE G W call (.pr p [e1, e2])) := by
  obtain ⟨r, h1, h2⟩ := cmp_rule hu hG h
  exact f_cmp h1 h2 ha hb hs
theorem cmpT_of {p : Pr} {op : CmpOp} (hu : X.A.units + 100 < cLine) (hG : G.K = X.K ∧ G.w = X.w) (h : cmpOf p op = true) (ha : PE X a (tE G W call e1)) (hb : PE X b (tE G W call e2)) (hs : isSet b = false) : PT X (.Compare a [op] [b] pos) (tT call G W (.pr p [e1, e2])) := by
  obtain ⟨r, h1, h2⟩ := cmp_rule hu hG h
  exact t_cmp h1 h2 ha hb hs
theorem boot_len : bootBuiltins "len" = some (.builtin "len") := by decide +kernel
theorem boot_sorted : bootBuiltins "sorted" = some (.builtin "sorted") := by decide +kernel
theorem boot_sum : bootBuiltins "sum" = some (.builtin "sum") := by decide +kernel
theorem boot_abs : bootBuiltins "abs" = some (.builtin "abs") := by decide +kernel
theorem boot_min : bootBuiltins "min" = some (.builtin "min") := by decide +kernel
theorem boot_max : bootBuiltins "max" = some (.builtin "max") := by decide +kernel
theorem boot_isi : bootBuiltins "isinstance" = some (.builtin "isinstance") := by decide +kernel
theorem boot_tuple : bootBuiltins "tuple" = some (.type "tuple") := by decide +kernel
theorem boot_list : bootBuiltins "list" = some (.type "list") := by decide +kernel
theorem boot_str : bootBuiltins "str" = some (.type "str") := by decide +kernel
theorem boot_int : bootBuiltins "int" = some (.type "int") := by decide +kernel
theorem boot_dict : bootBuiltins "dict" = some (.type "dict") := by decide +kernel
theorem boot_bool : bootBuiltins "bool" = some (.type "bool") := by decide +kernel
variable {p : Pr} {es : List (Ex F)} {as : List Expr} {x : Str} {p' : Pos}
theorem blt_of (hc : X.calm = true) (hu : X.A.units + 100 < cLine) (hG : G.K = X.K ∧ G.w = X.w) (hx : bltName p (a :: as).length = some x) (hg : Gl X x) (hm : X.mg x = none) (h : PEs G W call X es (a :: as)) (hn : noStars (a :: as)) :
    PE X (.Call (.Name x p') (a :: as) [] pos) (tE G W call (.pr p es)) := by
  obtain ⟨hK, hw⟩ := hG
  have key : ∀ (v : Value) (r : RP), ((∃ id, v = .builtin id) ∨ ∃ T, v = .type T) → CallP X v r → PrOk p r → bootBuiltins x = some v → x ≠ "__name__" → (x == ("__debug__" : Str)) = false → PE X (.Call (.Name x p') (a :: as) [] pos) (tE G W call (.pr p es)) := by
    intro v r hv hcl hp hb h1 h2
    rcases hv with ⟨id, rfl⟩ | ⟨T, rfl⟩
    · exact f_callB (r := r) (by rw [hK, hw]; exact hcl) hp hg hm hb h hn h1 h2
    · exact f_callTy (r := r) (by rw [hK, hw]; exact hcl) hp hg hm hb h hn h1 h2
  generalize hlen : (a :: as).length = n at hx
  match p, n, hx with
  | .len, 1, hx => cases hx; exact key _ _ (.inl ⟨_, rfl⟩) cl_len ok_len boot_len (by decide) (by decide)
  | .tuple, 1, hx => cases hx; exact key _ _ (.inr ⟨_, rfl⟩) cl_tuple ok_tuple boot_tuple (by decide) (by decide)
  | .list, 1, hx => cases hx; exact key _ _ (.inr ⟨_, rfl⟩) (cl_list hc) ok_list boot_list (by decide) (by decide)
  | .sorted, 1, hx => cases hx; exact key _ _ (.inl ⟨_, rfl⟩) (cl_sorted (by omega)) ok_sorted boot_sorted (by decide) (by decide)
  | .sum, 1, hx => cases hx; exact key _ _ (.inl ⟨_, rfl⟩) (cr_sum hc) ok_sum boot_sum (by decide) (by decide)
  | .abs, 1, hx => cases hx; exact key _ _ (.inl ⟨_, rfl⟩) call_abs ok_abs boot_abs (by decide) (by decide)
  | .str, 1, hx => cases hx; exact key _ _ (.inr ⟨_, rfl⟩) call_str_int ok_str boot_str (by decide) (by decide)
  | .int, 1, hx => cases hx; exact key _ _ (.inr ⟨_, rfl⟩) cl_int ok_int boot_int (by decide) (by decide)
  | .min1, 1, hx => cases hx; exact key _ _ (.inl ⟨_, rfl⟩) (cr_min hc) ok_min1 boot_min (by decide) (by decide)
  | .max1, 1, hx => cases hx; exact key _ _ (.inl ⟨_, rfl⟩) (cr_max hc) ok_max1 boot_max (by decide) (by decide)
  | .min2, 2, hx => cases hx; exact key _ _ (.inl ⟨_, rfl⟩) (call_min2 hc) ok_min2 boot_min (by decide) (by decide)
  | .max2, 2, hx => cases hx; exact key _ _ (.inl ⟨_, rfl⟩) (call_max2 hc) ok_max2 boot_max (by decide) (by decide)
  | .dictP, 1, hx => cases hx; exact key _ _ (.inr ⟨_, rfl⟩) (cl_dictP hc (by omega)) ok_dictP boot_dict (by decide) (by decide)
theorem boot_ty (t : Ty) : bootBuiltins (t.name : Str) = some (.type t.name) := by
  cases t
  · exact boot_int
  · exact boot_bool
  · exact boot_str
  · exact boot_list
  · exact boot_tuple
  · exact boot_dict
/-- isinstance(e, T) -/
theorem f_isi {t : Ty} {p1 p2 : Pos} (hG : G.K = X.K ∧ G.w = X.w) (hg : Gl X "isinstance") (hm : X.mg "isinstance" = none) (hg2 : Gl X t.name) (hm2 : X.mg t.name = none) (ha : PE X a (tE G W call e1)) (hs : isStar a = false) :
    PE X (.Call (.Name "isinstance" p1) [a, .Name t.name p2] [] pos) (tE G W call (.pr (.isi t) [e1])) := by
  obtain ⟨hK, hw⟩ := hG
  have hn2 : (t.name : Str) ≠ "__name__" := by cases t <;> decide
  have hd2 : ((t.name : Str) == ("__debug__" : Str)) = false := by cases t <;> decide
  have hty : PE X (.Name t.name p2) (tC (tyV t)) := pe_bltn hg2 hm2 (boot_ty t) rfl hn2 hd2
  have pa : PA X [a, .Name t.name p2] _ := pa_cons ha (pa_cons hty pa_nil (star_cons rfl)) (star_cons hs)
  refine (pe_callB (call_isi (X := X)) hg hm boot_isi pa (by decide) (by decide) (star_cons hs) (star_none fun b hb => by obtain rfl := List.mem_singleton.mp hb; rfl)).imp fun σ H Q q => ?_
  have q1 := pr_args (ok_isi t) q
  have q2 := tEs_cons q1
  refine q2.mono fun x H1 h1 => ?_
  have h2 := tEs_nil h1
  obtain ⟨y, e, h3⟩ := h2
  cases e
  rw [← hK]
  exact h3
theorem f_isNotTF {p : Pr} {c : Bool} {j : Nat} {pos' : Pos} (hp : PrOk p (ofR1 (rTru' (!c)))) (ha : PE X a (tE G W call e1)) : PE X (.Compare a [.IsNot] [.Constant (.bool c) j pos'] pos) (tE G W call (.pr p [e1])) :=
  (pe_cmpR op_isnot_bl ha pe_bl rfl).imp fun σ H Q q => (tEs_one (pr_args hp q)).mono fun x H1 h => by
    obtain ⟨b, rfl, h⟩ := h
    refine ⟨b, c, rfl, rfl, ?_⟩
    have e : (!decide (b = c)) = (b == !c) := by cases b <;> cases c <;> rfl
    rw [e]; exact h
theorem t_isNotTF {p : Pr} {c : Bool} {j : Nat} {pos' : Pos} (hp : PrOk p (ofR1 (rTru' (!c)))) (ha : PE X a (tE G W call e1)) : PT X (.Compare a [.IsNot] [.Constant (.bool c) j pos'] pos) (tT call G W (.pr p [e1])) :=
  (pt_cmpR op_isnot_bl ha pe_bl rfl).imp fun σ H Q q => (tEs_one (pr_args hp (tT_val q))).mono fun x H1 h => by
    obtain ⟨b, rfl, h⟩ := h
    refine ⟨b, c, rfl, rfl, ?_⟩
    have e : (!decide (b = c)) = (b == !c) := by cases b <;> cases c <;> rfl
    rw [e]; exact h
/-- is, is not -/
def isOf : Pr → CmpOp → Expr → Bool
  | .isNon, .Is, .Constant .none _ _ | .notNon, .IsNot, .Constant .none _ _ => true
  | .isTrue, .Is, .Constant (.bool true) _ _ | .isTrue, .IsNot, .Constant (.bool false) _ _ => true
  | .isFalse, .Is, .Constant (.bool false) _ _ | .isFalse, .IsNot, .Constant (.bool true) _ _ => true
  | _, _, _ => false
theorem is_both {p : Pr} {op : CmpOp} (h : isOf p op b = true) (ha : PE X a (tE G W call e1)) : PE X (.Compare a [op] [b] pos) (tE G W call (.pr p [e1])) ∧ PT X (.Compare a [op] [b] pos) (tT call G W (.pr p [e1])) := by
  unfold isOf at h
  split at h
  · exact ⟨f_isNon ha, t_isNon ha⟩
  · exact ⟨f_notNon ha, t_notNon ha⟩
  · exact ⟨f_isTF (c := true) (ok_isTF rfl rfl) ha, t_isTF (c := true) (ok_isTF rfl rfl) ha⟩
  · exact ⟨f_isNotTF (c := false) (ok_isTF rfl rfl) ha, t_isNotTF (c := false) (ok_isTF rfl rfl) ha⟩
  · exact ⟨f_isTF (c := false) (ok_isTF rfl rfl) ha, t_isTF (c := false) (ok_isTF rfl rfl) ha⟩
  · exact ⟨f_isNotTF (c := true) (ok_isTF rfl rfl) ha, t_isNotTF (c := true) (ok_isTF rfl rfl) ha⟩
  · cases h
end
end Mi

set_option Elab.async false
set_option linter.all false
set_option maxRecDepth 100000
set_option maxHeartbeats 4000000
/-! Chains of two comparisons of numbers. -/
namespace Mi
open PySem PySem.Spec PyProof.Rows L2
section
variable {F : Type} {call : F → List Sl → CR} {G : Gc} {W : WX} {X : Cx} {σ : L2.St} {H : Hp}
/-- a temporary that is a number needs not be kept -/
theorem int_drop {α γ δ : Type} {i : Int} {v : V} {Te L Θ : List Ent} {ρ1 : Evn} {h : Evn → R γ} {rel3 : L2.St → γ → δ → List Ent → Prop} {Q : δ → Hp → Prop} {H1 : Hp}
    (l : Loc σ ρ1 L) (r : TmE σ (.v (.int i)) v Te) (st : Stt G.K G.w H1 (L ++ (Te ++ Θ)))
    (o : Out G W σ Θ (h ρ1) fun c ρ' => ∀ b H' L' Te, Loc σ ρ' L' → rel3 σ c b Te → Stt G.K G.w H' (L' ++ (Te ++ Θ)) → Q b H') : v = .int i ∧ tR G W h rel3 σ H1 Q := by
  obtain ⟨z, rfl⟩ := r
  have st' := st.perm (perm3 L _ Θ)
  obtain ⟨_, _, u, e1, e2⟩ := st'.ok _ List.mem_cons_self
  cases e1
  cases e2
  exact ⟨rfl, ρ1, L, Θ, l, st'.tail, o⟩
/-- a comparison of two numbers -/
theorem int_cmp {p : Pr} {r : PySem.W.Frag → World → R2} {i j : Int} {k : Bool} {Q : VK} {α γ : Type} {f : Evn → R α} {rel : L2.St → α → γ → List Ent → Prop} {Q' : γ → Hp → Prop} (hp : PrOk p (ofR2 r)) (he : evP p [.int i, .int j] = some (.bl k))
    (q : tR G W f rel σ H Q') (hq : ∀ H', tR G W f rel σ H' Q' → Q (.bl k) H') : r G.K G.w (.int i) (.int j) H Q := by
  obtain ⟨ρ, L, Θ, l, st, o⟩ := q
  have key := hp G.K G.w H (fun _ => False) [.int i, .int j] [.int i, .int j] (.bl k) Q ⟨_, _, rfl, rfl, _, _, rfl, rfl, rfl⟩ he fun v H' res => by
    obtain ⟨x, res⟩ := res
    have e : mkTm p.fresh (.bl k) = .v (.bl k) := rfl
    rw [e] at res
    cases res
    exact hq H' ⟨ρ, L, Θ, l, st.ext x, o⟩
  obtain ⟨x, y, e, h⟩ := key
  cases e
  exact h
theorem chainV {p q : Pr} {r r' : PySem.W.Frag → World → R2} {e1 e2 e3 : Ex F} {Q : VK} (hp : PrOk p (ofR2 r)) (hq : PrOk q (ofR2 r')) (h : tE G W call (.chain p q e1 e2 e3) σ H Q) :
    tChain (r G.K G.w) (r' G.K G.w) (tE G W call e1) (tE G W call e2) (tE G W call e3) σ H Q := by
  have h1 : tR G W (fun ρ => (evE call e1 ρ).bd fun t1 ρ1 => match t1 with
    | .v (.int i) => (evE call e2 ρ1).bd fun t2 ρ2 => (match t2 with
      | .v (.int j) => (match evP p [.int i, .int j] with
        | some (.bl true) => (evE call e3 ρ2).bd fun t3 ρ3 => (match t3 with
          | .v (.int k) => (match evP q [.int j, .int k] with | some (.bl m) => .ok (.v (.bl m)) ρ3 | _ => .no)
          | _ => .no)
        | some (.bl false) => .ok (.v (.bl false)) ρ2
        | _ => .no)
      | _ => .no)
    | _ => .no) TmE σ H Q := tR_eq (fun ρ => by simp only [evE] <;> rfl) h
  refine (tR.thn (rel := TmE) h1).mono fun x H1 h2 => ?_
  obtain ⟨t, ρ1, L, Θ, Te, l, r1, st, o⟩ := h2
  split at o
  · rename_i i
    obtain ⟨rfl, h3⟩ := int_drop (h := fun ρ => (evE call e2 ρ).bd fun t2 ρ2 => (match t2 with
      | .v (.int j) => (match evP p [.int i, .int j] with
        | some (.bl true) => (evE call e3 ρ2).bd fun t3 ρ3 => (match t3 with
          | .v (.int k) => (match evP q [.int j, .int k] with | some (.bl m) => .ok (.v (.bl m)) ρ3 | _ => .no)
          | _ => .no)
        | some (.bl false) => .ok (.v (.bl false)) ρ2
        | _ => .no)
      | _ => .no)) (α := Unit) (γ := Tm) (δ := V) (rel3 := TmE) (W := W) l r1 st o
    refine (tR.thn (rel := TmE) h3).mono fun y H2 h4 => ?_
    obtain ⟨t, ρ1, L, Θ, Te, l, r1, st, o⟩ := h4
    split at o
    · rename_i j
      split at o
      · rename_i he
        obtain ⟨rfl, h5⟩ := int_drop (h := fun ρ => (evE call e3 ρ).bd fun t3 ρ3 => (match t3 with
          | .v (.int k) => (match evP q [.int j, .int k] with | some (.bl m) => .ok (.v (.bl m)) ρ3 | _ => .no)
          | _ => .no)) (α := Unit) (γ := Tm) (δ := V) (rel3 := TmE) (W := W) l r1 st o
        refine int_cmp hp he h5 fun H3 h6 => ⟨true, rfl, ?_⟩
        rw [if_pos rfl]
        refine (tR.thn (rel := TmE) h6).mono fun y H2 h7 => ?_
        obtain ⟨t, ρ1, L, Θ, Te, l, r1, st, o⟩ := h7
        split at o
        · rename_i k
          split at o
          · rename_i m he2
            obtain ⟨rfl, h8⟩ := int_drop (h := fun ρ => .ok (.v (.bl m)) ρ) (α := Unit) (γ := Tm) (δ := V) (rel3 := TmE) (W := W) l r1 st o
            exact int_cmp hq he2 h8 fun H3 h9 => bl_ok h9
          · exact o.elim
        · exact o.elim
      · rename_i he
        obtain ⟨rfl, h5⟩ := int_drop (h := fun ρ => .ok (.v (.bl false)) ρ) (α := Unit) (γ := Tm) (δ := V) (rel3 := TmE) (W := W) l r1 st o
        refine int_cmp hp he h5 fun H3 h6 => ⟨false, rfl, ?_⟩
        rw [if_neg (by decide)]
        exact bl_ok h6
      · exact o.elim
    · exact o.elim
  · exact o.elim
def lastM (op : CmpOp) (b : Expr) : Bool := !isSet b
variable {e1 e2 e3 : Ex F} {a b c : Expr} {pos : Pos} {p q : Pr} {op op' : CmpOp}
theorem lastMk {op op' : CmpOp} {b c : Expr} (h : isSet c = false) (h' : isSet b = false) : lastMarks [op, op'] [b, c] = false := by
  cases b <;> cases c <;> first | rfl | (simp only [isSet] at h h'; first | cases h | cases h')
theorem e_chain (hu : X.A.units + 100 < cLine) (hG : G.K = X.K ∧ G.w = X.w) (h : cmpOf p op = true) (h' : cmpOf q op' = true) (ha : PE X a (tE G W call e1)) (hb : PE X b (tE G W call e2)) (hc : PE X c (tE G W call e3)) (hs : isSet c = false) (hs' : isSet b = false) :
    PE X (.Compare a [op, op'] [b, c] pos) (tE G W call (.chain p q e1 e2 e3)) := by
  obtain ⟨r, k1, k2⟩ := cmp_rule hu hG h
  obtain ⟨r', k3, k4⟩ := cmp_rule hu hG h'
  exact (pe_chain k1 k3 ha hb hc (lastMk hs hs')).imp fun σ H Q q => chainV k2 k4 q
theorem t_chain (hu : X.A.units + 100 < cLine) (hG : G.K = X.K ∧ G.w = X.w) (h : cmpOf p op = true) (h' : cmpOf q op' = true) (ha : PE X a (tE G W call e1)) (hb : PE X b (tE G W call e2)) (hc : PE X c (tE G W call e3)) (hs : isSet c = false) (hs' : isSet b = false) :
    PT X (.Compare a [op, op'] [b, c] pos) (tT call G W (.chain p q e1 e2 e3)) := by
  obtain ⟨r, k1, k2⟩ := cmp_rule hu hG h
  obtain ⟨r', k3, k4⟩ := cmp_rule hu hG h'
  exact (pt_chain k1 k3 ha hb hc (lastMk hs hs')).imp fun σ H Q q => chainV k2 k4 (tT_val q)
end
end Mi

set_option Elab.async false
set_option linter.all false
set_option maxRecDepth 100000
set_option maxHeartbeats 4000000
/-! The matcher of expressions. -/
namespace Mi
open PySem PySem.Spec PyProof.Rows L2

section
variable {F : Type} [DecidableEq F]
def allM (f : Ex F → Expr → Bool) : List (Ex F) → List Expr → Bool
  | [], [] => true
  | e :: es, a :: as => f e a && allM f es as
  | _, _ => false
def starsB (as : List Expr) : Bool := as.all fun a => !isStar a
def mName (c : MC F) (i : Nat) (a : Expr) : Bool := match a with
  | .Name x _ => decide (c.N[i]? = some x) && visB c.sc x && okN x
  | _ => false
def mTg1 (c : MC F) (i : Nat) (a : Expr) : Bool := match a with
  | .Name x _ => decide (c.N[i]? = some x) && locB c.sc x && (c.fn x || decide (c.sc.names.lookup x = some .local))
  | _ => false
def mTgs (c : MC F) : List Nat → List Expr → Bool
  | [], [] => true
  | i :: is, a :: as => mTg1 c i a && mTgs c is as
  | _, _ => false
def mTg (c : MC F) (t : Tg) (a : Expr) : Bool := match t with
  | .n i => mTg1 c i a
  | .t is => match a with
    | .Tuple as _ _ => !c.hot && mTgs c is as
    | _ => false
def mCn (k : Cn) (a : Expr) : Bool := match a with
  | .Constant k' _ _ => (match k, k' with
    | .non, .none => true
    | .bl b, .bool b' => b == b'
    | .int i, .int i' => decide (i = i')
    | .str s, .str s' => decide (s = s')
    | _, _ => false)
  | _ => false
def mGl (c : MC F) (x : Str) (p : PV) (a : Expr) : Bool := match a with
  | .Name y _ => decide (x = y) && glbB c.sc x && okN x && (match c.cst.lookup x with | some q => decide (q = p) | none => false)
  | _ => false
def mCmp (f : Ex F → Expr → Bool) (p : Pr) (es : List (Ex F)) (a : Expr) : Bool := match a with
  | .Compare l [op] [r] _ => (match es with
    | [e1, e2] => cmpOf p op && f e1 l && f e2 r && !isSet r
    | [e1] => isOf p op r && f e1 l
    | _ => false)
  | _ => false
def mBin (f : Ex F → Expr → Bool) (p : Pr) (es : List (Ex F)) (a : Expr) : Bool := match a, es with
  | .BinOp l op r _, [e1, e2] => opOf p op && f e1 l && f e2 r
  | .UnaryOp .USub l _, [e1] => decide (p = .neg) && f e1 l
  | _, _ => false
def mSub (f : Ex F → Expr → Bool) (p : Pr) (es : List (Ex F)) (a : Expr) : Bool := match a with
  | .Subscript o (.Slice lo hi st _) _ => (match es, lo, hi, st with
    | [e1], none, none, none => decide (p = .slc false false) && f e1 o
    | [e1, e2], some b, none, none => decide (p = .slc true false) && f e1 o && f e2 b
    | [e1, e2], none, some b, none => decide (p = .slc false true) && f e1 o && f e2 b
    | [e1], none, none, some (.UnaryOp .USub (.Constant (.int 1) _ _) _) => decide (p = .rev) && f e1 o
    | _, _, _, _ => false)
  | .Subscript o i _ => (match es with
    | [e1, e2] => decide (p = .ix) && f e1 o && f e2 i && !isSlc i
    | _ => false)
  | _ => false
def mBlt (f : Ex F → Expr → Bool) (c : MC F) (p : Pr) (es : List (Ex F)) (a : Expr) : Bool := match a with
  | .Call (.Name x _) as [] _ => !c.hot && decide (bltName p as.length = some x) && glbB c.sc x && starsB as && allM f es as
  | _ => false
def mIsi (f : Ex F → Expr → Bool) (c : MC F) (p : Pr) (es : List (Ex F)) (a : Expr) : Bool := match p, es, a with
  | .isi t, [e1], .Call (.Name x _) [a1, .Name y _] [] _ => decide (x = "isinstance") && decide (y = t.name) && glbB c.sc x && glbB c.sc y && f e1 a1 && !isStar a1
  | _, _, _ => false
def meName : Pr → Nat → Option Str
  | .join, 1 => some "join" | .split, 1 => some "split" | .index, 1 => some "index" | .get1, 1 => some "get" | .get2, 2 => some "get"
  | _, _ => none
def muName : Mu → Nat → Option Str
  | .append, 1 => some "append" | .pop, 0 => some "pop" | .reverse, 0 => some "reverse" | .extend, 1 => some "extend"
  | _, _ => none
def mMe (f : Ex F → Expr → Bool) (p : Pr) (e : Ex F) (es : List (Ex F)) (a : Expr) : Bool := match a with
  | .Call (.Attribute o name apos) as [] cpos => decide (meName p as.length = some name) && f e o && allM f es as && starsB as && okBase o && (apos.endLine == cpos.line)
  | _ => false
def mMu (f : Ex F → Expr → Bool) (c : MC F) (m : Mu) (i : Nat) (es : List (Ex F)) (a : Expr) : Bool := match a with
  | .Call (.Attribute o name apos) as [] cpos => decide (muName m as.length = some name) && mName c i o && allM f es as && starsB as && (apos.endLine == cpos.line)
  | _ => false
def mCall (f : Ex F → Expr → Bool) (c : MC F) (g : F) (es : List (Ex F)) (a : Expr) : Bool := match a with
  | .Call (.Name x _) (a1 :: as) [] _ => decide (c.fns.lookup x = some g) && glbB c.sc x && okN x && starsB (a1 :: as) && allM f es (a1 :: as)
  | _ => false
def mIt (f : Ex F → Expr → Bool) (c : MC F) (it : Ex F) (a : Expr) : Bool := match a with
  | .Call (.Name x _) as [] _ => if x = "range" then (match it, as with
      | .pr .range1 [e1], [a1] => glbB c.sc x && f e1 a1 && !isStar a1
      | .pr .range2 [e1, e2], [a1, a2] => glbB c.sc x && f e1 a1 && f e2 a2 && !isStar a1 && !isStar a2
      | _, _ => false) else f it a
  | _ => f it a
def ownOf (c : MC F) (ws : List Nat) : List (Str × Nat) := ws.map fun i => (c.N.getD i "", i)
def mBlk (c : MC F) (scope : Scope) (ws : List Nat) (t : Tg) (tg iter : Expr) : Bool := !c.hot && blkC c.N c.sc scope (ownOf c ws) && mTg (c.blk scope) t tg && (t.is.all fun i => decide (i ∈ ws)) && !isSetD iter
def mIfs (f : Ex F → Expr → Bool) : List (Ex F) → List Expr → Bool
  | [], [] => true
  | [e], [a] => f e a
  | _, _ => false
def mM : Nat → Bool → MC F → Ex F → Expr → Bool
  | 0, _, _, _, _ => false
  | n + 1, test, c, e, a => match e with
    | .nev => true
    | .and es => (match a with | .BoolOp .And as _ => !es.isEmpty && allM (mM n test c) es as | _ => false)
    | .or es => (match a with | .BoolOp .Or as _ => !es.isEmpty && allM (mM n test c) es as | _ => false)
    | .not e1 => (match a with | .UnaryOp .Not a1 _ => mM n test c e1 a1 | _ => false)
    | .chain p q e1 e2 e3 => (match a with
      | .Compare a1 [op, op'] [a2, a3] _ => cmpOf p op && cmpOf q op' && mM n false c e1 a1 && mM n false c e2 a2 && mM n false c e3 a3 && !isSet a3 && !isSet a2
      | _ => false)
    | .pr p es => mCmp (mM n false c) p es a || ((!test || plainT a) && (mBin (mM n false c) p es a || mSub (mM n false c) p es a || mBlt (mM n false c) c p es a || mIsi (mM n false c) c p es a))
    | .var i => (!test || plainT a) && mName c i a
    | .mv i => (!test || plainT a) && mName c i a
    | .fz i => (!test || plainT a) && mName c i a
    | .io i => (!test || plainT a) && mName c i a
    | .c k => (!test || plainT a) && mCn k a
    | .gl x p => (!test || plainT a) && mGl c x p a
    | .tup es => (!test || plainT a) && (match a with | .Tuple as _ _ => starsB as && allM (mM n false c) es as | _ => false)
    | .lst _ es => (!test || plainT a) && (match a with | .List as _ => starsB as && allM (mM n false c) es as | _ => false)
    | .cut e1 e2 e3 => (!test || plainT a) && (match a with | .Subscript o (.Slice (some b) (some d) none _) _ => mM n false c e1 o && mM n false c e2 b && mM n false c e3 d | _ => false)
    | .me p e1 es => (!test || plainT a) && mMe (mM n false c) p e1 es a
    | .mu m i es => (!test || plainT a) && mMu (mM n false c) c m i es a
    | .call g es => (!test || plainT a) && mCall (mM n false c) c g es a
    | .ite k x y => (!test || plainT a) && (match a with | .IfExp k' x' y' _ => mM n true c k k' && mM n false c x x' && mM n false c y y' | _ => false)
    | .lc _ e1 t ws it cs => (!test || plainT a) && (match a with
      | .ListComp elt [⟨tg, iter, ifs, 0⟩] scope _ => mBlk c scope ws t tg iter && mIt (mM n false c) c it iter && mIfs (mM n true (c.blk scope)) cs ifs && mM n false (c.blk scope) e1 elt
      | _ => false)
    | .dc 0 k e1 t ws it cs => (!test || plainT a) && (match a with
      | .DictComp kx vx [⟨tg, iter, ifs, 0⟩] scope _ => mBlk c scope ws t tg iter && mIt (mM n false c) c it iter && mIfs (mM n true (c.blk scope)) cs ifs && mM n false (c.blk scope) k kx && mM n false (c.blk scope) e1 vx
      | _ => false)
    | _ => false
end
end Mi

set_option Elab.async false
set_option linter.all false
set_option maxRecDepth 100000
set_option maxHeartbeats 4000000
/-! The matcher of expressions is right. -/
namespace Mi
open PySem PySem.Spec PyProof.Rows L2

section
variable {F : Type} [DecidableEq F] {call : F → List Sl → CR} {G : Gc} {W : WX} {X : Cx} {c : MC F} {f : Ex F → Expr → Bool}
abbrev Snd (f : Ex F → Expr → Bool) (call : F → List Sl → CR) (G : Gc) (W : WX) (X : Cx) : Prop := ∀ e a, f e a = true → PE X a (tE G W call e)
abbrev SndT (f : Ex F → Expr → Bool) (call : F → List Sl → CR) (G : Gc) (W : WX) (X : Cx) : Prop := ∀ e a, f e a = true → PT X a (tT call G W e)
theorem allM_PEs (h : Snd f call G W X) : ∀ {es : List (Ex F)} {as : List Expr}, allM f es as = true → PEs G W call X es as
  | [], [], _ => rfl
  | [], _ :: _, q => by simp [allM] at q
  | _ :: _, [], q => by simp [allM] at q
  | e :: es, a :: as, q => by
    simp only [allM, Bool.and_eq_true] at q
    exact ⟨a, as, rfl, h e a q.1, allM_PEs h q.2⟩
theorem allM_PTs (h : SndT f call G W X) : ∀ {es : List (Ex F)} {as : List Expr}, allM f es as = true → Mi.PTs G W call X es as
  | [], [], _ => rfl
  | [], _ :: _, q => by simp [allM] at q
  | _ :: _, [], q => by simp [allM] at q
  | e :: es, a :: as, q => by
    simp only [allM, Bool.and_eq_true] at q
    exact ⟨a, as, rfl, h e a q.1, allM_PTs h q.2⟩
theorem starsB_ok {as : List Expr} (h : starsB as = true) : noStars as := fun a m => by
  have := List.all_eq_true.mp h a m
  simpa using this
theorem mName_ok {i : Nat} {a : Expr} (k : COk c call G W X) (h : mName c i a = true) : ∃ x p, a = .Name x p ∧ X.N[i]? = some x ∧ Vis X.env.scope x ∧ (x == ("__debug__" : Str)) = false ∧ (x == ("__classdict__" : Str)) = false := by
  unfold mName at h
  split at h
  · rename_i x p
    simp only [Bool.and_eq_true, decide_eq_true_eq] at h
    refine ⟨x, p, rfl, by rw [k.N]; exact h.1.1, by rw [k.sc]; exact visB_ok h.1.2, (okN_ok h.2).1, (okN_ok h.2).2.1⟩
  · cases h
theorem mTg1_ok {i : Nat} {a : Expr} (k : COk c call G W X) (h : mTg1 c i a = true) : ∃ x p, a = .Name x p ∧ X.N[i]? = some x ∧ L2.Loc X.env.scope x ∧ (X.fn x = true ∨ X.env.scope.names.lookup x = some .local) := by
  unfold mTg1 at h
  split at h
  · rename_i x p
    simp only [Bool.and_eq_true, Bool.or_eq_true, decide_eq_true_eq] at h
    refine ⟨x, p, rfl, by rw [k.N]; exact h.1.1, by rw [k.sc]; exact locB_ok h.1.2, ?_⟩
    rw [k.fn, k.sc]
    exact h.2
  · cases h
theorem mTgs_ok (k : COk c call G W X) : ∀ {is : List Nat} {as : List Expr}, mTgs c is as = true → PGs X as (gNames is) ∧ (assignEach as X.env).length = is.length ∧ (assignEach as X.env).findIdx? (·.1) = none
  | [], [], _ => ⟨pgs_nil, rfl, rfl⟩
  | [], _ :: _, q => by simp [mTgs] at q
  | _ :: _, [], q => by simp [mTgs] at q
  | i :: is, a :: as, q => by
    simp only [mTgs, Bool.and_eq_true] at q
    obtain ⟨x, p, rfl, h1, h2, h3⟩ := mTg1_ok k q.1
    obtain ⟨g1, g2, g3⟩ := mTgs_ok k q.2
    refine ⟨pgs_cons (pg_name k.nd h1 h2 h3) g1 rfl, ?_, ?_⟩
    · show ((false, assign (.Name x p) X.env) :: assignEach as X.env).length = _
      rw [List.length_cons, g2]; rfl
    · show ((false, assign (.Name x p) X.env) :: assignEach as X.env).findIdx? (·.1) = none
      rw [List.findIdx?_cons, g3]; rfl
theorem mTg_ok {t : Tg} {a : Expr} (k : COk c call G W X) (h : mTg c t a = true) : PG X a (gT G.K t) := by
  cases t with
  | n i =>
    obtain ⟨x, p, rfl, h1, h2, h3⟩ := mTg1_ok k h
    exact pg_name k.nd h1 h2 h3
  | t is =>
    simp only [mTg] at h
    split at h
    · rw [Bool.and_eq_true, Bool.not_eq_true'] at h
      obtain ⟨g1, g2, g3⟩ := mTgs_ok k h.2
      rw [k.K.1]
      exact pg_tup (k.calm h.1) g1 g2 g3
    · cases h
theorem mCn_ok {kk : Cn} {a : Expr} (h : mCn kk a = true) : PE X a (tE G W call (.c kk)) := by
  unfold mCn at h
  split at h
  · split at h
    · exact f_non
    · obtain rfl := eq_of_beq h; exact f_bl
    · obtain rfl := of_decide_eq_true h; exact f_int
    · obtain rfl := of_decide_eq_true h; exact f_str
    · cases h
  · cases h
theorem mGl_ok {x : Str} {p : PV} {a : Expr} (k : COk c call G W X) (h : mGl c x p a = true) : PE X a (tE G W call (.gl x p)) := by
  unfold mGl at h
  split at h
  · rename_i y pos
    simp only [Bool.and_eq_true, decide_eq_true_eq] at h
    obtain ⟨⟨⟨rfl, h1⟩, h2⟩, h3⟩ := h
    split at h3
    · rename_i q hq
      obtain rfl := of_decide_eq_true h3
      exact f_gl (glbB_ok (by rw [k.sc]; exact h1)) (k.cst _ _ hq) (okN_ok h2).1
    · cases h3
  · cases h
theorem mCmp_ok {p : Pr} {es : List (Ex F)} {a : Expr} (k : COk c call G W X) (hf : Snd f call G W X) (h : mCmp f p es a = true) : PE X a (tE G W call (.pr p es)) ∧ PT X a (tT call G W (.pr p es)) := by
  unfold mCmp at h
  split at h
  · split at h
    · simp only [Bool.and_eq_true, Bool.not_eq_true'] at h
      obtain ⟨⟨⟨h1, h2⟩, h3⟩, h4⟩ := h
      exact ⟨cmp_of k.un k.K h1 (hf _ _ h2) (hf _ _ h3) h4, cmpT_of k.un k.K h1 (hf _ _ h2) (hf _ _ h3) h4⟩
    · simp only [Bool.and_eq_true] at h
      exact is_both h.1 (hf _ _ h.2)
    · cases h
  · cases h
theorem mBin_ok {p : Pr} {es : List (Ex F)} {a : Expr} (k : COk c call G W X) (hf : Snd f call G W X) (h : mBin f p es a = true) : PE X a (tE G W call (.pr p es)) := by
  unfold mBin at h
  split at h
  · simp only [Bool.and_eq_true] at h
    exact bin_of k.K h.1.1 (hf _ _ h.1.2) (hf _ _ h.2)
  · simp only [Bool.and_eq_true, decide_eq_true_eq] at h
    obtain ⟨rfl, h⟩ := h
    exact f_un (r := fun _ _ => rU fun i => .int (-i)) un_neg ok_neg (hf _ _ h)
  · cases h
theorem mSub_ok {p : Pr} {es : List (Ex F)} {a : Expr} (k : COk c call G W X) (hf : Snd f call G W X) (h : mSub f p es a = true) : PE X a (tE G W call (.pr p es)) := by
  unfold mSub at h
  split at h
  · split at h
    · simp only [Bool.and_eq_true, decide_eq_true_eq] at h
      obtain ⟨rfl, h⟩ := h
      exact f_slc0 (hf _ _ h) k.K.1
    · simp only [Bool.and_eq_true, decide_eq_true_eq] at h
      obtain ⟨⟨rfl, h1⟩, h2⟩ := h
      exact f_slcL (hf _ _ h1) (hf _ _ h2) k.K.1
    · simp only [Bool.and_eq_true, decide_eq_true_eq] at h
      obtain ⟨⟨rfl, h1⟩, h2⟩ := h
      exact f_slcH (hf _ _ h1) (hf _ _ h2) k.K.1
    · simp only [Bool.and_eq_true, decide_eq_true_eq] at h
      obtain ⟨rfl, h⟩ := h
      exact f_rev (hf _ _ h) k.K.1
    · cases h
  · split at h
    · simp only [Bool.and_eq_true, decide_eq_true_eq, Bool.not_eq_true'] at h
      obtain ⟨⟨⟨rfl, h1⟩, h2⟩, h3⟩ := h
      exact f_ix (r := rIx') (by rw [k.K.1, k.K.2]; exact ix_all (by have := k.un; omega)) ok_ix (hf _ _ h1) (hf _ _ h2) (plainIx h3)
    · cases h
  · cases h
theorem blt_mem {p : Pr} {n : Nat} {x : Str} (h : bltName p n = some x) : x ∈ bltNames ∧ n ≠ 0 := by
  unfold bltName at h
  split at h <;> first | (cases h; done) | (cases h; exact ⟨by decide, by decide⟩)
theorem mBlt_ok {p : Pr} {es : List (Ex F)} {a : Expr} (k : COk c call G W X) (hf : Snd f call G W X) (h : mBlt f c p es a = true) : PE X a (tE G W call (.pr p es)) := by
  unfold mBlt at h
  split at h
  · rename_i x p0 as p1
    simp only [Bool.and_eq_true, decide_eq_true_eq, Bool.not_eq_true'] at h
    obtain ⟨⟨⟨⟨h0, h1⟩, h2⟩, h3⟩, h4⟩ := h
    obtain ⟨m, hne⟩ := blt_mem h1
    cases as with
    | nil => exact absurd rfl hne
    | cons a as => exact blt_of (k.calm h0) k.un k.K h1 (glbB_ok (by rw [k.sc]; exact h2)) (k.blt x m) (allM_PEs hf h4) (starsB_ok h3)
  · cases h
theorem mIsi_ok {p : Pr} {es : List (Ex F)} {a : Expr} (k : COk c call G W X) (hf : Snd f call G W X) (h : mIsi f c p es a = true) : PE X a (tE G W call (.pr p es)) := by
  unfold mIsi at h
  split at h
  · rename_i t e1 x p0 a1 y p2 p3
    simp only [Bool.and_eq_true, decide_eq_true_eq, Bool.not_eq_true'] at h
    obtain ⟨⟨⟨⟨⟨rfl, rfl⟩, h1⟩, h2⟩, h3⟩, h4⟩ := h
    exact f_isi k.K (glbB_ok (by rw [k.sc]; exact h1)) (k.blt _ (by decide)) (glbB_ok (by rw [k.sc]; exact h2)) (k.blt _ (by cases t <;> decide)) (hf _ _ h3) h4
  · cases h
theorem mMe_ok {p : Pr} {e : Ex F} {es : List (Ex F)} {a : Expr} (k : COk c call G W X) (hf : Snd f call G W X) (h : mMe f p e es a = true) : PE X a (tE G W call (.me p e es)) := by
  unfold mMe at h
  split at h
  · rename_i o name apos as cpos
    simp only [Bool.and_eq_true, decide_eq_true_eq] at h
    obtain ⟨⟨⟨⟨⟨h1, h2⟩, h3⟩, h4⟩, h5⟩, h6⟩ := h
    have mo : MetOk X G p name ∧ as.length ≠ 0 ∧ as.length ≤ 2 := by
      generalize as.length = n at h1
      unfold meName at h1
      split at h1 <;> first | (cases h1; done) | skip
      · cases h1; exact ⟨m_join k.K.1, by decide, by decide⟩
      · cases h1; exact ⟨m_split, by decide, by decide⟩
      · cases h1; exact ⟨m_index k.K.1 (by have := k.un; omega), by decide, by decide⟩
      · cases h1; exact ⟨m_get1 k.K (by have := k.un; omega), by decide, by decide⟩
      · cases h1; exact ⟨m_get2 k.K (by have := k.un; omega), by decide, by decide⟩
    cases as with
    | nil => exact absurd rfl mo.2.1
    | cons a as => exact f_meth mo.1 (hf _ _ h2) (allM_PEs hf h3) (starsB_ok h4) (by have := mo.2.2; simp only [List.length_cons] at this; omega) h5 h6
  · cases h
theorem mMu_ok {m : Mu} {i : Nat} {es : List (Ex F)} {a : Expr} (k : COk c call G W X) (hf : Snd f call G W X) (h : mMu f c m i es a = true) : PE X a (tE G W call (.mu m i es)) := by
  unfold mMu at h
  split at h
  · rename_i o name apos as cpos
    simp only [Bool.and_eq_true, decide_eq_true_eq] at h
    obtain ⟨⟨⟨⟨h1, h2⟩, h3⟩, h4⟩, h5⟩ := h
    obtain ⟨x, p, rfl, n1, n2, n3, n4⟩ := mName_ok k h2
    have mo : MuOk X G m name ∧ as.length ≤ 2 := by
      generalize as.length = n at h1
      unfold muName at h1
      split at h1 <;> first | (cases h1; done) | skip
      · cases h1; exact ⟨m_append, by decide⟩
      · cases h1; exact ⟨m_pop, by decide⟩
      · cases h1; exact ⟨m_reverse, by decide⟩
      · cases h1; exact ⟨m_extend k.K.1, by decide⟩
    cases as with
    | nil =>
      cases es with
      | nil => exact f_mu0 mo.1 n1 n2 n3 n4 h5
      | cons e es => simp [allM] at h3
    | cons a as => exact f_mu mo.1 n1 n2 n3 n4 (allM_PEs hf h3) (starsB_ok h4) (by have := mo.2; simp only [List.length_cons] at this; omega) h5
  · cases h
theorem mCall_ok {g : F} {es : List (Ex F)} {a : Expr} (k : COk c call G W X) (hf : Snd f call G W X) (h : mCall f c g es a = true) : PE X a (tE G W call (.call g es)) := by
  unfold mCall at h
  split at h
  · rename_i x p0 a1 as p1
    simp only [Bool.and_eq_true, decide_eq_true_eq] at h
    obtain ⟨⟨⟨⟨h1, h2⟩, h3⟩, h4⟩, h5⟩ := h
    obtain ⟨kk, fa, fd, ps, b1, b2, b3, b4, b5⟩ := k.fns x g h1
    exact f_call b1 b2 k.tk (glbB_ok (by rw [k.sc]; exact h2)) b3 b4 b5 (allM_PEs hf h5) (starsB_ok h4) (okN_ok h3).1
  · cases h
theorem mIt_ok {it : Ex F} {tg a : Expr} (k : COk c call G W X) (hf : Snd f call G W X) (h : mIt f c it a = true) : PI X tg a (iS call G W it) := by
  have gen : ∀ a : Expr, f it a = true → PI X tg a (iS call G W it) := fun a q => pi_src (hf _ _ q) k.K.1
  unfold mIt at h
  split at h
  · rename_i x p0 as p1
    split at h
    · rename_i hx
      subst hx
      split at h
      · simp only [Bool.and_eq_true, Bool.not_eq_true'] at h
        exact pi_range1S (glbB_ok (by rw [k.sc]; exact h.1.1)) (k.blt _ (by decide)) (hf _ _ h.1.2) h.2
      · simp only [Bool.and_eq_true, Bool.not_eq_true'] at h
        exact pi_range2S (glbB_ok (by rw [k.sc]; exact h.1.1.1.1)) (k.blt _ (by decide)) (hf _ _ h.1.1.1.2) (hf _ _ h.1.1.2) h.1.2 h.2
      · cases h
    · exact gen _ h
  · exact gen _ h
theorem own_snd {ws : List Nat} : (ownOf c ws).map (·.2) = ws := by
  unfold ownOf
  rw [List.map_map]
  exact List.map_id _
theorem mIfs_ok (h : SndT f call G W X) {cs : List (Ex F)} {ifs : List Expr} (q : mIfs f cs ifs = true) : L2.PTs X ifs (tAnd' call G W cs) := by
  unfold mIfs at q
  split at q
  · exact c_nil
  · exact c_one (h _ _ q)
  · cases q
theorem t_nev {a : Expr} : PT X a (tT call G W (.nev)) := ⟨fun pins s σ H Q I ⟨ρ, L, Θ, l, st, o⟩ => by simp only [evE, tst, R.bd_no] at o; exact o.elim⟩
def Good (t : Bool) (call : F → List Sl → CR) (G : Gc) (W : WX) (X : Cx) (e : Ex F) (a : Expr) : Prop := match t with
  | false => PE X a (tE G W call e)
  | true => PT X a (tT call G W e)
theorem good_plain {t : Bool} {e : Ex F} {a : Expr} (h : (!t || plainT a) = true) (p : PE X a (tE G W call e)) : Good t call G W X e a := by
  cases t with
  | false => exact p
  | true => exact t_plain p (by simpa using h)
theorem mM_ok : ∀ (n : Nat) (t : Bool) (c : MC F) (e : Ex F) (a : Expr) (W : WX) (X : Cx), COk c call G W X → mM n t c e a = true → Good t call G W X e a
  | 0, _, _, _, _, _, _, _, h => by simp [mM] at h
  | n + 1, t, c, e, a, W, X, k, h => by
    have ih := mM_ok n
    have hf : Snd (mM n false c) call G W X := fun e a q => ih false c e a W X k q
    have hft : SndT (mM n true c) call G W X := fun e a q => ih true c e a W X k q
    unfold mM at h
    split at h
    · cases t
      · exact f_nev
      · exact t_nev
    · -- and
      split at h
      · simp only [Bool.and_eq_true, Bool.not_eq_true', List.isEmpty_eq_false_iff] at h
        cases t
        · exact e_and (allM_PEs hf h.2) h.1
        · exact t_and (allM_PTs hft h.2) h.1
      · cases h
    · split at h
      · simp only [Bool.and_eq_true, Bool.not_eq_true', List.isEmpty_eq_false_iff] at h
        cases t
        · exact e_or (allM_PEs hf h.2) h.1
        · exact t_or (allM_PTs hft h.2) h.1
      · cases h
    · split at h
      · cases t
        · exact e_not (hf _ _ h)
        · exact t_not (hft _ _ h)
      · cases h
    · -- chain
      split at h
      · simp only [Bool.and_eq_true, Bool.not_eq_true'] at h
        obtain ⟨⟨⟨⟨⟨⟨h1, h2⟩, h3⟩, h4⟩, h5⟩, h6⟩, h7⟩ := h
        cases t
        · exact e_chain k.un k.K h1 h2 (hf _ _ h3) (hf _ _ h4) (hf _ _ h5) h6 h7
        · exact t_chain k.un k.K h1 h2 (hf _ _ h3) (hf _ _ h4) (hf _ _ h5) h6 h7
      · cases h
    · -- pr
      rw [Bool.or_eq_true] at h
      rcases h with h | h
      · have q := mCmp_ok k hf h
        cases t
        · exact q.1
        · exact q.2
      · rw [Bool.and_eq_true] at h
        refine good_plain h.1 ?_
        have h2 := h.2
        simp only [Bool.or_eq_true] at h2
        rcases h2 with ((h2 | h2) | h2) | h2
        · exact mBin_ok k hf h2
        · exact mSub_ok k hf h2
        · exact mBlt_ok k hf h2
        · exact mIsi_ok k hf h2
    · rw [Bool.and_eq_true] at h
      obtain ⟨x, p, rfl, a1, a2, a3, a4⟩ := mName_ok k h.2
      exact good_plain h.1 (name_core (fun _ _ _ => var_core) a1 a2 a3 a4)
    · rw [Bool.and_eq_true] at h
      obtain ⟨x, p, rfl, a1, a2, a3, a4⟩ := mName_ok k h.2
      exact good_plain h.1 (name_core (fun _ _ _ => mv_core) a1 a2 a3 a4)
    · rw [Bool.and_eq_true] at h
      obtain ⟨x, p, rfl, a1, a2, a3, a4⟩ := mName_ok k h.2
      exact good_plain h.1 (name_core (fun _ _ _ => fz_core) a1 a2 a3 a4)
    · rw [Bool.and_eq_true] at h
      obtain ⟨x, p, rfl, a1, a2, a3, a4⟩ := mName_ok k h.2
      exact good_plain h.1 (name_core (fun _ _ _ => io_core) a1 a2 a3 a4)
    · rw [Bool.and_eq_true] at h
      exact good_plain h.1 (mCn_ok h.2)
    · rw [Bool.and_eq_true] at h
      exact good_plain h.1 (mGl_ok k h.2)
    · rw [Bool.and_eq_true] at h
      refine good_plain h.1 ?_
      have h2 := h.2
      split at h2
      · rw [Bool.and_eq_true] at h2
        exact f_tup (allM_PEs hf h2.2) (starsB_ok h2.1)
      · cases h2
    · rw [Bool.and_eq_true] at h
      refine good_plain h.1 ?_
      have h2 := h.2
      split at h2
      · rw [Bool.and_eq_true] at h2
        exact f_lst (allM_PEs hf h2.2) (starsB_ok h2.1)
      · cases h2
    · -- cut
      rw [Bool.and_eq_true] at h
      refine good_plain h.1 ?_
      have h2 := h.2
      split at h2
      · simp only [Bool.and_eq_true] at h2
        exact f_cut (hf _ _ h2.1.1) (hf _ _ h2.1.2) (hf _ _ h2.2) k.K.1
      · cases h2
    · rw [Bool.and_eq_true] at h
      exact good_plain h.1 (mMe_ok k hf h.2)
    · rw [Bool.and_eq_true] at h
      exact good_plain h.1 (mMu_ok k hf h.2)
    · rw [Bool.and_eq_true] at h
      exact good_plain h.1 (mCall_ok k hf h.2)
    · -- ite
      rw [Bool.and_eq_true] at h
      refine good_plain h.1 ?_
      have h2 := h.2
      split at h2
      · simp only [Bool.and_eq_true] at h2
        exact e_ite (hft _ _ h2.1.1) (hf _ _ h2.1.2) (hf _ _ h2.2)
      · cases h2
    · -- lc
      rename_i d e1 tt ws it cs
      rw [Bool.and_eq_true] at h
      refine good_plain h.1 ?_
      have h2 := h.2
      split at h2
      · rename_i elt tg iter ifs scope pos
        simp only [Bool.and_eq_true, mBlk, Bool.not_eq_true', List.all_eq_true, decide_eq_true_eq] at h2
        obtain ⟨⟨⟨⟨⟨⟨⟨b0, b1⟩, b2⟩, b3⟩, b4⟩, h3⟩, h4⟩, h5⟩ := h2
        have e := own_snd (c := c) (ws := ws)
        rw [← e]
        refine f_lc (own := ownOf c ws) (k.calm b0) k.nd (mIt_ok k hf h3) (blkOk_by (by rw [k.N, k.sc]; exact b1)) (fun s H C cl fp => mTg_ok (k.blk scope s H C cl fp) b2) (fun s H C cl fp => ?_) (fun s H C cl fp => ?_) (unfolded b4) (by rw [e]; exact b3)
        · exact mIfs_ok (fun e a q => ih true _ e a _ _ (k.blk scope s H C cl fp) q) h4
        · exact ih false _ _ _ _ _ (k.blk scope s H C cl fp) h5
      · cases h2
    · -- dc
      rename_i k1 e1 tt ws it cs
      rw [Bool.and_eq_true] at h
      refine good_plain h.1 ?_
      have h2 := h.2
      split at h2
      · rename_i kx vx tg iter ifs scope pos
        simp only [Bool.and_eq_true, mBlk, Bool.not_eq_true', List.all_eq_true, decide_eq_true_eq] at h2
        obtain ⟨⟨⟨⟨⟨⟨⟨⟨b0, b1⟩, b2⟩, b3⟩, b4⟩, h3⟩, h4⟩, h5⟩, h6⟩ := h2
        have e := own_snd (c := c) (ws := ws)
        rw [← e]
        refine f_dc (own := ownOf c ws) (by have := k.un; omega) k.K (k.calm b0) k.nd (mIt_ok k hf h3) (blkOk_by (by rw [k.N, k.sc]; exact b1)) (fun s H C cl fp => mTg_ok (k.blk scope s H C cl fp) b2) (fun s H C cl fp => ?_) (fun s H C cl fp => ?_) (fun s H C cl fp => ?_) (unfolded b4) (by rw [e]; exact b3)
        · exact mIfs_ok (fun e a q => ih true _ e a _ _ (k.blk scope s H C cl fp) q) h4
        · exact ih false _ _ _ _ _ (k.blk scope s H C cl fp) h5
        · exact ih false _ _ _ _ _ (k.blk scope s H C cl fp) h6
      · cases h2
    · cases h
end
end Mi

set_option Elab.async false
set_option linter.all false
set_option maxRecDepth 100000
set_option maxHeartbeats 4000000
/-! The matcher of statements. -/
namespace Mi
open PySem PySem.Spec PyProof.Rows L2

section
variable {F : Type} [DecidableEq F]
def swB (sc : Scope) (v : Expr) (y : Str) (py : Pos) : Bool := match v with
  | .ListComp _ _ s _ | .SetComp _ _ s _ | .DictComp _ _ _ s _ => (if sc.kind.isAnnotationScope then ScopeKind.function else sc.kind) == .function && sc.names.lookup y == some .local && py.line == v.pos.line && !(s.names.any fun (n, k) => n == y && (k == .local || k == .cell))
  | _ => false
theorem swB_eq {v : Expr} {y : Str} {py : Pos} {line : Nat} {env : Env} : swapsWith v (some (.Name y py)) line env = pure (swB env.scope v y py) := by
  cases v <;> rfl
theorem noSwapSub {v o i : Expr} {p : Pos} {line : Nat} {env : Env} : swapsWithSole [.Subscript o i p] v line env = pure false := by
  cases v <;> rfl
theorem noSwappedSub {v o i : Expr} {p : Pos} {env : Env} : swappedStores [.Subscript o i p] v env = pure none := by
  cases v <;> rfl
def mAsg (n : Nat) (c : MC F) (i : Nat) (e : Ex F) (st : Stmt) : Bool := match st with
  | .Assign [.Name y py] v _ => mTg1 c i (.Name y py) && (if swB c.sc v y py then (match e, v with
      | .lc d e1 t ws it cs, .ListComp elt [⟨tg, iter, ifs, 0⟩] scope _ => mBlk c scope ws t tg iter && mIt (mM n false c) c it iter && mIfs (mM n true (c.blk scope)) cs ifs && mM n false (c.blk scope) e1 elt
      | _, _ => false) else mM n false c e v)
  | _ => false
def mAsgO (n : Nat) (c : MC F) (i : Nat) (e : Ex F) (st : Stmt) : Bool := match st with
  | .Assign [.Name y py] v _ => mTg1 c i (.Name y py) && !swB c.sc v y py && mM n false c e v
  | _ => false
def mUnp (n : Nat) (c : MC F) (is : List Nat) (e : Ex F) (st : Stmt) : Bool := match st with
  | .Assign [.Tuple as k p] v _ => mTg c (.t is) (.Tuple as k p) && mM n false c e v && !isLC v && !isTupD v
  | _ => false
def mSetI (n : Nat) (c : MC F) (i : Nat) (k e : Ex F) (st : Stmt) : Bool := match st with
  | .Assign [.Subscript o ke _] v _ => mName c i o && mM n false c k ke && mM n false c e v && !isSlc ke
  | _ => false
def mSs (f : Sm F → Stmt → Bool) : List (Sm F) → List Stmt → Bool
  | [], [] => true
  | s :: ss, a :: as => f s a && mSs f ss as
  | _, _ => false
/-- of the exception in slot i -/
def mHcn (k : Cn) (e : Expr) : Bool := match e with
  | .Constant k' _ _ => (match k, k' with
    | .non, .none => true
    | .bl b, .bool b' => b == b'
    | .int i, .int i' => decide (i = i')
    | .str s, .str s' => decide (s = s')
    | _, _ => false)
  | _ => false
def mHxs (f : Hx → Expr → Bool) : List Hx → List Expr → Bool
  | [], [] => true
  | h :: hs, a :: as => f h a && mHxs f hs as
  | _, _ => false
def mHx (c : MC F) (i : Nat) : Nat → Hx → Expr → Bool
  | 0, _, _ => false
  | n + 1, h, e => match h with
    | .fld f => (match e with | .Attribute a g _ => decide (g = f) && mName c i a && (c.exs.any fun q => q.2.contains f) | _ => false)
    | .is x => (match e with | .Call (.Name y _) [a, .Name z _] [] _ => decide (y = "isinstance") && decide (z = x) && glbB c.sc y && glbB c.sc z && okN z && mName c i a && (c.exs.lookup x).isSome | _ => false)
    | .c k => mHcn k e
    | .tup hs => (match e with | .Tuple as _ _ => starsB as && mHxs (mHx c i n) hs as | _ => false)
    | .lst hs => (match e with | .List as _ => starsB as && mHxs (mHx c i n) hs as | _ => false)
    | .ite h1 h2 h3 => (match e with | .IfExp a b d _ => plainT a && mHx c i n h1 a && mHx c i n h2 b && mHx c i n h3 d | _ => false)
def mHd (c : MC F) (i : Nat) : Nat → Hx → List Stmt → Bool
  | 0, _, _ => false
  | n + 1, h, ss => match ss with
    | [.Return (some e) _] => mHx c i n h e
    | .If a [.Return (some e) _] [] _ :: rest => (match h with
      | .ite h1 h2 h3 => plainT a && mHx c i n h1 a && mHx c i n h2 e && mHd c i n h3 rest
      | _ => false)
    | _ => false
def mExc (c : MC F) (cs : List Str) (x y : Str) : Bool := !c.hot && decide (y = x) && glbB c.sc x && okN x && (c.exs.lookup x).isSome && (cs.all fun z => (c.exs.lookup z).isSome)
def mAs (c : MC F) (i : Nat) (nm : Str) : Bool := decide (c.N[i]? = some nm) && decide (c.sc.names.lookup nm = some .local)
def mPar (n : Nat) (c : MC F) (is : List Nat) (es : List (Ex F)) (st : Stmt) : Bool := match is, st with
  | [i, j], .Assign [.Tuple [.Name x px, .Name y py] _ _] (.Tuple [a, b] _ _) _ => !c.hot && decide (c.N[i]? = some x) && decide (c.N[j]? = some y) && decide (i ≠ j) && decide (c.sc.names.lookup x = some .local) && decide (c.sc.names.lookup y = some .local) &&
    allM (mM n false c) es [a, b] && swapB x y px py a b && (if c.sc.kind.isAnnotationScope then true else c.sc.kind == .function)
  | _, _ => false
def mS : Nat → MC F → Sm F → Stmt → Bool
  | 0, _, _, _ => false
  | n + 1, c, s, a => match s with
    | .nev => true
    | .pass => (match a with | .Pass _ => true | .Expr (.Constant (.str _) _ _) _ => true | _ => false)
    | .retN => (match a with | .Return none _ => true | _ => false)
    | .ret e => (match a with | .Return (some v) _ => mM n false c e v | _ => false)
    | .ex e => (match a with | .Expr v _ => mM n false c e v && !isLC v | _ => false)
    | .asg i e => mAsg n c i e a
    | .asgO i _ e => mAsgO n c i e a
    | .unp is e => mUnp n c is e a
    | .setI i k e => mSetI n c i k e a
    | .ite k x y => (match a with | .If k' x' y' _ => mM n true c k k' && mSs (mS n c) x x' && mSs (mS n c) y y' | _ => false)
    | .for t it body => (match a with | .For tg iter as [] _ => !c.hot && mTg c t tg && mIt (mM n false c) c it iter && !isSetD iter && mSs (mS n c) body as | _ => false)
    | .wh k body => (match a with | .While k' as [] _ => mM n true c k k' && mSs (mS n c) body as | _ => false)
    | .par is es => mPar n c is es a
    | .raise cn names es => (match a with
      | .Raise (some (.Call (.Name x _) as [] _)) none _ => !c.hot && decide (x = cn) && glbB c.sc x && okN x && decide (c.exs.lookup x = some names) && (names.isEmpty == as.isEmpty) && decide (names.length ≤ 800) && starsB as && allM (mM n false c) es as
      | _ => false)
    | .tryR body cs x i h => (match a with
      | .Try as [.ExceptHandler (some (.Name y _)) (some nm) (b0 :: suite) _] [] [] _ => mExc c cs x y && mAs c i nm && mSs (mS n c) body as && mHd c i 20 h (b0 :: suite)
      | _ => false)
    | .tryP body cs x (some i) ss => (match a with
      | .Try as [.ExceptHandler (some (.Name y _)) (some nm) (b0 :: suite) _] [] [] _ => mExc c cs x y && mAs c i nm && mSs (mS n c) body as && mSs (mS n c.hotOf) ss (b0 :: suite)
      | _ => false)
    | .tryP body cs x none ss => (match a with
      | .Try as [.ExceptHandler (some (.Name y _)) none (b0 :: suite) _] [] [] _ => mExc c cs x y && mSs (mS n c) body as && mSs (mS n c.hotOf) ss (b0 :: suite)
      | _ => false)
    | _ => false
variable {call : F → List Sl → CR} {G : Gc} {W : WX} {X : Cx} {c : MC F}
theorem mExpr_ok (n : Nat) (k : COk c call G W X) : Snd (mM n false c) call G W X := fun e a q => mM_ok n false c e a W X k q
theorem mTest_ok (n : Nat) (k : COk c call G W X) : SndT (mM n true c) call G W X := fun e a q => mM_ok n true c e a W X k q
theorem mAsg_ok {n i : Nat} {e : Ex F} {st : Stmt} {fx : List (Nat × V)} (k : COk c call G W X) (h : mAsg n c i e st = true) : PS X st (tSm G W fx call (.asg i e)) := by
  unfold mAsg at h
  split at h
  · rename_i y py v spos
    rw [Bool.and_eq_true] at h
    obtain ⟨h1, h2⟩ := h
    obtain ⟨x, p, ex, a1, a2, a3⟩ := mTg1_ok k h1
    cases ex
    have sw : swapsWith v (some (.Name y py)) spos.line X.env = pure (swB c.sc v y py) := by rw [← k.sc]; exact swB_eq
    split at h2
    · rename_i hsw
      rw [hsw] at sw
      split at h2
      · rename_i d e1 t ws it cs elt tg iter ifs scope lpos
        simp only [Bool.and_eq_true, mBlk, Bool.not_eq_true', List.all_eq_true, decide_eq_true_eq] at h2
        obtain ⟨⟨⟨⟨⟨⟨⟨b0, b1⟩, b2⟩, b3⟩, b4⟩, h3⟩, h4⟩, h5⟩ := h2
        have e := own_snd (c := c) (ws := ws)
        rw [← e]
        have hyl : X.env.scope.names.lookup y = some .local := by
          simp only [swB, Bool.and_eq_true, beq_iff_eq] at hsw
          rw [k.sc]; exact hsw.1.1.2
        refine s_setLc (own := ownOf c ws) (k.calm b0) k.nd a1 hyl sw (mIt_ok k (mExpr_ok n k) h3) (blkOk_by (by rw [k.N, k.sc]; exact b1)) (fun s H C cl fp => mTg_ok (k.blk scope s H C cl fp) b2) (fun s H C cl fp => ?_) (fun s H C cl fp => ?_) (unfolded b4) (by rw [e]; exact b3)
        · exact mIfs_ok (mTest_ok n (k.blk scope s H C cl fp)) h4
        · exact mExpr_ok n (k.blk scope s H C cl fp) _ _ h5
      · cases h2
    · rename_i hsw
      rw [Bool.eq_false_iff.mpr hsw] at sw
      exact s_asg k.nd a1 a2 (mExpr_ok n k _ _ h2) sw a3
  · cases h
theorem mAsgO_ok {n i d : Nat} {e : Ex F} {st : Stmt} {fx : List (Nat × V)} (k : COk c call G W X) (h : mAsgO n c i e st = true) : PS X st (tSm G W fx call (.asgO i d e)) := by
  unfold mAsgO at h
  split at h
  · rename_i y py v spos
    simp only [Bool.and_eq_true, Bool.not_eq_true'] at h
    obtain ⟨⟨h1, h2⟩, h3⟩ := h
    obtain ⟨x, p, ex, a1, a2, a3⟩ := mTg1_ok k h1
    cases ex
    have sw : swapsWith v (some (.Name y py)) spos.line X.env = pure (swB c.sc v y py) := by rw [← k.sc]; exact swB_eq
    rw [h2] at sw
    exact s_asgO k.nd a1 a2 (mExpr_ok n k _ _ h3) sw a3
  · cases h
theorem mUnp_ok {n : Nat} {is : List Nat} {e : Ex F} {st : Stmt} {fx : List (Nat × V)} (k : COk c call G W X) (h : mUnp n c is e st = true) : PS X st (tSm G W fx call (.unp is e)) := by
  unfold mUnp at h
  split at h
  · simp only [Bool.and_eq_true, Bool.not_eq_true'] at h
    obtain ⟨⟨⟨h1, h2⟩, h3⟩, h4⟩ := h
    exact (ps_asg (mExpr_ok n k _ _ h2) (mTg_ok k h1) (noSwapSole h3) (noSwapped h4)).imp fun D σ H q => unp_core q
  · cases h
theorem mSetI_ok {n i : Nat} {ke e : Ex F} {st : Stmt} {fx : List (Nat × V)} (k : COk c call G W X) (h : mSetI n c i ke e st = true) : PS X st (tSm G W fx call (.setI i ke e)) := by
  unfold mSetI at h
  split at h
  · simp only [Bool.and_eq_true, Bool.not_eq_true'] at h
    obtain ⟨⟨⟨h1, h2⟩, h3⟩, h4⟩ := h
    obtain ⟨x, p, rfl, a1, a2, a3, a4⟩ := mName_ok k h1
    refine s_setI (by have := k.un; omega) k.K a1 a2 a3 a4 (mExpr_ok n k _ _ h2) (mExpr_ok n k _ _ h3) (fun u => ?_) noSwapSub noSwappedSub rfl
    rename_i p1 v p2 _ _
    cases v <;> first | rfl | (simp [isSlc] at h4)
  · cases h
theorem mSs_ok {f : Sm F → Stmt → Bool} {fx : List (Nat × V)} (h : ∀ s a, f s a = true → PS X a (tSm G W fx call s)) : ∀ {ss : List (Sm F)} {as : List Stmt}, mSs f ss as = true → PSs X as (tSms G W fx call ss)
  | [], [], _ => ss_nil
  | [], _ :: _, q => by simp [mSs] at q
  | _ :: _, [], q => by simp [mSs] at q
  | s :: ss, a :: as, q => by
    simp only [mSs, Bool.and_eq_true] at q
    exact ss_cons (h s a q.1) (mSs_ok h q.2)
theorem mPar_ok {n : Nat} {is : List Nat} {es : List (Ex F)} {st : Stmt} {fx : List (Nat × V)} (k : COk c call G W X) (h : mPar n c is es st = true) : PS X st (tSm G W fx call (.par is es)) := by
  unfold mPar at h
  split at h
  · simp only [Bool.and_eq_true, Bool.not_eq_true', decide_eq_true_eq] at h
    obtain ⟨⟨⟨⟨⟨⟨⟨⟨h0, h1⟩, h2⟩, h3⟩, h4⟩, h5⟩, h6⟩, h7⟩, h8⟩ := h
    have hsw := h7
    simp only [swapB, Bool.and_eq_true, Bool.not_eq_true'] at hsw
    have st : noStars _ := starsB_ok (as := [_, _]) (by simp only [starsB, List.all_cons, List.all_nil, Bool.and_true, Bool.and_eq_true, Bool.not_eq_true']; exact ⟨hsw.1.1.1.2, hsw.1.1.2⟩)
    refine s_par2 (k.calm h0) k.nd (by rw [k.N]; exact h1) (by rw [k.N]; exact h2) h3 (by rw [k.sc]; exact h4) (by rw [k.sc]; exact h5) (f_args (allM_PEs (mExpr_ok n k) h6) st) ?_ h7
    unfold Env.blockKind
    rw [k.sc]
    split at h8
    · rename_i e; rw [if_pos e]
    · rename_i e; rw [if_neg e]; exact eq_of_beq h8
  · cases h
section
variable {a : Addr} {oe : Obj} {pn : List (Addr × Obj)} {d : Option Addr} {i : Nat} {cc : Str}
theorem mHcn_ok {X : Cx} {kk : Cn} {e : Expr} (h : mHcn kk e = true) : PE X e (tHx G a d i cc (.c kk)) := by
  unfold mHcn at h
  split at h
  · split at h
    · exact h_non
    · obtain rfl := eq_of_beq h; exact h_bl
    · obtain rfl := of_decide_eq_true h; exact h_int
    · obtain rfl := of_decide_eq_true h; exact h_str
    · cases h
  · cases h
theorem mHxs_ok {Y : Cx} {f : Hx → Expr → Bool} (hf : ∀ h e, f h e = true → PE Y e (tHx G a d i cc h)) : ∀ {hs : List Hx} {as : List Expr}, mHxs f hs as = true → starsB as = true → PA Y as (tHs G a d i cc hs)
  | [], [], _, _ => hs_pa_nil
  | [], _ :: _, h, _ => by simp [mHxs] at h
  | _ :: _, [], h, _ => by simp [mHxs] at h
  | h :: hs, e :: as, q, st => by
    simp only [mHxs, Bool.and_eq_true] at q
    simp only [starsB, List.all_cons, Bool.and_eq_true, Bool.not_eq_true'] at st
    exact hs_pa_cons (hf h e q.1) (mHxs_ok hf q.2 st.2) st.1
theorem mHx_ok (k : COk c call G W X) (hcc : (c.exs.lookup cc).isSome = true) (hz : Zc (.ref (G.ca cc)) d oe) (hf : ∃ vs, oe.data = .fields vs) : ∀ (n : Nat) (h : Hx) (e : Expr), mHx c i n h e = true → PE (X.suite a ((a, oe) :: pn)) e (tHx G a d i cc h)
  | 0, _, _, h => by simp [mHx] at h
  | n + 1, h, e, q => by
    have ih := mHx_ok k hcc hz hf n
    obtain ⟨fl, hfl⟩ := Option.isSome_iff_exists.mp hcc
    obtain ⟨_, eC, xC⟩ := k.exs cc fl hfl
    unfold mHx at q
    split at q
    · rename_i f
      split at q
      · simp only [Bool.and_eq_true, decide_eq_true_eq] at q
        obtain ⟨⟨rfl, q2⟩, q3⟩ := q
        obtain ⟨x, p, rfl, a1, a2, a3, a4⟩ := mName_ok k q2
        exact h_fld xC (k.nof cc _ hcc q3) hz hf a1 a2 a3 a4
      · cases q
    · rename_i x
      split at q
      · simp only [Bool.and_eq_true, decide_eq_true_eq] at q
        obtain ⟨⟨⟨⟨⟨⟨rfl, rfl⟩, q3⟩, q4⟩, q5⟩, q6⟩, q7⟩ := q
        obtain ⟨y, p, rfl, a1, a2, a3, a4⟩ := mName_ok k q6
        obtain ⟨fl2, hfl2⟩ := Option.isSome_iff_exists.mp q7
        exact h_is eC hz hf (k.prs _ _ q7 hcc).2 a1 a2 a3 a4 (glbB_ok (by rw [k.sc]; exact q3)) (k.blt _ (by decide)) (glbB_ok (by rw [k.sc]; exact q4)) (k.exs _ fl2 hfl2).1.gl (okN_ok q5).1
      · cases q
    · exact mHcn_ok q
    · split at q
      · rw [Bool.and_eq_true] at q
        exact h_tup (mHxs_ok ih q.2 q.1)
      · cases q
    · split at q
      · rw [Bool.and_eq_true] at q
        exact h_lst (mHxs_ok ih q.2 q.1)
      · cases q
    · split at q
      · simp only [Bool.and_eq_true] at q
        exact h_ite (pt_val (ih _ _ q.1.1.2) (plainT_eq q.1.1.1)) (ih _ _ q.1.2) (ih _ _ q.2)
      · cases q
theorem ret_pss {Y : Cx} {e : Expr} {t : TE} {pos : Pos} (h : PE Y e t) : PSs Y [.Return (some e) pos] (fun D σ H => t σ H D.rt) := pss_cons (ps_ret h) pss_nil
theorem mHd_ok (k : COk c call G W X) (hcc : (c.exs.lookup cc).isSome = true) (hz : Zc (.ref (G.ca cc)) d oe) (hf : ∃ vs, oe.data = .fields vs) : ∀ (n : Nat) (h : Hx) (ss : List Stmt), mHd c i n h ss = true → PSs (X.suite a ((a, oe) :: pn)) ss (fun D σ H => tHx G a d i cc h σ H D.rt)
  | 0, _, _, h => by simp [mHd] at h
  | n + 1, h, ss, q => by
    have ih := mHd_ok k hcc hz hf n
    have hx := fun h e q => mHx_ok (a := a) (pn := pn) (i := i) k hcc hz hf n h e q
    unfold mHd at q
    split at q
    · exact ret_pss (hx _ _ q)
    · split at q
      · rename_i h1 h2 h3
        simp only [Bool.and_eq_true] at q
        obtain ⟨⟨⟨q1, q2⟩, q3⟩, q4⟩ := q
        refine (pss_cons (ps_if (pt_val (hx _ _ q2) (plainT_eq q1)) (ret_pss (hx _ _ q3)) pss_nil) (ih _ _ q4)).imp fun D σ H q => ?_
        exact h_ite.hx_ite q
      · cases q
    · cases q
end
/-- where a statement stands -/
def AtDef (X : Cx) : Prop := X.stack = X.env :: X.outer ∧ X.env.frame = some X.env.locals
theorem mS_ok : ∀ (n : Nat) (c : MC F) (W : WX) (X : Cx), COk c call G W X → PassesOwn (model X.prog X.w) X.A X.env X.xe → AtDef X → ∀ (s : Sm F) (a : Stmt) (fx : List (Nat × V)), mS n c s a = true → PS X a (tSm G W fx call s)
  | 0, _, _, _, _, _, _, _, _, _, h => by simp [mS] at h
  | n + 1, c, W, X, k, hp, at_, s, a, fx, h => by
    have ih := fun s a fx h => mS_ok n c W X k hp at_ s a fx h
    have exc : ∀ {cs : List Str} {x y : Str}, mExc c cs x y = true → c.hot = false ∧ y = x ∧ Names X x (.ref (G.ca x)) ∧ (∀ z, cs.contains z = true → (c.exs.lookup z).isSome = true ∧ PySem.W.exmOne X.K (.ref (G.ca z)) (.ref (G.ca x)) = some (catches x z)) := by
      intro cs x y q
      simp only [mExc, Bool.and_eq_true, Bool.not_eq_true', decide_eq_true_eq, List.all_eq_true] at q
      obtain ⟨⟨⟨⟨⟨q0, q1⟩, q2⟩, q3⟩, q4⟩, q5⟩ := q
      obtain ⟨fl, hfl⟩ := Option.isSome_iff_exists.mp q4
      exact ⟨q0, q1, ⟨glbB_ok (by rw [k.sc]; exact q2), (okN_ok q3).1, .inl (k.exs _ fl hfl).1.gl⟩, fun z hz => ⟨q5 z (List.contains_iff_mem.mp hz), (k.prs _ _ q4 (q5 z (List.contains_iff_mem.mp hz))).1⟩⟩
    have as_ : ∀ {i : Nat} {nm : Str}, mAs c i nm = true → X.N[i]? = some nm ∧ X.env.kindOf nm = some .local := by
      intro i nm q
      simp only [mAs, Bool.and_eq_true, decide_eq_true_eq] at q
      refine ⟨by rw [k.N]; exact q.1, ?_⟩
      show X.env.scope.names.lookup nm = _
      rw [k.sc]; exact q.2
    have bod : ∀ {body : List (Sm F)} {as : List Stmt}, mSs (mS n c) body as = true → ∀ (W' : WX) (pn : List (Addr × Obj)) (xe : Value → Shared → Prop), Takes (X.tr pn xe) W' → PassesOwn (model X.prog X.w) X.A X.env xe → PSs (X.tr pn xe) as (tSms G W' fx call body) :=
      fun q W' pn xe t p => mSs_ok (fun s a q => mS_ok n c W' (X.tr pn xe) (k.tr t) p at_ s a fx q) q
    have plain : ∀ {ss : List (Sm F)} {as : List Stmt}, mSs (mS n c.hotOf) ss as = true → ∀ (a : Addr) (oe : Obj) (pn : List (Addr × Obj)), PSs (X.suite a ((a, oe) :: pn)) as (tSms G Wf fx call ss) :=
      fun q a oe pn => mSs_ok (fun s b q => mS_ok n c.hotOf Wf (X.suite a ((a, oe) :: pn)) (k.suite a _) PassesOwn.never at_ s b fx q) q
    unfold mS at h
    split at h
    · exact s_nev
    · split at h
      · exact s_pass
      · exact s_doc
      · cases h
    · split at h
      · exact s_retN
      · cases h
    · split at h
      · exact s_ret (mExpr_ok n k _ _ h)
      · cases h
    · split at h
      · simp only [Bool.and_eq_true, Bool.not_eq_true'] at h
        exact s_ex (mExpr_ok n k _ _ h.1) (noSwap h.2)
      · cases h
    · exact mAsg_ok k h
    · exact mAsgO_ok k h
    · exact mUnp_ok k h
    · exact mSetI_ok k h
    · split at h
      · simp only [Bool.and_eq_true] at h
        exact s_ite (mTest_ok n k _ _ h.1.1) (mSs_ok (fun s a q => ih s a fx q) h.1.2) (mSs_ok (fun s a q => ih s a fx q) h.2)
      · cases h
    · split at h
      · simp only [Bool.and_eq_true, Bool.not_eq_true'] at h
        exact s_for hp (k.calm h.1.1.1.1) (mIt_ok k (mExpr_ok n k) h.1.1.2) (mTg_ok k h.1.1.1.2) (fun fx => mSs_ok (fun s a q => ih s a fx q) h.2) (unfolded h.1.2)
      · cases h
    · split at h
      · simp only [Bool.and_eq_true] at h
        exact s_wh hp (mTest_ok n k _ _ h.1) (mSs_ok (fun s a q => ih s a fx q) h.2)
      · cases h
    · exact mPar_ok k h
    · -- raise
      rename_i cn names es
      split at h
      · rename_i x p0 as p1 p2
        simp only [Bool.and_eq_true, Bool.not_eq_true', decide_eq_true_eq] at h
        obtain ⟨⟨⟨⟨⟨⟨⟨⟨h0, rfl⟩, h2⟩, h3⟩, h4⟩, h5⟩, h6⟩, h7⟩, h8⟩ := h
        obtain ⟨E, _⟩ := k.exs _ _ h4
        have hg : Gl X x := glbB_ok (by rw [k.sc]; exact h2)
        cases names with
        | nil =>
          cases as with
          | nil =>
            cases es with
            | nil => exact s_raise0 (k.calm h0) k.tk k.K E hg (okN_ok h3).1
            | cons _ _ => simp [allM] at h8
          | cons _ _ => simp at h5
        | cons n1 ns =>
          cases as with
          | nil => simp at h5
          | cons a1 as =>
            have st : ∀ b ∈ a1 :: as, isStar b = false := fun b hb => by
              have := List.all_eq_true.mp h7 b hb
              simpa using this
            exact s_raise (k.calm h0) k.tk (k.rm h0) k.K E (by simp) hg (okN_ok h3).1 (f_args (allM_PEs (mExpr_ok n k) h8) (starsB_ok h7)) st (by simp) h6
      · cases h
    · -- try .. as
      rename_i body cs x i hh
      split at h
      · simp only [Bool.and_eq_true] at h
        obtain ⟨⟨⟨h1, h2⟩, h3⟩, h4⟩ := h
        obtain ⟨e1, rfl, e2, e3⟩ := exc h1
        exact s_tryR at_.1 at_.2 k.nd (as_ h2).1 (as_ h2).2 e2 k.tk (bod h3) (fun c1 hc a oe d pn hz hd => mHd_ok k (e3 c1 hc).1 hz hd 20 _ _ h4) fun c1 hc => (e3 c1 hc).2
      · cases h
    · rename_i body cs x i ss
      split at h
      · simp only [Bool.and_eq_true] at h
        obtain ⟨⟨⟨h1, h2⟩, h3⟩, h4⟩ := h
        obtain ⟨e1, rfl, e2, e3⟩ := exc h1
        exact s_tryP at_.1 at_.2 k.nd (as_ h2).1 (as_ h2).2 e2 k.tk (bod h3) (plain h4) fun c1 hc => (e3 c1 hc).2
      · cases h
    · rename_i body cs x ss
      split at h
      · simp only [Bool.and_eq_true] at h
        obtain ⟨⟨h1, h3⟩, h4⟩ := h
        obtain ⟨e1, rfl, e2, e3⟩ := exc h1
        exact s_tryN at_.1 at_.2 e2 k.tk (bod h3) (plain h4) fun c1 hc => (e3 c1 hc).2
      · cases h
    · cases h
end
end Mi

set_option Elab.async false
set_option linter.all false
set_option maxRecDepth 100000
set_option maxHeartbeats 4000000
/-! What the head tells of the exception classes. -/
namespace Mi
open PySem PySem.Spec PyProof.Rows L2

/-- an own exception class: its name, its fields; its __init__'s text -/
structure ExcD where
  name : Str
  flds : List Str
  qual : Str
  params : Arguments
  body : List Stmt
  scope : Scope
abbrev FnX : Type := Option (Str × Str × Arguments × FuncBody × Scope × Addr × List Str × Value × Addr)
def fnX (K : PySem.W.Frag) (a : Addr) : FnX := match K.lookup a with
  | some ⟨_, _, .func fd, _⟩ => some (fd.name, fd.qualname, fd.params, fd.body, fd.scope, fd.globals, fd.closure.map (·.1), fd.defaults, fd.builtins)
  | _ => none
def initAt (K : PySem.W.Frag) (x : Str) : Addr := He.ma K (He.ga K x) "__init__"
def ExcD.obs (K : PySem.W.Frag) (d : ExcD) : FnX := if d.flds.isEmpty then none else fnX K (initAt K d.name)
def ExcD.val (d : ExcD) : FnX := if d.flds.isEmpty then none else some ("__init__", d.qual, d.params, .stmts d.body, d.scope, mainGlobals, ["__class__"], .none, builtinsNs)
/-- the class object's form -/
def clsB (K : PySem.W.Frag) (C : Addr) : Bool := match K.lookup C with
  | some ⟨.type c, _, .cls cd, sl⟩ => decide (c = "type") && (match cd.mro, sl.toList with
    | .ref C' :: bm, [_, _, _, _, some (.builtin n), _] => C' == C && decide (n = "ValueError.__new__") && !cd.hasDel && cd.hasDict && PySem.HandSPX.refsVE bm
    | _, _ => false)
  | _ => false
theorem clsB_ok {K : PySem.W.Frag} {C : Addr} (h : clsB K C = true) : ∃ nm q N bs bm sn sub ab col dd k0 k1 k2 k3 k5, K.lookup C = some (excClassObj nm q C N bs bm true sn sub ab col dd k0 k1 k2 k3 k5 "ValueError.__new__") ∧ PySem.HandSPX.refsVE bm = true := by
  unfold clsB at h
  split at h
  · rename_i c dd cd sl ho
    rw [Bool.and_eq_true, decide_eq_true_eq] at h
    obtain ⟨rfl, h⟩ := h
    split at h
    · rename_i C' bm k0 k1 k2 k3 n k5 hm hs
      simp only [Bool.and_eq_true, beq_iff_eq, Bool.not_eq_true', decide_eq_true_eq] at h
      obtain ⟨⟨⟨⟨rfl, rfl⟩, h3⟩, h4⟩, h5⟩ := h
      obtain ⟨nm, bs, mro, ns, qn, hd, sn, sub, ab, col, dl⟩ := cd
      dsimp only at hm h3 h4
      subst hm h3 h4
      obtain ⟨sl⟩ := sl
      dsimp only at hs
      subst hs
      exact ⟨nm, qn, ns, bs, bm, sn, sub, ab, col, dd, k0, k1, k2, k3, k5, ho, h5⟩
    · cases h
  · cases h
def inScopeB (N : List Str) (sc : Scope) : Bool := sc.kind == .function && !sc.isCoroutine && !sc.isGenerator && decide N.Nodup && (N.all fun x => decide (sc.names.lookup x = some .local)) && (sc.names.all fun y => y.2 != .cell) &&
  (sc.names.all fun y => y.2 != .free || decide (y.1 = "__class__")) && decide (sc.names.lookup ("__class__" : Str) = some .free) && decide (sc.names.lookup ("super" : Str) = some .globalImplicit)
theorem inScopeB_ok {N : List Str} {sc : Scope} (h : inScopeB N sc = true) : InScope N N sc := by
  simp only [inScopeB, Bool.and_eq_true, Bool.not_eq_true', decide_eq_true_eq, List.all_eq_true, beq_iff_eq, bne_iff_ne, Bool.or_eq_true] at h
  obtain ⟨⟨⟨⟨⟨⟨⟨⟨h1, h2⟩, h3⟩, h4⟩, h5⟩, h6⟩, h7⟩, h8⟩, h9⟩ := h
  exact ⟨h1, h2, h3, h4, List.take_length, h5, h6, fun y hy e => (h7 y hy).resolve_left fun n => n e, h8, h9⟩
/-- the __init__'s text -/
def initB (d : ExcD) : Bool := inScopeB ("self" :: d.flds) d.scope && decide (d.flds.length ≤ 800) && (d.flds.all fun f => !(f == ("__debug__" : Str)) && !(f == ("__classdict__" : Str))) &&
  (match (d.params.posonlyargs ++ d.params.args).head? with | some ar => decide (ar.arg = "self") | none => false) && (match d.body with
  | .Expr (.Call (.Attribute (.Call (.Name s _) [] [] _) m p2) [.Constant (.str _) _ _] [] p4) _ :: rest => decide (s = "super") && decide (m = "__init__") && (p2.endLine == p4.line) && mRest d.scope d.flds rest
  | _ => false)
def isFile (file : Str) : Option Value → Bool
  | some (.str f _) => decide (file = f)
  | _ => false
def codeFileB (K : PySem.W.Frag) (file : Str) (cda : Addr) : Bool := match K.lookup cda with
  | some ⟨_, _, .fields vs, _⟩ => isFile file vs[2]?
  | _ => false
def cellB (K : PySem.W.Frag) (C cc : Addr) : Bool := match K.lookup cc with
  | some ⟨_, _, .cell (some (.ref D)), _⟩ => D == C
  | _ => false
def supB (K : PySem.W.Frag) (file q : Str) (C fI : Addr) : Bool := match K.lookup fI with
  | some ⟨_, _, .func fd, _⟩ => (match fd.code, fd.closure with
    | .ref cda, [(_, cc)] => PySem.W.codeIn K (.ref cda) q && codeFileB K file cda && cellB K C cc
    | _, _ => false)
  | _ => false
def oB (a b : Option (Option Value)) : Bool := decide (a = b)
def excB (K : PySem.W.Frag) (file : Str) (d : ExcD) : Bool :=
  let C := He.ga K d.name
  oB (PySem.W.nsIn K mainGlobals d.name) (some (some (.ref C))) && PySem.W.keepIn K (.ref C) && decide (PySem.W.subIn K (.ref C) (.type "BaseException") = some true) && decide (PySem.W.typeIn K (.ref C) = some (.type "type")) && xfB K C &&
  oB (PySem.W.findIn K (.ref C) "__class__") (some (some (.builtin "object.__class__"))) && oB (PySem.W.specialIn K (.builtin "object.__class__") "__get__") (some (some (.builtin "getset_descriptor.__get__"))) && decide (PySem.W.takesIn K (.builtin "object.__class__") = some true) && decide (PySem.W.mroIn K C (.type "object") = some true) &&
  (if d.flds.isEmpty then PySem.W.excIn K C He.veBase "ValueError.__new__" else
    initB d && clsB K C && oB (PySem.W.findIn K (.ref C) "__setattr__") (some (some (.builtin "object.__setattr__"))) && oB (PySem.W.findIn K (.ref C) "__init__") (some (some (.ref (initAt K d.name)))) && decide (PySem.W.typeIn K (.ref (initAt K d.name)) = some (.type "function")) &&
    (PySem.W.clsIn K C).isSome && decide (PySem.W.mroIn K C (.ref C) = some true) && decide (PySem.W.subIn K (.ref C) (.type "ValueError") = some true) && oB (PySem.W.ks_superIn K C C "__init__") (some (some (.builtin "ValueError.__init__"))) && oB (PySem.W.nsIn K cStatics "thirdparty.any") (some none) &&
    supB K file d.qual C (initAt K d.name))
def pairsB (K : PySem.W.Frag) (xs : List ExcD) : Bool := xs.all fun x => (xs.all fun y => decide (PySem.W.exmOne K (.ref (He.ga K y.name)) (.ref (He.ga K x.name)) = some (catches x.name y.name)) && decide (PySem.W.kitOne K (.ref (He.ga K y.name)) (.ref (He.ga K x.name)) = some (catches x.name y.name))) &&
  xs.all fun y => y.flds.all fun f => oB (PySem.W.findIn K (.ref (He.ga K x.name)) f) (some none)
def excsB (K : PySem.W.Frag) (file : Str) (xs : List ExcD) : Bool := (xs.all fun d => excB K file d) && pairsB K xs && (xs.isEmpty || oB (PySem.W.nsIn K mainGlobals "super") (some none))
section
variable {K : PySem.W.Frag} {h : Heap} {mg : Str → Option Value} {P : Program} {w : World} {base : Heap} {d : ExcD}
theorem exc_is (hb : excB K P.main.file d = true) : ExcC K (He.ga K d.name) ∧ XfC K (He.ga K d.name) := by
  simp only [excB, Bool.and_eq_true, decide_eq_true_eq, oB] at hb
  obtain ⟨⟨⟨⟨⟨⟨⟨⟨⟨h1, h2⟩, h3⟩, h4⟩, h5⟩, h6⟩, h7⟩, h8⟩, h9⟩, h10⟩ := hb
  have x := xfB_ok h5
  exact ⟨⟨x.ga, x.gg, x.exC, x.hdC, h6, h7, h8, h9⟩, x⟩
theorem exc_at (X : K.In h) (G : h.Ns mainGlobals mg) (hb : excB K P.main.file d = true) (ho : d.obs K = d.val) (hno : ∀ g ∈ d.flds, PySem.W.findIn K (.ref (He.ga K d.name)) g = some none) (hsup : mg "super" = none) (htop : (P.main.scope.names.lookup ("super" : Str)).isSome = false)
    (bnd : d.flds ≠ [] → ∀ (kV doc pm : Value) (an : Option Addr) (cdv ct : Value) (cc : Addr) (us : List Value), us.length = ((("self" : Str)) :: d.flds).length → bindArgs (PySem.W.ksFn "__init__" d.qual d.params d.body d.scope .none kV doc pm an cdv ct cc) ⟨us, []⟩ = pure ((("self" : Str) :: d.flds).zip us)) :
    ErrC (He.ga K) P w K mg base d.name d.flds := by
  simp only [excB, Bool.and_eq_true, decide_eq_true_eq, oB] at hb
  obtain ⟨⟨⟨⟨⟨⟨⟨⟨⟨h1, h2⟩, h3⟩, h4⟩, h5⟩, h6⟩, h7⟩, h8⟩, h9⟩, h10⟩ := hb
  refine ⟨PySem.W.mg_of X G h1, h2, h3, h4, fun e => ?_, fun e => ?_⟩
  · rw [e] at h10
    simpa using h10
  · have e' : d.flds.isEmpty = false := by
      cases hf : d.flds with
      | nil => exact absurd hf e
      | cons a b => rfl
    rw [e'] at h10
    simp only [Bool.false_eq_true, if_false, Bool.and_eq_true, decide_eq_true_eq, oB] at h10
    obtain ⟨⟨⟨⟨⟨⟨⟨⟨⟨⟨i1, i2⟩, i3⟩, i4⟩, i5⟩, i6⟩, i7⟩, i8⟩, i9⟩, i10⟩, i11⟩ := h10
    have hcl := clsB_ok i2
    have T : OexC K (He.ga K d.name) := ⟨hcl, i3, h3, h4, h2⟩
    obtain ⟨cd, hcd⟩ := Option.isSome_iff_exists.mp i6
    have SC : SupC K (He.ga K d.name) (He.ga K d.name) := ⟨hcl, ⟨cd, hcd⟩, i7, i8, i9, i10⟩
    simp only [ExcD.obs, ExcD.val, e', Bool.false_eq_true, if_false] at ho
    unfold fnX at ho
    unfold supB at i11
    cases q : K.lookup (initAt K d.name) with
    | none => rw [q] at ho; cases ho
    | some o =>
      obtain ⟨oc, od, dt, osl⟩ := o
      rw [q] at ho i11
      cases dt with
      | func fd =>
        obtain ⟨n1, n2, n3, n4, n5, n6, n7, n8, n9, n10, n11, n12, n13, n14, n15⟩ := fd
        have ho : (some (n1, n2, n3, n4, n5, n6, n7.map (·.1), n8, n15) : FnX) = (some ("__init__", d.qual, d.params, .stmts d.body, d.scope, mainGlobals, ["__class__"], .none, builtinsNs) : FnX) := ho
        simp only [Option.some.injEq, Prod.mk.injEq] at ho
        obtain ⟨rfl, rfl, rfl, rfl, rfl, rfl, hcl7, rfl, rfl⟩ := ho
        dsimp only at i11
        split at i11
        · rename_i cda s cc
          simp only [Bool.and_eq_true] at i11
          obtain ⟨⟨j1, j2⟩, j3⟩ := i11
          simp only [List.map_cons, List.map_nil, List.cons.injEq, and_true] at hcl7
          subst hcl7
          simp only [initB, Bool.and_eq_true, decide_eq_true_eq, List.all_eq_true, Bool.not_eq_true'] at i1
          obtain ⟨⟨⟨⟨b1, b2⟩, b3⟩, b4⟩, b5⟩ := i1
          have S := inScopeB_ok b1
          split at b4
          · rename_i ar har
            split at b5
            · rename_i s1 p0 p1 m1 p2 m j p3 p4 p5 rest hbody
              simp only [Bool.and_eq_true, decide_eq_true_eq] at b5
              obtain ⟨⟨⟨rfl, rfl⟩, b7⟩, b8⟩ := b5
              have SF : SupF P K (initAt K d.name) (PySem.W.ksFn "__init__" d.qual d.params d.body d.scope .none n9 n10 n11 n12 (.ref cda) n14 cc) "__init__" d.qual d.params d.body d.scope cda cc (He.ga K d.name) := by
                refine ⟨⟨_, _, _, _, _, _, _, _, _, rfl, q⟩, j1, ?_, ?_, htop⟩
                · unfold codeFileB at j2
                  split at j2
                  · rename_i c1 c2 vs c3 q2
                    unfold isFile at j2
                    split at j2
                    · rename_i f tf q3
                      exact ⟨c1, c2, vs, c3, f, tf, q2, q3, by simpa using j2⟩
                    · cases j2
                  · cases j2
                · unfold cellB at j3
                  split at j3
                  · rename_i c1 c2 D c3 q2
                    obtain rfl := eq_of_beq j3
                    exact ⟨c1, c2, c3, q2⟩
                  · cases j3
              rw [hbody] at SF
              refine ⟨T, initAt K d.name, _, i4, i5, exc_init (k := 0) SF S har (of_decide_eq_true b4) b7 hsup SC T hno e b2 (fun f hf => b3 f hf) b8, ?_⟩
              · rw [← hbody]
                exact Binds.all fun us hl => bnd e _ _ _ _ _ _ _ us hl
            · cases b5
          · cases b4
        · cases i11
      | _ => cases ho
end
end Mi

set_option Elab.async false
set_option linter.all false
set_option maxRecDepth 100000
set_option maxHeartbeats 4000000
/-! What the head tells; the defs together. -/
namespace Mi
open PySem PySem.Spec PyProof.Rows L2

/-! ### a module's constants -/
def valsB (f : PV → Value → Bool) : List PV → List Value → Bool
  | [], [] => true
  | p :: ps, u :: us => f p u && valsB f ps us
  | _, _ => false
def valB (K : PySem.W.Frag) : Nat → PV → Value → Bool
  | 0, _, _ => false
  | n + 1, p, u => match p, u with
    | .non, .none => true
    | .bl b, .bool c => b == c
    | .int i, .int j _ => decide (i = j)
    | .str x, .str y _ => decide (x = y)
    | .tup xs, .ref a => (match K.lookup a with
      | some ⟨.type c, none, .seq its _, _⟩ => decide (c = "tuple") && decide (its.size ≤ sizeLine) && valsB (valB K n) xs its.toList
      | _ => false)
    | _, _ => false
theorem valsB_ok {K : PySem.W.Frag} {w : World} {f : PV → Value → Bool} (hf : ∀ p u, f p u = true → ∃ v, RelV v u ∧ ∀ H, R0 K w H (fun _ => False) p v) : ∀ {ps : List PV} {us : List Value}, valsB f ps us = true → ∃ vs, Vals vs us ∧ ∀ H, R0s K w H (fun _ => False) ps vs
  | [], [], _ => ⟨[], .nil, fun H => rfl⟩
  | [], _ :: _, h => by simp [valsB] at h
  | _ :: _, [], h => by simp [valsB] at h
  | p :: ps, u :: us, h => by
    simp only [valsB, Bool.and_eq_true] at h
    obtain ⟨v, r, h1⟩ := hf p u h.1
    obtain ⟨vs, r2, h2⟩ := valsB_ok hf h.2
    exact ⟨v :: vs, .cons r r2, fun H => ⟨v, vs, rfl, h1 H, h2 H⟩⟩
theorem valB_ok {K : PySem.W.Frag} {w : World} : ∀ {n : Nat} {p : PV} {u : Value}, valB K n p u = true → ∃ v, RelV v u ∧ ∀ H, R0 K w H (fun _ => False) p v
  | 0, _, _, h => by simp [valB] at h
  | n + 1, p, u, h => by
    have ih := fun p u h => @valB_ok K w n p u h
    unfold valB at h
    split at h
    · exact ⟨.non, rfl, fun _ => rfl⟩
    · obtain rfl := eq_of_beq h; exact ⟨.bl _, rfl, fun _ => rfl⟩
    · obtain rfl := of_decide_eq_true h; exact ⟨.int _, ⟨_, rfl⟩, fun _ => rfl⟩
    · obtain rfl := of_decide_eq_true h; exact ⟨.str _, ⟨_, rfl⟩, fun _ => rfl⟩
    · rename_i xs a
      split at h
      · rename_i c its n2 sl hk
        simp only [Bool.and_eq_true, decide_eq_true_eq] at h
        obtain ⟨⟨rfl, h1⟩, h2⟩ := h
        obtain ⟨vs, r, h3⟩ := valsB_ok ih h2
        exact ⟨.ref a, rfl, fun H => ⟨a, vs, rfl, .inr ⟨_, its, n2, hk, rfl, rfl, rfl, h1, r⟩, h3 H⟩⟩
      · cases h
    · cases h
def cstB (cst : List (Str × PV)) (K : PySem.W.Frag) : Bool := cst.all fun q => match PySem.W.nsIn K mainGlobals q.1 with
  | some (some u) => valB K 8 q.2 u
  | _ => false
theorem cstB_ok {K : PySem.W.Frag} {h : Heap} {mg : Str → Option Value} {G : Gc} (X : K.In h) (hn : h.Ns mainGlobals mg) (hG : G.K = K) {cst : List (Str × PV)} (hb : cstB cst K = true) {x : Str} {p : PV} (hl : cst.lookup x = some p) : GlR G mg x p := by
  have q := List.all_eq_true.mp hb (x, p) (PySem.mem_of_lookup hl)
  simp only at q
  split at q
  · rename_i u hu
    obtain ⟨v, r, h1⟩ := valB_ok (w := G.w) q
    refine ⟨u, v, PySem.W.mg_of X hn hu, r, ?_⟩
    rw [hG]; exact h1
  · cases q

/-! ### the head's Hook -/
def clsBody : Stmt → List Stmt
  | .ClassDef _ _ _ b _ _ _ _ _ _ _ => b
  | _ => []
/-- what is looked at besides -/
structure Xtra where
  cst : List (Str × PV)
  exs : List ExcD := []
  file : Str := ""
def Xtra.adr (x : Xtra) (n : Nat) (g : Addr → Option Obj) : List Addr := if x.exs.isEmpty then He.asD g n else He.asD g n ++ [cStatics]
abbrev AlM : Type := Bool × He.AlD × List FnX
def obsK (fa : List He.Fa) (fn : List He.DefD) (x : Xtra) (K : PySem.W.Frag) : AlM := (cstB x.cst K && excsB K x.file x.exs, He.obsD fa fn K, x.exs.map (ExcD.obs K))
def obsM (n : Nat) (fa : List He.Fa) (fn : List He.DefD) (x : Xtra) (g : Addr → Option Obj) : AlM := obsK fa fn x (He.frG g (x.adr n g))
def valM (fn : List He.DefD) (x : Xtra) : AlM := (true, He.valD fn, x.exs.map ExcD.val)
def SaysM (fa : List He.Fa) (fn : List He.DefD) (x : Xtra) (K : PySem.W.Frag) : Prop := obsK fa fn x K = valM fn x
def hookM (n : Nat) (fa : List He.Fa) (fn : List He.DefD) (x : Xtra) : PySem.W.Hook where
  α := AlM
  obs := fun s => obsM n fa fn x s.heap.get?
  val := fun _ => valM fn x
  says := fun _ h => ∃ K : PySem.W.Frag, K.In h ∧ SaysM fa fn x K
  of := fun _ _ e => ⟨_, He.frG_in, e⟩
  keeps := fun _ _ _ ⟨K, hK, c⟩ k => ⟨K, PySem.W.Frag.In.keeps hK k, c⟩
theorem obsM_eq {n : Nat} {fa : List He.Fa} {fn : List He.DefD} {x : Xtra} {g : Addr → Option Obj} {s : Shared} (h : ∀ a, g a = s.heap.get? a) : obsM n fa fn x g = (hookM n fa fn x).obs s := by
  have e : g = s.heap.get? := funext h
  rw [e] <;> rfl
section
variable {fa : List He.Fa} {fn : List He.DefD} {x : Xtra} {K : PySem.W.Frag}
theorem SaysM.d (c : SaysM fa fn x K) : He.SaysD fa fn K := congrArg (fun z : AlM => z.2.1) c
theorem SaysM.c (c : SaysM fa fn x K) : cstB x.cst K = true ∧ excsB K x.file x.exs = true := Bool.and_eq_true_iff.mp (congrArg (fun z : AlM => z.1) c)
theorem SaysM.o (c : SaysM fa fn x K) : x.exs.map (ExcD.obs K) = x.exs.map ExcD.val := congrArg (fun z : AlM => z.2.2) c
theorem map_eq_mem {α β : Type} {f g : α → β} : ∀ {l : List α}, l.map f = l.map g → ∀ a ∈ l, f a = g a
  | [], _, _, m => by cases m
  | b :: l, h, a, m => by
    simp only [List.map_cons, List.cons.injEq] at h
    rcases List.mem_cons.mp m with rfl | m
    · exact h.1
    · exact map_eq_mem h.2 a m
end
/-- the exceptions, for the matcher -/
def tabX (xs : List ExcD) : List (Str × List Str) := xs.map fun d => (d.name, d.flds)
theorem tabX_get : ∀ {xs : List ExcD} {c : Str} {fl : List Str}, (tabX xs).lookup c = some fl → ∃ d ∈ xs, d.name = c ∧ d.flds = fl
  | [], _, _, h => by cases h
  | d :: xs, c, fl, h => by
    simp only [tabX, List.map_cons, List.lookup_cons] at h
    split at h
    · rename_i e
      cases h
      exact ⟨d, List.mem_cons_self, (eq_of_beq e).symm, rfl⟩
    · obtain ⟨d', m, e⟩ := tabX_get (xs := xs) h
      exact ⟨d', List.mem_cons_of_mem _ m, e⟩
/-- what the defs need of them -/
structure ExsOk (ca : Str → Addr) (P : Program) (w : World) (K : PySem.W.Frag) (mg : Str → Option Value) (base : Heap) (xs : List (Str × List Str)) : Prop where
  exs : ∀ x flds, xs.lookup x = some flds → ErrC ca P w K mg base x flds ∧ ExcC K (ca x) ∧ XfC K (ca x)
  prs : ∀ x y, (xs.lookup x).isSome = true → (xs.lookup y).isSome = true → PySem.W.exmOne K (.ref (ca y)) (.ref (ca x)) = some (catches x y) ∧ PySem.W.kitOne K (.ref (ca y)) (.ref (ca x)) = some (catches x y)
  nof : ∀ x f, (xs.lookup x).isSome = true → (xs.any fun q => q.2.contains f) = true → PySem.W.findIn K (.ref (ca x)) f = some none
theorem exs_ok {P : Program} {w : World} {K : PySem.W.Frag} {h base : Heap} {mg : Str → Option Value} {fa : List He.Fa} {fn : List He.DefD} {x : Xtra} (X : K.In h) (G : h.Ns mainGlobals mg) (c : SaysM fa fn x K) (hfile : P.main.file = x.file) (htop : x.exs ≠ [] → (P.main.scope.names.lookup ("super" : Str)).isSome = false)
    (bnd : ∀ d ∈ x.exs, d.flds ≠ [] → ∀ (kV doc pm : Value) (an : Option Addr) (cdv ct : Value) (cc : Addr) (us : List Value), us.length = ((("self" : Str)) :: d.flds).length → bindArgs (PySem.W.ksFn "__init__" d.qual d.params d.body d.scope .none kV doc pm an cdv ct cc) ⟨us, []⟩ = pure ((("self" : Str) :: d.flds).zip us)) :
    ExsOk (He.ga K) P w K mg base (tabX x.exs) := by
  obtain ⟨_, hx⟩ := c.c
  simp only [excsB, Bool.and_eq_true, List.all_eq_true, Bool.or_eq_true, oB, decide_eq_true_eq] at hx
  obtain ⟨⟨h1, h2⟩, h3⟩ := hx
  simp only [pairsB, List.all_eq_true, Bool.and_eq_true, decide_eq_true_eq, oB] at h2
  have get : ∀ {y : Str}, ((tabX x.exs).lookup y).isSome = true → ∃ d ∈ x.exs, d.name = y := fun hy => by
    obtain ⟨fl, e⟩ := Option.isSome_iff_exists.mp hy
    obtain ⟨d, m, e1, _⟩ := tabX_get e
    exact ⟨d, m, e1⟩
  refine ⟨fun y fl e => ?_, fun y z ey ez => ?_, fun y f ey ef => ?_⟩
  · obtain ⟨d, m, rfl, rfl⟩ := tabX_get e
    have hb := h1 d m
    rw [← hfile] at hb
    have hn : x.exs ≠ [] := fun z => by rw [z] at m; cases m
    have hs : mg "super" = none := PySem.W.mg_none_of X G (h3.resolve_left fun z => hn (List.isEmpty_iff.mp z))
    exact ⟨exc_at X G hb (map_eq_mem c.o d m) (fun g hg => (h2 d m).2 d m g hg) hs (htop hn) (bnd d m), exc_is hb⟩
  · obtain ⟨d, m, rfl⟩ := get ey
    obtain ⟨d', m', rfl⟩ := get ez
    exact (h2 d m).1 d' m'
  · obtain ⟨d, m, rfl⟩ := get ey
    obtain ⟨q, hq, hf⟩ := List.any_eq_true.mp ef
    obtain ⟨d', m', rfl⟩ := List.mem_map.mp hq
    exact (h2 d m).2 d' m' f (List.contains_iff_mem.mp hf)

/-! ### the defs together -/
section
variable {F : Type} [DecidableEq F]
def fnScopeB (N ps : List Str) (sc : Scope) : Bool := sc.kind == .function && !sc.isCoroutine && !sc.isGenerator && decide N.Nodup && decide (N.take ps.length = ps) && (ps.all fun x => locB sc x) && (sc.names.all fun y => y.2 != .free)
theorem fnScopeB_ok {N ps : List Str} {sc : Scope} (h : fnScopeB N ps sc = true) : FnScope N ps sc := by
  unfold fnScopeB at h
  simp only [Bool.and_eq_true, Bool.not_eq_true', decide_eq_true_eq, List.all_eq_true, beq_iff_eq, bne_iff_ne] at h
  obtain ⟨⟨⟨⟨⟨⟨h1, h2⟩, h3⟩, h4⟩, h5⟩, h6⟩, h7⟩ := h
  exact ⟨h1, h2, h3, h4, h5, fun x m => locB_ok (h6 x m), h7⟩
/-- where a def stands, its slots' names -/
structure DefI where
  d : He.DefD
  N : List Str
def mcOf (i : DefI) (tab : List (Str × F)) (cst : List (Str × PV)) (exs : List (Str × List Str)) : MC F := { N := i.N, sc := i.d.scope, fn := fun _ => true, fns := tab, cst := cst, exs := exs }
def okDef (fd : Fd F) (i : DefI) (tab : List (Str × F)) (cst : List (Str × PV)) (exs : List (Str × List Str)) : Bool :=
  fnScopeB i.N (i.N.take fd.np) i.d.scope && decide (i.N.length = fd.np + fd.nl) && (fd.ios.all fun j => decide (j < fd.np)) && mSs (mS 60 (mcOf i tab cst exs)) fd.body i.d.body
theorem fns_ok {D : F → Fd F} {info : F → DefI} {tab : List (Str × F)} {cst : List (Str × PV)} {P : Program} {w : World} {K : PySem.W.Frag} {mg : Str → Option Value} {base : Heap} {ca : Str → Addr} {exs : List (Str × List Str)} (hx : ExsOk ca P w K mg base exs)
    (hd : ∀ f, ∃ fd, FunD K (info f).d.name (info f).d.qual (info f).d.params (info f).d.body (info f).d.scope [] [] (He.fAd K (info f).d.at_) fd)
    (hm : ∀ x f, tab.lookup x = some f → mg x = some (.ref (He.fAd K (info f).d.at_)))
    (hc : ∀ x p, cst.lookup x = some p → GlR ⟨K, w, ca⟩ mg x p)
    (hb : ∀ x ∈ bltNames, mg x = none)
    (chk : ∀ f, okDef (D f) (info f) tab cst exs = true)
    (bnd : ∀ f (kV doc pm : Value) (an : Option Addr) (cdv ct : Value) (us : List Value), us.length = ((info f).N.take (D f).np).length → bindArgs (PySem.W.fnOf (info f).d.name (info f).d.qual (info f).d.params (info f).d.body (info f).d.scope .none kV doc pm an cdv ct) ⟨us, []⟩ = pure (((info f).N.take (D f).np).zip us)) :
    ∀ (k : Nat) (f : F) (fd : FuncData), FunD K (info f).d.name (info f).d.qual (info f).d.params (info f).d.body (info f).d.scope [] [] (He.fAd K (info f).d.at_) fd →
      FnOk P w K mg base (L2.CX P w) (k + 2) (He.fAd K (info f).d.at_) fd ((info f).N.take (D f).np) (SpF ⟨K, w, ca⟩ (evF D k f))
  | 0, f, fd, _ => fn_0
  | k + 1, f, fd, hf => by
    have ih := fns_ok (P := P) (base := base) hx hd hm hc hb chk bnd k
    obtain ⟨oc, od, dV, kV, doc, pm, an, cdv, ct, osl, rfl, lk, hcd, _, _⟩ := hf.ex
    have c := chk f
    unfold okDef at c
    simp only [Bool.and_eq_true, decide_eq_true_eq, List.all_eq_true] at c
    obtain ⟨⟨⟨c1, c2⟩, c3⟩, c4⟩ := c
    have S := fnScopeB_ok c1
    refine fn_M (n := k) (k := k + 2) (G := ⟨K, w, ca⟩) (D := D) (f := f) lk hcd S (by rw [List.length_take]; omega) c2 c3 fun A outer s H E fx hfx hr => ?_
    have kk : COk (mcOf (info f) tab cst exs) (evF D k) ⟨K, w, ca⟩ (fun v d _ H' => E v d H') (cxOf (L2.CX P w) P w K mg base (info f).N (info f).d.qual (info f).d.scope (He.fAd K (info f).d.at_) cdv A outer s H E) :=
      { N := rfl, sc := rfl, fn := rfl, nd := S.nd, K := ⟨rfl, rfl⟩, calm := fun _ => rfl, rm := fun _ => hr.mono (by omega), un := by have := hr.un; show (A.deeper _).units + 100 < cLine; omega, tk := takes_of rfl rfl rfl rfl
        fns := fun x g hx => by
          obtain ⟨fd2, F2⟩ := hd g
          exact ⟨k + 2, _, fd2, _, ih g fd2 F2, hr, hm x g hx, F2.kp, F2.bindsN (bnd g)⟩
        cst := hc, blt := hb, exs := hx.exs, prs := hx.prs, nof := hx.nof }
    exact mSs_ok (fun st a q => mS_ok 60 _ _ _ kk (passes_of rfl) ⟨rfl, rfl⟩ st a fx q) c4
end
end Mi

set_option Elab.async false
set_option linter.all false
set_option maxRecDepth 100000
set_option maxHeartbeats 4000000
/-! The end of a law's row. -/
namespace Mi
open PySem PySem.Spec PyProof.Rows L2

/-- whatever the world -/
def CXW (P : Program) : CXT := fun outer H s E u s' => ∃ w, L2.CX P w outer H s E u s'
theorem fnOk_cx {P : Program} {w : World} {K : PySem.W.Frag} {mg : Str → Option Value} {base : Heap} {k : Nat} {f : Addr} {fd : FuncData} {ps : List Str} {sp : Sp} (F : FnOk P w K mg base (L2.CX P w) k f fd ps sp) : FnOk P w K mg base (CXW P) k f fd ps sp :=
  ⟨F.len, fun A outer s H args us vs Q E hr he hb hv hs => codeAny_mono (F.run A outer s H args us vs Q E hr he hb hv hs) fun r s' h => by
    cases r with
    | ok v => cases v <;> exact h
    | error e => exact ⟨w, h⟩⟩
theorem cxw_no {P : Program} (H : Hp) (s : Shared) (e : Value) (s' : Shared) (h : CXW P [] H s (fun _ _ _ => False) e s') : False := by
  obtain ⟨w, a, B, H', cls, d, _, _, _, _, _, _, _, h⟩ := h
  exact h
/-- the law's promise from the evaluator's answer -/
theorem law_sp {c : List Sl → CR} {K : PySem.W.Frag} {w : World} {ca : Str → Addr} {H : Hp} {a : Addr} {ns : List Int} {fin : List Sl} (hO : Only H) (hS : SqL K H a (ns.map V.int)) (h : c [.v (.scr ns)] = .ret (.v (.bl true)) fin) : SpF ⟨K, w, ca⟩ c [.ref a] H (fun v _ => v = .bl true) fun _ _ _ => False := by
  refine ⟨[.v (.scr ns)], [⟨some (.ref a), .v (.scr ns), [], fun _ => False⟩], [], rfl, rfl, ?_, ?_⟩
  · have e0 : Stt K w H [] := ⟨(fun e m => by cases m), List.nodup_nil, (fun e m => by cases m)⟩
    have hq : ScrQ K H a (ns.map V.int) := by
      rcases hS with (h | ⟨o, h⟩) | h
      · rcases hO a with e | ⟨o, xs, e⟩ <;> (rw [e] at h; cases h)
      · exact .inl ⟨o, h⟩
      · exact .inr h
    exact e0.addV (p := .scr ns) (v := .ref a) (z := fun _ => False) ⟨a, rfl, hq⟩ (fun _ h => h.elim) (fun e m => by cases m)
  · rw [h]
    intro v H' P' Te _ _ r st
    obtain ⟨z, rfl⟩ := r
    obtain ⟨_, _, u, e, k⟩ := st.ok _ (List.mem_append_right _ (List.mem_append_left _ List.mem_cons_self))
    cases e
    exact k
end Mi

set_option Elab.async false
set_option linter.all false
set_option maxRecDepth 100000
set_option maxHeartbeats 4000000
/-! Plain tools: loops, sets of names, texts. -/
namespace Mi
open PySem PySem.Spec PyProof.Rows L2

/-! ### slots -/
@[simp] theorem at_nil (i : Nat) : Evn.at [] i = .u := by unfold Evn.at; rfl

/-! ### loops -/
theorem forL_ind {c : Evn → Prop} {f : PV → Evn → R Fl} {xs : List PV} {ρ0 : Evn} (I : List PV → Evn → Prop) (h0 : I [] ρ0)
    (hs : ∀ pre x suf ρ, xs = pre ++ x :: suf → I pre ρ → c ρ ∧ ∃ ρ', f x ρ = .ok .nx ρ' ∧ I (pre ++ [x]) ρ') (hc : ∀ ρ, I xs ρ → c ρ) : ∃ ρ', forL c f xs ρ0 = .ok .nx ρ' ∧ I xs ρ' := by
  have key : ∀ (suf pre : List PV) (ρ : Evn), xs = pre ++ suf → I pre ρ → ∃ ρ', forL c f suf ρ = .ok .nx ρ' ∧ I xs ρ' := by
    intro suf
    induction suf with
    | nil =>
      intro pre ρ e i
      rw [List.append_nil] at e
      subst e
      exact ⟨ρ, by simp [forL, hc ρ i], i⟩
    | cons x suf ih =>
      intro pre ρ e i
      obtain ⟨hcc, ρ1, e1, i1⟩ := hs pre x suf ρ e i
      obtain ⟨ρ', e2, i2⟩ := ih (pre ++ [x]) ρ1 (by rw [e, List.append_assoc]; rfl) i1
      exact ⟨ρ', by simp [forL, hcc, e1, e2], i2⟩
  exact key xs [] ρ0 rfl h0
/-- some item ends the walk -/
theorem forL_hit {c : Evn → Prop} {f : PV → Evn → R Fl} {pre : List PV} {x : PV} {suf : List PV} {ρ0 : Evn} {t : Tm} (I : List PV → Evn → Prop) (h0 : I [] ρ0)
    (hs : ∀ p y s ρ, pre = p ++ y :: s → I p ρ → c ρ ∧ ∃ ρ', f y ρ = .ok .nx ρ' ∧ I (p ++ [y]) ρ') (hc : ∀ ρ, I pre ρ → c ρ) (hx : ∀ ρ, I pre ρ → ∃ ρ', f x ρ = .ok (.rt t) ρ') : ∃ ρ', forL c f (pre ++ x :: suf) ρ0 = .ok (.rt t) ρ' := by
  have key : ∀ (s p : List PV) (ρ : Evn), pre = p ++ s → I p ρ → ∃ ρ', forL c f (s ++ x :: suf) ρ = .ok (.rt t) ρ' := by
    intro s
    induction s with
    | nil =>
      intro p ρ e i
      rw [List.append_nil] at e
      subst e
      obtain ⟨ρ', e1⟩ := hx ρ i
      exact ⟨ρ', by simp [forL, hc ρ i, e1]⟩
    | cons y s ih =>
      intro p ρ e i
      obtain ⟨hcc, ρ1, e1, i1⟩ := hs p y s ρ e i
      obtain ⟨ρ', e2⟩ := ih (p ++ [y]) ρ1 (by rw [e, List.append_assoc]; rfl) i1
      exact ⟨ρ', by simp [forL, hcc, e1, e2]⟩
  exact key pre [] ρ0 rfl h0
/-- a comprehension whose body leaves the slots as they are -/
theorem lcL_pure {c : Evn → Prop} {f : PV → Evn → R (Option PV)} {xs : List PV} {acc : List PV} {ρ : Evn} (g : PV → Option PV) (hc : c ρ) (h : ∀ x ∈ xs, f x ρ = .ok (g x) ρ) (hl : acc.length + xs.length ≤ lim) : lcL c f xs acc ρ = .ok (acc ++ xs.filterMap g) ρ := by
  induction xs generalizing acc with
  | nil => simp [lcL, hc]
  | cons x xs ih =>
    simp only [List.length_cons] at hl
    rw [lcL, if_pos hc, h x List.mem_cons_self, R.bd_ok]
    cases e : g x with
    | none =>
      simp only
      rw [ih (fun y m => h y (List.mem_cons_of_mem _ m)) (by omega), List.filterMap_cons_none e]
    | some y =>
      simp only
      rw [if_pos (by omega), ih (fun y m => h y (List.mem_cons_of_mem _ m)) (by rw [List.length_append, List.length_singleton]; omega), List.filterMap_cons_some e, List.append_assoc]
      rfl
theorem lcL_map {c : Evn → Prop} {f : PV → Evn → R (Option PV)} {xs : List PV} {ρ : Evn} (g : PV → PV) (hc : c ρ) (h : ∀ x ∈ xs, f x ρ = .ok (some (g x)) ρ) (hl : xs.length ≤ lim) : lcL c f xs [] ρ = .ok (xs.map g) ρ := by
  rw [lcL_pure (fun x => some (g x)) hc h (by simpa using hl)]
  simp
theorem lcL_filter {c : Evn → Prop} {f : PV → Evn → R (Option PV)} {xs : List PV} {ρ : Evn} (p : PV → Bool) (hc : c ρ) (h : ∀ x ∈ xs, f x ρ = .ok (if p x then some x else none) ρ) (hl : xs.length ≤ lim) : lcL c f xs [] ρ = .ok (xs.filter p) ρ := by
  rw [lcL_pure (fun x => if p x then some x else none) hc h (by simpa using hl)]
  congr 1
  rw [List.nil_append]
  clear h hl hc
  induction xs with
  | nil => rfl
  | cons x xs ih => by_cases hp : p x = true <;> simp [List.filterMap_cons, List.filter_cons, hp, ih]
/-- keys with a value each -/
def kSet (ks : List (PV × PV)) (x : PV) : List (PV × PV) := dPut ks x (.bl true)
theorem dcL_fold {c : Evn → Prop} {f : PV → Evn → R (Option (PV × PV))} {xs : List PV} {acc : List (PV × PV)} {ρ : Evn} (g : PV → PV × PV) (hc : c ρ) (h : ∀ x ∈ xs, f x ρ = .ok (some (g x)) ρ) (P : List (PV × PV) → Prop) (hP : P acc) (hk : ∀ a x, x ∈ xs → P a → keyLike (g x).1 a = true ∧ P (dPut a (g x).1 (g x).2))
    (hl : acc.length + xs.length ≤ lim) : dcL c f xs acc ρ = .ok (xs.foldl (fun a x => dPut a (g x).1 (g x).2) acc) ρ := by
  have len : ∀ (a : List (PV × PV)) k v, (dPut a k v).length ≤ a.length + 1 := by
    intro a k v
    unfold dPut
    split <;> simp
  induction xs generalizing acc with
  | nil => simp [dcL, hc]
  | cons x xs ih =>
    simp only [List.length_cons] at hl
    have q := hk acc x List.mem_cons_self hP
    rw [dcL, if_pos hc, h x List.mem_cons_self, R.bd_ok]
    simp only
    rw [if_pos ⟨q.1, by omega⟩, ih (fun y m => h y (List.mem_cons_of_mem _ m)) q.2 (fun a y m => hk a y (List.mem_cons_of_mem _ m)) (by have := len acc (g x).1 (g x).2; omega)]
    rfl

/-! ### sets of names -/
def strLt (a b : Str) : Bool := (listOrd itemOrd).blt (PySem.W.keyToks (.str a)) (PySem.W.keyToks (.str b))
def csort (xs : List Str) : List Str := xs.mergeSort fun a b => !strLt b a
/-- each once, as they come first -/
def once (xs : List Str) : List Str := xs.foldl (fun acc x => if x ∈ acc then acc else acc ++ [x]) []
def csOf (xs : List Str) : List Str := csort (once xs)
def Inc (xs : List Str) : Prop := xs.Pairwise fun a b => strLt a b = true
end Mi

set_option Elab.async false
set_option linter.all false
set_option maxRecDepth 100000
set_option maxHeartbeats 1000000
/-! Plain tools: operations on numbers, texts, tuples of names. -/
namespace Mi
open PySem

mutual
/-- data without truth values, whose == is equality -/
def PV.nb : PV → Bool
  | .non | .int _ | .str _ => true
  | .tup xs | .lst xs => nbs xs
  | .bl _ | .dct _ | .ins _ _ | .scr _ => false
def nbs : List PV → Bool
  | [] => true
  | x :: xs => x.nb && nbs xs
end
mutual
theorem nb_plain : ∀ (p : PV), p.nb = true → p.plain = true
  | .non, _ => rfl | .int _, _ => rfl | .str _, _ => rfl
  | .tup xs, h => by simp only [PV.nb, PV.plain] at *; exact nbs_plain xs h
  | .lst xs, h => by simp only [PV.nb, PV.plain] at *; exact nbs_plain xs h
  | .bl _, h => by simp [PV.nb] at h
  | .dct _, h => by simp [PV.nb] at h
  | .ins _ _, h => by simp [PV.nb] at h
  | .scr _, h => by simp [PV.nb] at h
theorem nbs_plain : ∀ (ps : List PV), nbs ps = true → plains ps = true
  | [], _ => rfl
  | x :: xs, h => by
    simp only [nbs, plains, Bool.and_eq_true] at *
    exact ⟨nb_plain x h.1, nbs_plain xs h.2⟩
end
mutual
theorem eqv_nb : ∀ (a b : PV), a.nb = true → b.nb = true → PyData.eqv a.toD b.toD = decide (a = b)
  | .non, b, _, hb => by cases b <;> simp_all [PV.nb, PV.toD, PyData.eqv]
  | .int i, b, _, hb => by
    cases b <;> simp_all [PV.nb, PV.toD, PyData.eqv]
    rw [Bool.eq_iff_iff]; simp
  | .str i, b, _, hb => by
    cases b <;> simp_all [PV.nb, PV.toD, PyData.eqv]
    rw [Bool.eq_iff_iff]; simp
  | .tup xs, b, ha, hb => by
    cases b <;> simp_all [PV.nb, PV.toD, PyData.eqv]
    exact eqvs_nb xs _ ha hb
  | .lst xs, b, ha, hb => by
    cases b <;> simp_all [PV.nb, PV.toD, PyData.eqv]
    exact eqvs_nb xs _ ha hb
  | .bl _, _, h, _ => by simp [PV.nb] at h
  | .dct _, _, h, _ => by simp [PV.nb] at h
  | .ins _ _, _, h, _ => by simp [PV.nb] at h
  | .scr _, _, h, _ => by simp [PV.nb] at h
theorem eqvs_nb : ∀ (a b : List PV), nbs a = true → nbs b = true → PyData.eqvAll (toDs a) (toDs b) = decide (a = b)
  | [], [], _, _ => rfl
  | [], _ :: _, _, _ => by simp [toDs, PyData.eqvAll]
  | _ :: _, [], _, _ => by simp [toDs, PyData.eqvAll]
  | x :: xs, y :: ys, ha, hb => by
    simp only [nbs, Bool.and_eq_true] at ha hb
    simp only [toDs, PyData.eqvAll]
    rw [eqv_nb x y ha.1 hb.1, eqvs_nb xs ys ha.2 hb.2, Bool.eq_iff_iff]
    simp
end
/-- comparable, and == is equality -/
def PV.sim (p : PV) : Bool := p.nb && decide (p.dep ≤ 60)
theorem sim_eqOk {p : PV} (h : p.sim = true) : p.eqOk = true := by
  unfold PV.sim at h
  simp only [Bool.and_eq_true] at h
  unfold PV.eqOk
  rw [nb_plain p h.1, h.2]; rfl
theorem pvEq_sim {a b : PV} (ha : a.sim = true) (hb : b.sim = true) : pvEq a b = decide (a = b) := by
  unfold PV.sim at ha hb
  simp only [Bool.and_eq_true] at ha hb
  exact eqv_nb a b ha.1 hb.1
theorem ev_eq {a b : PV} (ha : a.sim = true) (hb : b.sim = true) : evP .eq [a, b] = some (.bl (decide (a = b))) := by
  simp [evP, two, sim_eqOk ha, sim_eqOk hb, pvEq_sim ha hb]
theorem ev_ne {a b : PV} (ha : a.sim = true) (hb : b.sim = true) : evP .ne [a, b] = some (.bl (!decide (a = b))) := by
  simp [evP, two, sim_eqOk ha, sim_eqOk hb, pvEq_sim ha hb]
@[simp] theorem ev_eq_str (a b : Str) : evP .eq [.str a, .str b] = some (.bl (decide (a = b))) := by rw [ev_eq rfl rfl]; simp
@[simp] theorem ev_ne_str (a b : Str) : evP .ne [.str a, .str b] = some (.bl (!decide (a = b))) := by rw [ev_ne rfl rfl]; simp
@[simp] theorem ev_eq_int (a b : Int) : evP .eq [.int a, .int b] = some (.bl (decide (a = b))) := by rw [ev_eq rfl rfl]; simp
@[simp] theorem ev_ne_int (a b : Int) : evP .ne [.int a, .int b] = some (.bl (!decide (a = b))) := by rw [ev_ne rfl rfl]; simp
@[simp] theorem ev_ne_bl (a b : Bool) : evP .ne [.bl a, .bl b] = some (.bl (!decide (a = b))) := by cases a <;> cases b <;> rfl
@[simp] theorem ev_eq_bl (a b : Bool) : evP .eq [.bl a, .bl b] = some (.bl (decide (a = b))) := by cases a <;> cases b <;> rfl
@[simp] theorem ev_add_int (a b : Int) : evP .add [.int a, .int b] = some (.int (a + b)) := rfl
@[simp] theorem ev_sub_int (a b : Int) : evP .sub [.int a, .int b] = some (.int (a - b)) := rfl
@[simp] theorem ev_lt_int (a b : Int) : evP .lt [.int a, .int b] = some (.bl (decide (a < b))) := rfl
@[simp] theorem ev_le_int (a b : Int) : evP .le [.int a, .int b] = some (.bl (decide (a ≤ b))) := rfl
@[simp] theorem ev_gt_int (a b : Int) : evP .gt [.int a, .int b] = some (.bl (decide (b < a))) := rfl
@[simp] theorem ev_ge_int (a b : Int) : evP .ge [.int a, .int b] = some (.bl (decide (b ≤ a))) := rfl
@[simp] theorem ev_neg_int (a : Int) : evP .neg [.int a] = some (.int (-a)) := rfl
@[simp] theorem ev_abs_int (a : Int) : evP .abs [.int a] = some (.int (if a < 0 then -a else a)) := rfl
theorem ev_mul_int {a b : Int} (h : -(2 ^ 64) < b ∧ b < 2 ^ 64) : evP .mul [.int a, .int b] = some (.int (a * b)) := by
  simp only [evP, two, pMul]
  rw [if_pos (dec_iff.mpr (.inr h))]
theorem ev_mul_int' {a b : Int} (h : -(2 ^ 64) < a ∧ a < 2 ^ 64) : evP .mul [.int a, .int b] = some (.int (a * b)) := by
  simp only [evP, two, pMul]
  rw [if_pos (dec_iff.mpr (.inl h))]
theorem ev_mod_int {a b : Int} (h : 0 < b) : evP .mod [.int a, .int b] = some (.int (a % b)) := by
  simp [evP, two, pInt, h]
theorem ev_fdiv_int {a b : Int} (h : 0 < b ∧ b < 1073741824) : evP .fdiv [.int a, .int b] = some (.int (a / b)) := by
  simp only [evP, two, pInt]
  rw [if_pos (dec_iff.mpr h)]
@[simp] theorem ev_isNon (a : PV) : evP .isNon [a] = some (.bl (isNonP a)) := rfl
@[simp] theorem ev_notNon (a : PV) : evP .notNon [a] = some (.bl (!isNonP a)) := rfl
@[simp] theorem ev_isTrue (b : Bool) : evP .isTrue [.bl b] = some (.bl b) := by cases b <;> rfl
@[simp] theorem ev_isFalse (b : Bool) : evP .isFalse [.bl b] = some (.bl !b) := by cases b <;> rfl
@[simp] theorem ev_len_tup (xs : List PV) : evP .len [.tup xs] = some (.int xs.length) := rfl
@[simp] theorem ev_len_lst (xs : List PV) : evP .len [.lst xs] = some (.int xs.length) := rfl
@[simp] theorem ev_len_scr (xs : List Int) : evP .len [.scr xs] = some (.int xs.length) := rfl
theorem ev_len_str {a : Str} (h : a.length ≤ lim) : evP .len [.str a] = some (.int a.length) := by
  simp only [evP, one, pLen]
  rw [if_pos h]; rfl
@[simp] theorem ev_tuple_tup (xs : List PV) : evP .tuple [.tup xs] = some (.tup xs) := rfl
@[simp] theorem ev_tuple_lst (xs : List PV) : evP .tuple [.lst xs] = some (.tup xs) := rfl
@[simp] theorem ev_list_tup (xs : List PV) : evP .list [.tup xs] = some (.lst xs) := rfl
@[simp] theorem ev_list_lst (xs : List PV) : evP .list [.lst xs] = some (.lst xs) := rfl
@[simp] theorem ev_list_dct (ks : List (PV × PV)) : evP .list [.dct ks] = some (.lst (ks.map (·.1))) := rfl
@[simp] theorem ev_rev_tup (xs : List PV) : evP .rev [.tup xs] = some (.tup xs.reverse) := rfl
theorem ev_add_tup {a b : List PV} (h : a.length + b.length ≤ lim) : evP .add [.tup a, .tup b] = some (.tup (a ++ b)) := by
  simp only [evP, two, pAdd]
  rw [if_pos h]
theorem ev_add_lst {a b : List PV} (h : a.length + b.length ≤ lim) : evP .add [.lst a, .lst b] = some (.lst (a ++ b)) := by
  simp only [evP, two, pAdd]
  rw [if_pos h]
theorem ev_add_str {a b : Str} (h : a.length + b.length ≤ lim) : evP .add [.str a, .str b] = some (.str (a ++ b)) := by
  simp only [evP, two, pAdd]
  rw [if_pos h]
theorem atI_nat {α : Type} {xs : List α} {i : Nat} (h : i < xs.length) : L2.atI xs (i : Int) = some xs[i] := by
  unfold L2.atI
  have e : L2.ixN xs.length (i : Int) = some i := by unfold L2.ixN; simp [h]
  rw [e]
  simp [h]
@[simp] theorem ev_ix_tup0 (x : PV) (xs : List PV) : evP .ix [.tup (x :: xs), .int 0] = some x := atI_nat (i := 0) (xs := x :: xs) (by simp)
@[simp] theorem ev_ix_tup1 (x y : PV) (xs : List PV) : evP .ix [.tup (x :: y :: xs), .int 1] = some y := atI_nat (i := 1) (xs := x :: y :: xs) (by simp)
@[simp] theorem ev_ix_tup2 (x y z : PV) (xs : List PV) : evP .ix [.tup (x :: y :: z :: xs), .int 2] = some z := atI_nat (i := 2) (xs := x :: y :: z :: xs) (by simp)
@[simp] theorem ev_ix_lst0 (x : PV) (xs : List PV) : evP .ix [.lst (x :: xs), .int 0] = some x := atI_nat (i := 0) (xs := x :: xs) (by simp)
theorem ev_ix_tup {xs : List PV} {i : Nat} (h : i < xs.length) : evP .ix [.tup xs, .int (i : Int)] = some xs[i] := atI_nat h
theorem ev_ix_lst {xs : List PV} {i : Nat} (h : i < xs.length) : evP .ix [.lst xs, .int (i : Int)] = some xs[i] := atI_nat h
theorem ev_ix_scr {xs : List Int} {i : Nat} (h : i < xs.length) : evP .ix [.scr xs, .int (i : Int)] = some (.int xs[i]) := by
  show (L2.atI xs (i : Int)).map PV.int = _
  rw [atI_nat h]; rfl
/-! ### names -/
abbrev SS (xs : List Str) : List PV := xs.map PV.str
abbrev ST (xs : List Str) : PV := .tup (SS xs)
theorem nbs_SS : ∀ xs : List Str, nbs (SS xs) = true
  | [] => rfl
  | x :: xs => by simp only [SS, List.map_cons, nbs, PV.nb, Bool.true_and]; exact nbs_SS xs
theorem deps_SS : ∀ xs : List Str, deps (SS xs) = 0
  | [] => rfl
  | x :: xs => by simp only [SS, List.map_cons, deps, PV.dep]; have := deps_SS xs; simp only [SS] at this; rw [this]; rfl
theorem sim_ST (xs : List Str) : (ST xs).sim = true := by
  unfold PV.sim
  simp only [ST, PV.nb, PV.dep, nbs_SS, deps_SS]
  rfl
theorem sim_LS (xs : List Str) : (PV.lst (SS xs)).sim = true := by
  unfold PV.sim
  simp only [PV.nb, PV.dep, nbs_SS, deps_SS]
  rfl
theorem SS_inj {xs ys : List Str} : SS xs = SS ys ↔ xs = ys := ⟨fun h => by
  have := congrArg (List.map fun p : PV => match p with | .str x => x | _ => default) h
  simpa [SS, Function.comp_def] using this, fun h => by rw [h]⟩
theorem pIn_str (x : Str) (xs : List Str) : pIn (.str x) (ST xs) = some (decide (x ∈ xs)) := by
  have h : ∀ xs : List Str, (SS xs).all PV.eqOk = true := fun xs => by
    rw [List.all_eq_true]
    intro p m
    obtain ⟨y, _, rfl⟩ := List.mem_map.mp m
    rfl
  have e : ∀ xs : List Str, ((SS xs).any fun y => pvEq y (.str x)) = decide (x ∈ xs) := fun xs => by
    induction xs with
    | nil => rfl
    | cons y ys ih =>
      simp only [SS, List.map_cons, List.any_cons] at ih ⊢
      rw [ih, pvEq_sim rfl rfl, Bool.eq_iff_iff]
      simp only [Bool.or_eq_true, decide_eq_true_eq, List.mem_cons, PV.str.injEq]
      exact or_congr_left ⟨Eq.symm, Eq.symm⟩
  simp only [pIn]
  rw [h, e]
  rfl
@[simp] theorem ev_in_str (x : Str) (xs : List Str) : evP .isIn [.str x, ST xs] = some (.bl (decide (x ∈ xs))) := by
  show (pIn _ _).map PV.bl = _
  rw [pIn_str]; rfl
@[simp] theorem ev_notIn_str (x : Str) (xs : List Str) : evP .notIn [.str x, ST xs] = some (.bl (!decide (x ∈ xs))) := by
  show (pIn _ _).map (fun c => PV.bl (!c)) = _
  rw [pIn_str]; rfl
@[simp] theorem ev_in_ltr (x : Str) (xs : List Str) : evP .isIn [.str x, .lst (SS xs)] = some (.bl (decide (x ∈ xs))) := by
  show (pIn _ _).map PV.bl = _
  have : pIn (.str x) (.lst (SS xs)) = pIn (.str x) (ST xs) := rfl
  rw [this, pIn_str]; rfl
end Mi

set_option Elab.async false
set_option linter.all false
set_option maxRecDepth 100000
set_option maxHeartbeats 1000000
/-! Plain tools: sets of names. -/
namespace Mi
open PySem PyProof.Rows

theorem strLt_irrefl (a : Str) : strLt a a = false := (listOrd itemOrd).irrefl _
theorem strLt_trans {a b c : Str} (h : strLt a b = true) (h2 : strLt b c = true) : strLt a c = true := (listOrd itemOrd).trans _ _ _ h h2
theorem strLt_total {a b : Str} (h : strLt a b = false) (h2 : strLt b a = false) : a = b := by
  have q := (listOrd itemOrd).total _ _ h h2
  simp only [PySem.W.keyToks, List.cons.injEq, Sum.inr.injEq, and_true] at q
  cases a; cases b
  simp only [Str.mk.injEq]
  exact Array.toList_inj.mp q
theorem strLt_ne {a b : Str} (h : strLt a b = true) : a ≠ b := fun e => by rw [e, strLt_irrefl] at h; cases h
theorem strLt_asymm {a b : Str} (h : strLt a b = true) : strLt b a = false := by
  cases e : strLt b a with
  | false => rfl
  | true =>
    have := strLt_trans h e
    rw [strLt_irrefl] at this; cases this
theorem le_trans' (a b c : Str) (h1 : (!strLt b a) = true) (h2 : (!strLt c b) = true) : (!strLt c a) = true := by
  rw [Bool.not_eq_true'] at *
  cases e : strLt c a with
  | false => rfl
  | true =>
    rcases (listOrd itemOrd).negTrans _ (PySem.W.keyToks (.str b)) _ e with q | q
    · rw [show strLt c b = true from q] at h2; cases h2
    · rw [show strLt b a = true from q] at h1; cases h1
theorem le_total' (a b : Str) : (!strLt b a || !strLt a b) = true := by
  cases e : strLt b a with
  | false => rfl
  | true => rw [strLt_asymm e]; rfl
theorem Inc.nodup {xs : List Str} (h : Inc xs) : xs.Nodup := List.Pairwise.imp (fun h => strLt_ne h) h
theorem inc_ext {xs ys : List Str} (hx : Inc xs) (hy : Inc ys) (h : ∀ a, a ∈ xs ↔ a ∈ ys) : xs = ys :=
  List.Perm.eq_of_pairwise (le := fun a b => strLt a b = true) (fun a b _ _ h h' => by rw [strLt_asymm h] at h'; cases h') hx hy ((List.perm_ext_iff_of_nodup hx.nodup hy.nodup).mpr h)
theorem csort_perm (xs : List Str) : (csort xs).Perm xs := List.mergeSort_perm _ _
theorem csort_pw (xs : List Str) : (csort xs).Pairwise fun a b => (!strLt b a) = true := List.pairwise_mergeSort le_trans' le_total' xs
theorem csort_inc {xs : List Str} (h : xs.Nodup) : Inc (csort xs) := by
  have nd : (csort xs).Nodup := (csort_perm xs).nodup_iff.mpr h
  refine List.Pairwise.imp₂ (fun a b h1 h2 => ?_) (csort_pw xs) nd
  cases e : strLt a b with
  | true => rfl
  | false =>
    rw [Bool.not_eq_true'] at h1
    exact absurd (strLt_total e h1) h2
def onceF (acc xs : List Str) : List Str := xs.foldl (fun acc x => if x ∈ acc then acc else acc ++ [x]) acc
theorem onceF_mem : ∀ (xs acc : List Str) (a : Str), a ∈ onceF acc xs ↔ a ∈ acc ∨ a ∈ xs
  | [], acc, a => by simp [onceF]
  | x :: xs, acc, a => by
    show a ∈ onceF (if x ∈ acc then acc else acc ++ [x]) xs ↔ _
    rw [onceF_mem xs]
    split
    · rename_i h
      simp only [List.mem_cons]
      constructor
      · rintro (q | q)
        · exact .inl q
        · exact .inr (.inr q)
      · rintro (q | rfl | q)
        · exact .inl q
        · exact .inl h
        · exact .inr q
    · simp only [List.mem_append, List.mem_singleton, List.mem_cons, or_assoc, List.not_mem_nil, false_or]
theorem onceF_nodup : ∀ (xs acc : List Str), acc.Nodup → (onceF acc xs).Nodup
  | [], acc, h => h
  | x :: xs, acc, h => by
    show (onceF (if x ∈ acc then acc else acc ++ [x]) xs).Nodup
    refine onceF_nodup xs _ ?_
    split
    · exact h
    · rename_i hx
      rw [List.nodup_append]
      refine ⟨h, by simp, fun a ha b hb => ?_⟩
      rw [List.mem_singleton.mp hb]
      exact fun e => hx (e ▸ ha)
theorem once_eq (xs : List Str) : once xs = onceF [] xs := rfl
theorem once_mem {xs : List Str} {a : Str} : a ∈ once xs ↔ a ∈ xs := by rw [once_eq, onceF_mem]; simp
theorem once_nodup (xs : List Str) : (once xs).Nodup := onceF_nodup xs [] List.nodup_nil
theorem onceF_len : ∀ (xs acc : List Str), (onceF acc xs).length ≤ acc.length + xs.length
  | [], acc => Nat.le_refl _
  | x :: xs, acc => by
    have := onceF_len xs (if x ∈ acc then acc else acc ++ [x])
    show (onceF (if x ∈ acc then acc else acc ++ [x]) xs).length ≤ _
    have e : (if x ∈ acc then acc else acc ++ [x]).length ≤ acc.length + 1 := by split <;> simp
    simp only [List.length_cons]
    omega
theorem csOf_mem {xs : List Str} {a : Str} : a ∈ csOf xs ↔ a ∈ xs := by
  unfold csOf csort
  rw [List.mem_mergeSort, once_mem]
theorem csOf_inc (xs : List Str) : Inc (csOf xs) := csort_inc (once_nodup xs)
theorem csOf_eq {xs ys : List Str} (h : Inc ys) (hm : ∀ a, a ∈ ys ↔ a ∈ xs) : csOf xs = ys := inc_ext (csOf_inc xs) h fun a => by rw [csOf_mem, hm]
theorem csOf_self {xs : List Str} (h : Inc xs) : csOf xs = xs := csOf_eq h fun _ => Iff.rfl
theorem csOf_len (xs : List Str) : (csOf xs).length ≤ xs.length := by
  unfold csOf csort
  rw [List.length_mergeSort]
  exact Nat.le_trans (onceF_len xs []) (by simp)
/-! ### sorted, of names -/
theorem sort_names (xs : List Str) : pSort (SS xs) = some (SS (csort xs)) := by
  unfold pSort
  have h1 : SS xs ≠ [.tup []] := by
    intro e
    cases xs with
    | nil => cases e
    | cons x xs => simp [SS] at e
  rw [if_neg h1]
  have ht : ∀ d, d ∈ (SS xs).map PV.toD → ∃ x, d = PyData.str x := fun d hd => by
    obtain ⟨p, hp, rfl⟩ := List.mem_map.mp hd
    obtain ⟨x, _, rfl⟩ := List.mem_map.mp hp
    exact ⟨x, rfl⟩
  rw [if_pos]
  · congr 1
    unfold csort
    symm
    refine List.map_mergeSort fun a ha b hb => ?_
    rfl
  · refine And.intro (fun d hd d' hd' => ?_) (And.intro (Or.inr (fun d hd => ?_)) (fun p hp => ?_))
    · obtain ⟨x, rfl⟩ := ht d hd
      obtain ⟨y, rfl⟩ := ht d' hd'
      rfl
    · obtain ⟨x, rfl⟩ := ht d hd
      exact ⟨(fun e => nomatch e), (fun _ e => nomatch e)⟩
    · obtain ⟨x, _, rfl⟩ := List.mem_map.mp hp
      exact ⟨rfl, Nat.zero_le _⟩
theorem ev_sorted_names (xs : List Str) : evP .sorted [.lst (SS xs)] = some (.lst (SS (csort xs))) := by
  simp only [evP, one]
  rw [sort_names]
  rfl
/-! ### dicts of names -/
theorem keyLike_names {x : Str} {v : PV} {ks : List (PV × PV)} (h : ∀ q ∈ ks, ∃ y, q.1 = PV.str y) : keyLike (.str x) ks = true := by
  unfold keyLike
  rw [Bool.and_eq_true, List.all_eq_true]
  refine ⟨rfl, fun q m => ?_⟩
  obtain ⟨y, e⟩ := h q m
  rw [e]; rfl
theorem dPut_keys (ks : List (PV × PV)) (k v : PV) : (dPut ks k v).map (·.1) = if k ∈ ks.map (·.1) then ks.map (·.1) else ks.map (·.1) ++ [k] := by
  have e : (ks.any fun q => decide (q.1 = k)) = decide (k ∈ ks.map (·.1)) := by
    rw [Bool.eq_iff_iff, List.any_eq_true]
    simp only [decide_eq_true_eq, List.mem_map]
    
  unfold dPut
  rw [e]
  by_cases h : k ∈ ks.map (·.1)
  · rw [if_pos (decide_eq_true h), if_pos h, List.map_map]
    apply List.map_congr_left
    intro q _
    simp only [Function.comp]
    split <;> rfl
  · rw [if_neg (by simpa using h), if_neg h, List.map_append]
    rfl
theorem dFold_keys (v : PV) : ∀ (xs : List Str) (ks : List (PV × PV)) (acc : List Str), ks.map (·.1) = SS acc → (xs.foldl (fun a x => dPut a (.str x) v) ks).map (·.1) = SS (onceF acc xs)
  | [], ks, acc, h => h
  | x :: xs, ks, acc, h => by
    refine dFold_keys v xs _ (if x ∈ acc then acc else acc ++ [x]) ?_
    rw [dPut_keys, h]
    have e : (PV.str x ∈ SS acc) ↔ x ∈ acc := by simp [SS]
    by_cases hx : x ∈ acc
    · rw [if_pos (e.mpr hx), if_pos hx]
    · rw [if_neg (fun q => hx (e.mp q)), if_neg hx]
      simp [SS]
end Mi

set_option Elab.async false
set_option linter.all false
set_option maxRecDepth 100000
set_option maxHeartbeats 1000000
/-! Plain tools: dicts of names, slices, texts. -/
namespace Mi
open PySem

@[simp] theorem noEx_ok {α : Type} (a : α) (ρ : Evn) : noEx (R.ok a ρ) = R.ok a ρ := rfl
def dctN (v : PV) (xs : List Str) : List (PV × PV) := xs.foldl (fun a x => dPut a (.str x) v) []
@[simp] theorem dctN_keys (v : PV) (xs : List Str) : (dctN v xs).map (·.1) = SS (once xs) := dFold_keys v xs [] [] rfl
theorem dPut_names {v : PV} {a : List (PV × PV)} {y : Str} (hk : ∀ q ∈ a, ∃ y, q.1 = PV.str y) : ∀ q ∈ dPut a (.str y) v, ∃ y, q.1 = PV.str y := fun q hq => by
  have e : q.1 ∈ (dPut a (.str y) v).map (·.1) := List.mem_map.mpr ⟨q, hq, rfl⟩
  rw [dPut_keys] at e
  split at e
  · obtain ⟨q', hq', e'⟩ := List.mem_map.mp e
    obtain ⟨z, hz⟩ := hk q' hq'
    exact ⟨z, by rw [← e', hz]⟩
  · rcases List.mem_append.mp e with e | e
    · obtain ⟨q', hq', e'⟩ := List.mem_map.mp e
      obtain ⟨z, hz⟩ := hk q' hq'
      exact ⟨z, by rw [← e', hz]⟩
    · exact ⟨y, List.mem_singleton.mp e⟩
theorem dcL_names {c : Evn → Prop} {f : PV → Evn → R (Option (PV × PV))} {v : PV} {xs : List Str} {ρ : Evn} (hl : xs.length ≤ lim) (hc : c ρ) (h : ∀ x : Str, f (.str x) ρ = .ok (some (.str x, v)) ρ) : dcL c f (SS xs) [] ρ = .ok (dctN v xs) ρ := by
  rw [dcL_fold (fun x => (x, v)) hc (fun x m => by obtain ⟨y, _, rfl⟩ := List.mem_map.mp m; exact h y) (fun ks => ∀ q ∈ ks, ∃ y, q.1 = PV.str y) (by simp) (fun a x m hk => ?_) (by simpa using hl)]
  · unfold dctN
    simp only [SS, List.foldl_map]
  · obtain ⟨y, _, rfl⟩ := List.mem_map.mp m
    exact ⟨keyLike_names (v := .non) hk, dPut_names hk⟩
theorem ev_dictP_names (v : PV) (xs : List Str) : evP .dictP [.lst (xs.map fun x => .tup [.str x, v])] = some (.dct (dctN v xs)) := by
  have e : ∀ xs : List Str, pairs? (xs.map fun x => .tup [.str x, v]) = some (xs.map fun x => (.str x, v)) := fun xs => by
    induction xs with
    | nil => rfl
    | cons x xs ih => simp only [List.map_cons, pairs?, ih]; rfl
  have k : (match xs.map (fun x : Str => ((.str x, v) : PV × PV)) with | [] => true | q :: _ => keyLike q.1 (xs.map fun x => (.str x, v))) = true := by
    cases xs with
    | nil => rfl
    | cons x xs =>
      refine keyLike_names (v := .non) fun q m => ?_
      obtain ⟨y, _, rfl⟩ := List.mem_map.mp m
      exact ⟨y, rfl⟩
  simp only [evP, one, pDictP, e]
  refine (if_pos k).trans ?_
  unfold dctN
  rw [List.foldl_map]
@[simp] theorem ev_list_dctN (v : PV) (xs : List Str) : evP .list [.dct (dctN v xs)] = some (.lst (SS (once xs))) := by rw [ev_list_dct, dctN_keys]
/-! ### slices -/
theorem sIx_lo {n : Nat} : HT.sIx n 0 none = 0 := rfl
theorem sIx_hi {n : Nat} : HT.sIx n n none = n := rfl
theorem sIx_nat {n d i : Nat} : HT.sIx n d (some (i : Int)) = min i n := by
  unfold HT.sIx
  simp
  omega
theorem cut_lo {α : Type} (xs : List α) (i : Nat) : cutP xs (some (i : Int)) none = xs.drop i := by
  unfold cutP
  rw [sIx_nat, sIx_hi]
  by_cases h : i ≤ xs.length
  · rw [Nat.min_eq_left h, List.take_of_length_le (by rw [List.length_drop]; omega)]
  · rw [Nat.min_eq_right (by omega), List.drop_eq_nil_of_le (Nat.le_refl _), List.drop_eq_nil_of_le (by omega), List.take_nil]
theorem cut_hi {α : Type} (xs : List α) (i : Nat) : cutP xs none (some (i : Int)) = xs.take i := by
  unfold cutP
  rw [sIx_nat, sIx_lo, List.drop_zero, Nat.sub_zero]
  by_cases h : i ≤ xs.length
  · rw [Nat.min_eq_left h]
  · rw [Nat.min_eq_right (by omega), List.take_of_length_le (Nat.le_refl _), List.take_of_length_le (by omega)]
theorem ev_slcL_tup (xs : List PV) (i : Nat) : evP (.slc true false) [.tup xs, .int (i : Int)] = some (.tup (xs.drop i)) := by
  simp only [evP, two, pSlc, cut_lo]
theorem ev_slcL_lst (xs : List PV) (i : Nat) : evP (.slc true false) [.lst xs, .int (i : Int)] = some (.lst (xs.drop i)) := by
  simp only [evP, two, pSlc, cut_lo]
theorem ev_slcH_tup (xs : List PV) (i : Nat) : evP (.slc false true) [.tup xs, .int (i : Int)] = some (.tup (xs.take i)) := by
  simp only [evP, two, pSlc, cut_hi]
theorem ev_slcH_lst (xs : List PV) (i : Nat) : evP (.slc false true) [.lst xs, .int (i : Int)] = some (.lst (xs.take i)) := by
  simp only [evP, two, pSlc, cut_hi]
@[simp] theorem ev_slcL_tup1 (xs : List PV) : evP (.slc true false) [.tup xs, .int 1] = some (.tup (xs.drop 1)) := ev_slcL_tup xs 1
@[simp] theorem ev_slcL_tup2 (xs : List PV) : evP (.slc true false) [.tup xs, .int 2] = some (.tup (xs.drop 2)) := ev_slcL_tup xs 2
@[simp] theorem ev_slcL_lst1 (xs : List PV) : evP (.slc true false) [.lst xs, .int 1] = some (.lst (xs.drop 1)) := ev_slcL_lst xs 1
@[simp] theorem ev_slcH_tup1 (xs : List PV) : evP (.slc false true) [.tup xs, .int 1] = some (.tup (xs.take 1)) := ev_slcH_tup xs 1
@[simp] theorem ev_slcH_lst1 (xs : List PV) : evP (.slc false true) [.lst xs, .int 1] = some (.lst (xs.take 1)) := ev_slcH_lst xs 1
/-! ### texts -/
theorem strs_SS (xs : List Str) : strs? (SS xs) = some xs := by
  induction xs with
  | nil => rfl
  | cons x xs ih => simp only [SS, List.map_cons, strs?] at ih ⊢; rw [ih]; rfl
theorem ev_join_lst {a : Str} {xs : List Str} (h : (xs.map (·.length)).sum + xs.length * a.length ≤ 16777216) : evP .join [.str a, .lst (SS xs)] = some (.str (Txt.join a xs)) := by
  simp only [evP, two, pJoin, seqL, Option.bind_some, strs_SS]
  rw [if_pos h]
theorem ev_join_tup {a : Str} {xs : List Str} (h : (xs.map (·.length)).sum + xs.length * a.length ≤ 16777216) : evP .join [.str a, ST xs] = some (.str (Txt.join a xs)) := by
  simp only [evP, two, pJoin, seqL, Option.bind_some, strs_SS]
  rw [if_pos h]
theorem ev_split {a b : Str} (h : b.length ≠ 0 ∧ a.length + 2 ≤ lim) : evP .split [.str a, .str b] = some (.lst (SS (Txt.split a b))) := by
  simp only [evP, two, pSplit]
  rw [if_pos h]
/-! ### kinds -/
@[simp] theorem ev_isi_str (t : Ty) (a : Str) : evP (.isi t) [.str a] = some (.bl (isTy t (.str a))) := rfl
@[simp] theorem ev_isi_int (t : Ty) (a : Int) : evP (.isi t) [.int a] = some (.bl (isTy t (.int a))) := rfl
@[simp] theorem ev_isi_tup (t : Ty) (a : List PV) : evP (.isi t) [.tup a] = some (.bl (isTy t (.tup a))) := rfl
@[simp] theorem ev_isi_lst (t : Ty) (a : List PV) : evP (.isi t) [.lst a] = some (.bl (isTy t (.lst a))) := rfl
@[simp] theorem ev_isi_non (t : Ty) : evP (.isi t) [.non] = some (.bl (isTy t .non)) := rfl
@[simp] theorem ev_isi_bl (t : Ty) (b : Bool) : evP (.isi t) [.bl b] = some (.bl (isTy t (.bl b))) := rfl
@[simp] theorem isTy_bool_str (a : Str) : isTy .bool (.str a) = false := rfl
@[simp] theorem isTy_bool_int (a : Int) : isTy .bool (.int a) = false := rfl
@[simp] theorem isTy_bool_tup (a : List PV) : isTy .bool (.tup a) = false := rfl
@[simp] theorem isTy_bool_lst (a : List PV) : isTy .bool (.lst a) = false := rfl
@[simp] theorem isTy_bool_non : isTy .bool .non = false := rfl
@[simp] theorem isTy_int_str (a : Str) : isTy .int (.str a) = false := rfl
@[simp] theorem isTy_int_int (a : Int) : isTy .int (.int a) = true := rfl
@[simp] theorem isTy_int_tup (a : List PV) : isTy .int (.tup a) = false := rfl
@[simp] theorem isTy_int_lst (a : List PV) : isTy .int (.lst a) = false := rfl
@[simp] theorem isTy_str_str (a : Str) : isTy .str (.str a) = true := rfl
@[simp] theorem isTy_str_tup (a : List PV) : isTy .str (.tup a) = false := rfl
@[simp] theorem isTy_str_lst (a : List PV) : isTy .str (.lst a) = false := rfl
@[simp] theorem isTy_list_tup (a : List PV) : isTy .list (.tup a) = false := rfl
@[simp] theorem isTy_list_lst (a : List PV) : isTy .list (.lst a) = true := rfl
@[simp] theorem isTy_tuple_tup (a : List PV) : isTy .tuple (.tup a) = true := rfl
@[simp] theorem isTy_tuple_lst (a : List PV) : isTy .tuple (.lst a) = false := rfl
@[simp] theorem isNon_non : isNonP .non = true := rfl
@[simp] theorem isNon_str (a : Str) : isNonP (.str a) = false := rfl
@[simp] theorem isNon_int (a : Int) : isNonP (.int a) = false := rfl
@[simp] theorem isNon_tup (a : List PV) : isNonP (.tup a) = false := rfl
@[simp] theorem isNon_lst (a : List PV) : isNonP (.lst a) = false := rfl
theorem ev_range1 {n : Nat} (h : n ≤ 2 ^ 20) : evP .range1 [.int (n : Int)] = some (.lst (rangeL 0 n 1)) := by
  simp only [evP, one, onI]
  rw [if_pos (dec_iff.mpr (by omega))]
  rfl
theorem ev_range2 {a b : Nat} (hb : b ≤ 2 ^ 20) (ha : a ≤ 2 ^ 20) : evP .range2 [.int (a : Int), .int (b : Int)] = some (.lst (rangeL a (b - a) 1)) := by
  simp only [evP, two, onII]
  rw [if_pos (dec_iff.mpr (by omega))]
  have : ((b : Int) - (a : Int)).toNat = b - a := by omega
  rw [this]
theorem rangeL_eq (a n : Nat) : rangeL (a : Int) n 1 = (List.range n).map fun i => PV.int (((a + i : Nat)) : Int) := by
  unfold rangeL
  apply List.map_congr_left
  intro i _
  simp
end Mi

set_option Elab.async false
set_option linter.all false
set_option maxRecDepth 100000
set_option maxHeartbeats 1000000
/-! Plain tools: sizes, one call. -/
namespace Mi
open PySem
theorem lim_big : 10000000 ≤ lim := by unfold lim; rw [sizeLine_eq]; decide
theorem lcnt : True := trivial
@[simp] theorem lim_l0 : (0 ≤ lim) = True := by simp
@[simp] theorem lim_l1 : (1 ≤ lim) = True := by have := lim_big; simp only [eq_iff_iff, iff_true]; omega
@[simp] theorem lim_l2 : (2 ≤ lim) = True := by have := lim_big; simp only [eq_iff_iff, iff_true]; omega
@[simp] theorem lim_l3 : (3 ≤ lim) = True := by have := lim_big; simp only [eq_iff_iff, iff_true]; omega
@[simp] theorem lim_l4 : (4 ≤ lim) = True := by have := lim_big; simp only [eq_iff_iff, iff_true]; omega
@[simp] theorem lim_l5 : (5 ≤ lim) = True := by have := lim_big; simp only [eq_iff_iff, iff_true]; omega
@[simp] theorem lim_l6 : (6 ≤ lim) = True := by have := lim_big; simp only [eq_iff_iff, iff_true]; omega
@[simp] theorem lim_s0 : (0 < lim) = True := by have := lim_big; simp only [eq_iff_iff, iff_true]; omega
@[simp] theorem lim_s1 : (1 < lim) = True := by have := lim_big; simp only [eq_iff_iff, iff_true]; omega
@[simp] theorem lim_s2 : (2 < lim) = True := by have := lim_big; simp only [eq_iff_iff, iff_true]; omega
@[simp] theorem lim_s3 : (3 < lim) = True := by have := lim_big; simp only [eq_iff_iff, iff_true]; omega
theorem SS_append (xs ys : List Str) : SS (xs ++ ys) = SS xs ++ SS ys := List.map_append
/-- one call -/
theorem evF_s {F : Type} {D : F → Fd F} {n : Nat} {f : F} {ps : List Sl} {r : CR} (hl : ps.length = (D f).np)
    (h : (match evSs (evF D n) (D f).ios (D f).body (ps ++ List.replicate (D f).nl .u) with
      | .ok .nx ρ => CR.ret (.v .non) (maskE (D f).ios (D f).np ρ)
      | .ok (.rt t) ρ => .ret t (maskE (D f).ios (D f).np ρ)
      | .ex c fs ρ => .ex c fs (maskE (D f).ios (D f).np ρ)
      | .no => .no) = r) : evF D (n + 1) f ps = r := by
  rw [evF]
  simp only [hl, if_true]
  exact h
section
variable {α : Type} {c : Evn → Prop}
theorem lcL_mapL {f : PV → Evn → R (Option PV)} {xs : List α} {m : α → PV} {ρ : Evn} (g : α → PV) (hl : xs.length ≤ lim) (hc : c ρ) (h : ∀ x ∈ xs, f (m x) ρ = .ok (some (g x)) ρ) : lcL c f (xs.map m) [] ρ = .ok (xs.map g) ρ := by
  have key : ∀ (xs : List α) (acc : List PV), (∀ x ∈ xs, f (m x) ρ = .ok (some (g x)) ρ) → acc.length + xs.length ≤ lim → lcL c f (xs.map m) acc ρ = .ok (acc ++ xs.map g) ρ := by
    intro xs
    induction xs with
    | nil => intro acc _ _; simp [lcL, hc]
    | cons x xs ih =>
      intro acc h hl
      simp only [List.length_cons] at hl
      rw [List.map_cons, lcL, if_pos hc, h x List.mem_cons_self, R.bd_ok]
      simp only
      rw [if_pos (by omega), ih (acc ++ [g x]) (fun y q => h y (List.mem_cons_of_mem _ q)) (by rw [List.length_append, List.length_singleton]; omega), List.append_assoc]
      rfl
  have := key xs [] h (by simpa using hl)
  simpa using this
theorem lcL_filtL {f : PV → Evn → R (Option PV)} {xs : List α} {m : α → PV} {ρ : Evn} (p : α → Bool) (g : α → PV) (hl : xs.length ≤ lim) (hc : c ρ) (h : ∀ x ∈ xs, f (m x) ρ = .ok (if p x then some (g x) else none) ρ) : lcL c f (xs.map m) [] ρ = .ok ((xs.filter p).map g) ρ := by
  have key : ∀ (xs : List α) (acc : List PV), (∀ x ∈ xs, f (m x) ρ = .ok (if p x then some (g x) else none) ρ) → acc.length + xs.length ≤ lim → lcL c f (xs.map m) acc ρ = .ok (acc ++ (xs.filter p).map g) ρ := by
    intro xs
    induction xs with
    | nil => intro acc _ _; simp [lcL, hc]
    | cons x xs ih =>
      intro acc h hl
      simp only [List.length_cons] at hl
      rw [List.map_cons, lcL, if_pos hc, h x List.mem_cons_self, R.bd_ok]
      by_cases hp : p x = true
      · simp only [hp, if_true]
        rw [if_pos (by omega), ih (acc ++ [g x]) (fun y q => h y (List.mem_cons_of_mem _ q)) (by rw [List.length_append, List.length_singleton]; omega), List.append_assoc, List.filter_cons_of_pos hp]
        rfl
      · simp only [hp, if_false]
        rw [ih acc (fun y q => h y (List.mem_cons_of_mem _ q)) (by omega), List.filter_cons_of_neg hp]
        rfl
  have := key xs [] h (by simpa using hl)
  simpa using this
/-- a walk: the i-th turn leads from ρs i to ρs (i + 1) -/
theorem forL_seq {f : PV → Evn → R Fl} {xs : List α} {m : α → PV} (ρs : Nat → Evn) (hc : ∀ i, i ≤ xs.length → c (ρs i)) (h : ∀ i (hi : i < xs.length), f (m xs[i]) (ρs i) = .ok .nx (ρs (i + 1))) : forL c f (xs.map m) (ρs 0) = .ok .nx (ρs xs.length) := by
  have key : ∀ (suf pre : List α), xs = pre ++ suf → forL c f (suf.map m) (ρs pre.length) = .ok .nx (ρs xs.length) := by
    intro suf
    induction suf with
    | nil =>
      intro pre e
      rw [List.append_nil] at e
      subst e
      simp [forL, hc xs.length (Nat.le_refl _)]
    | cons x suf ih =>
      intro pre e
      have hi : pre.length < xs.length := by rw [e]; simp
      have hx : xs[pre.length] = x := by simp [e]
      have := h pre.length hi
      rw [hx] at this
      rw [List.map_cons, forL, if_pos (hc _ (Nat.le_of_lt hi)), this, R.bd_ok]
      have q := ih (pre ++ [x]) (by rw [e, List.append_assoc]; rfl)
      rw [List.length_append, List.length_singleton] at q
      exact q
  exact key xs [] rfl
/-- a walk that keeps I -/
theorem forL_inv {f : PV → Evn → R Fl} {xs : List α} {m : α → PV} {ρ : Evn} (I : Evn → Prop) (h0 : I ρ) (hc : ∀ ρ, I ρ → c ρ) (h : ∀ x ∈ xs, ∀ ρ, I ρ → ∃ ρ', f (m x) ρ = .ok .nx ρ' ∧ I ρ') : ∃ ρ', forL c f (xs.map m) ρ = .ok .nx ρ' ∧ I ρ' := by
  induction xs generalizing ρ with
  | nil => exact ⟨ρ, by simp [forL, hc ρ h0], h0⟩
  | cons x xs ih =>
    obtain ⟨ρ1, e1, i1⟩ := h x List.mem_cons_self ρ h0
    obtain ⟨ρ2, e2, i2⟩ := ih i1 fun y q => h y (List.mem_cons_of_mem _ q)
    exact ⟨ρ2, by simp [forL, hc ρ h0, e1, e2], i2⟩
/-- a walk that keeps I until an item ends it -/
theorem forL_end {f : PV → Evn → R Fl} {pre : List α} {x : α} {suf : List α} {m : α → PV} {ρ : Evn} {t : Mi.Tm} (I : Evn → Prop) (h0 : I ρ) (hc : ∀ ρ, I ρ → c ρ) (h : ∀ x ∈ pre, ∀ ρ, I ρ → ∃ ρ', f (m x) ρ = .ok .nx ρ' ∧ I ρ') (hx : ∀ ρ, I ρ → ∃ ρ', f (m x) ρ = .ok (.rt t) ρ') : ∃ ρ', forL c f ((pre ++ x :: suf).map m) ρ = .ok (.rt t) ρ' := by
  induction pre generalizing ρ with
  | nil =>
    obtain ⟨ρ', e⟩ := hx ρ h0
    exact ⟨ρ', by simp [forL, hc ρ h0, e]⟩
  | cons y pre ih =>
    obtain ⟨ρ1, e1, i1⟩ := h y List.mem_cons_self ρ h0
    obtain ⟨ρ2, e2⟩ := ih i1 fun y q => h y (List.mem_cons_of_mem _ q)
    exact ⟨ρ2, by simp only [List.cons_append, List.map_cons]; simp [forL, hc ρ h0, e1]; simpa using e2⟩
end
theorem whL_count {cd : Evn → R Bool} {f : Evn → R Fl} (ρs : Nat → Evn) (k : Nat) (h : ∀ i, i < k → cd (ρs i) = .ok true (ρs i) ∧ f (ρs i) = .ok .nx (ρs (i + 1))) (he : cd (ρs k) = .ok false (ρs k)) (m : Nat) (hm : k < m) : whL cd f m (ρs 0) = .ok .nx (ρs k) := by
  have key : ∀ (d i m : Nat), i + d = k → d < m → whL cd f m (ρs i) = .ok .nx (ρs k) := by
    intro d
    induction d with
    | zero =>
      intro i m e hm
      obtain rfl : i = k := by omega
      cases m with
      | zero => omega
      | succ m => simp [whL, he]
    | succ d ih =>
      intro i m e hm
      cases m with
      | zero => omega
      | succ m =>
        obtain ⟨h1, h2⟩ := h i (by omega)
        simp only [whL, h1, R.bd_ok, if_true, h2]
        exact ih (i + 1) m (by omega) (by omega)
  exact key k 0 m (by omega) hm
theorem range_from0 {n : Nat} (h : n ≤ 1000000) : evP .range1 [.int (n : Int)] = some (.lst ((List.range n).map fun (i : Nat) => PV.int (i : Int))) := by
  rw [ev_range1 (Nat.le_trans h (by decide))]
  simp [rangeL]
theorem range_from {a n : Nat} (h : a + n ≤ 1000000) : evP .range2 [.int (a : Int), .int ((a : Int) + (n : Int))] = some (.lst ((List.range n).map fun (i : Nat) => PV.int ((a : Int) + (i : Int)))) := by
  simp only [evP, two, onII]
  rw [if_pos (dec_iff.mpr (by omega))]
  have : ((a : Int) + (n : Int) - (a : Int)).toNat = n := by omega
  rw [this]
  simp [rangeL]
theorem range_from1 {n : Nat} (h : n ≤ 900000) : evP .range2 [.int 1, .int ((n : Int) + 1)] = some (.lst ((List.range n).map fun (i : Nat) => PV.int (1 + (i : Int)))) := by
  have e := range_from (a := 1) (n := n) (by omega)
  rw [Int.add_comm (n : Int) 1]
  exact e
theorem forL_end' {α : Type} {c : Evn → Prop} {f : PV → Evn → R Fl} {pre : List α} {y : PV} {suf : List PV} {m : α → PV} {ρ : Evn} {t : Mi.Tm} (I : Evn → Prop) (h0 : I ρ) (hc : ∀ ρ, I ρ → c ρ) (h : ∀ x ∈ pre, ∀ ρ, I ρ → ∃ ρ', f (m x) ρ = .ok .nx ρ' ∧ I ρ') (hx : ∀ ρ, I ρ → ∃ ρ', f y ρ = .ok (.rt t) ρ') : ∃ ρ', forL c f (pre.map m ++ y :: suf) ρ = .ok (.rt t) ρ' := by
  induction pre generalizing ρ with
  | nil =>
    obtain ⟨ρ', e⟩ := hx ρ h0
    exact ⟨ρ', by simp [forL, hc ρ h0, e]⟩
  | cons z pre ih =>
    obtain ⟨ρ1, e1, i1⟩ := h z List.mem_cons_self ρ h0
    obtain ⟨ρ2, e2⟩ := ih i1 fun y q => h y (List.mem_cons_of_mem _ q)
    exact ⟨ρ2, by simp [forL, hc ρ h0, e1, e2]⟩
@[simp] theorem env_id {α : Type} (r : R α) : r.env id = r := by cases r <;> rfl
/-- a comprehension whose body changes the slots -/
theorem lcL_ind {α : Type} {c : Evn → Prop} {f : PV → Evn → R (Option PV)} {xs : List α} {m : α → PV} {ρ : Evn} (I : List PV → Evn → Prop) (h0 : I [] ρ) (hl : xs.length ≤ lim)
    (hs : ∀ x ∈ xs, ∀ acc ρ, I acc ρ → c ρ ∧ ∃ y ρ', f (m x) ρ = .ok (some y) ρ' ∧ I (acc ++ [y]) ρ') (hc : ∀ acc ρ, I acc ρ → c ρ) : ∃ ys ρ', lcL c f (xs.map m) [] ρ = .ok ys ρ' ∧ ys.length = xs.length ∧ I ys ρ' := by
  have key : ∀ (xs : List α) (acc : List PV) (ρ : Evn), acc.length + xs.length ≤ lim → I acc ρ → (∀ x ∈ xs, ∀ acc ρ, I acc ρ → c ρ ∧ ∃ y ρ', f (m x) ρ = .ok (some y) ρ' ∧ I (acc ++ [y]) ρ') → ∃ ys ρ', lcL c f (xs.map m) acc ρ = .ok ys ρ' ∧ ys.length = acc.length + xs.length ∧ I ys ρ' := by
    intro xs
    induction xs with
    | nil => intro acc ρ _ i _; exact ⟨acc, ρ, by simp [lcL, hc acc ρ i], by simp, i⟩
    | cons x xs ih =>
      intro acc ρ hl i hs
      simp only [List.length_cons] at hl
      obtain ⟨hcc, y, ρ1, e1, i1⟩ := hs x List.mem_cons_self acc ρ i
      obtain ⟨ys, ρ2, e2, l2, i2⟩ := ih (acc ++ [y]) ρ1 (by rw [List.length_append, List.length_singleton]; omega) i1 fun z q => hs z (List.mem_cons_of_mem _ q)
      refine ⟨ys, ρ2, ?_, by rw [l2, List.length_append, List.length_singleton, List.length_cons]; omega, i2⟩
      rw [List.map_cons, lcL, if_pos hcc, e1, R.bd_ok]
      simp only
      rw [if_pos (by omega), e2]
  obtain ⟨ys, ρ', h1, h2, h3⟩ := key xs [] ρ (by simpa using hl) h0 hs
  exact ⟨ys, ρ', h1, by simpa using h2, h3⟩
end Mi

set_option Elab.async false
set_option linter.all false
set_option maxRecDepth 100000
set_option maxHeartbeats 0
namespace Lw
open PySem PySem.Spec PyProof.Rows L2 Mi
inductive Fn where
  | is_name
  | check_names
  | head_names
  | read_parts
  | read_rule_words
  | read_written
  | rule_text
  | book_text
  | _law_same
  | _law_number
  | _law_draws
  | _law_pick
  | _law_picks
  | _law_set
  | _law_share
  | _law_some
  | _law_parts
  | _law_rule
  | _law_book
  | _law_rule_text
  | _law_text
  | _law_name
  | _law_read_rule
  | _law_read
  | _law_told
  | _law_changed
  | law
  deriving DecidableEq
def c_CLOSED_WORDS : PV := (.tup [(.str "columns"), (.str "tells"), (.str "many"), (.str "join"), (.str "table"), (.str "lies"), (.str "in"), (.str "some"), (.str "both"), (.str "less"), (.str "choose"), (.str "cut"), (.str "rename"), (.str "of")])
def c_FIGURES : PV := (.str "0123456789")
def c_MOST_NAME : PV := (.int 6)
def c_SMALL : PV := (.str "abcdefghijklmnopqrstuvwxyz")
def is_name_c1 : Ex Fn := .lc 0 (.fz 1) (.n 1) [1] (.var 0) [(.pr .notIn [(.var 1), (.pr .add [(.gl "SMALL" c_SMALL), (.gl "FIGURES" c_FIGURES)])])]
def b_is_name : List (Sm Fn) :=
  [.ite (.or [(.pr .eq [(.var 0), (.c (.str ""))]), (.pr .gt [(.pr .len [(.var 0)]), (.gl "MOST_NAME" c_MOST_NAME)]), (.pr .isIn [(.var 0), (.gl "CLOSED_WORDS" c_CLOSED_WORDS)]), (.pr .notIn [(.pr .ix [(.var 0), (.c (.int 0))]), (.gl "SMALL" c_SMALL)])])
     [.ret (.c (.bl false))]
     [],
   .ret (.pr .eq [(.pr .len [is_name_c1]), (.c (.int 0))])]
def check_names_s1 : Sm Fn := .for (.n 3) (.pr .range2 [(.var 2), (.pr .len [(.var 1)])])
     [.ite (.not (.call .is_name [(.pr .ix [(.var 1), (.var 3)])]))
        [.raise "BadText" ["line", "word"] [(.fz 0), (.fz 3)]]
        []]
def b_check_names : List (Sm Fn) :=
  [check_names_s1]
def b_head_names : List (Sm Fn) :=
  [.ite (.pr .ne [(.pr .ix [(.var 1), (.c (.int 0))]), (.var 2)])
     [.raise "BadText" ["line", "word"] [(.fz 0), (.c (.int 0))]]
     [],
   .ex (.call .check_names [(.var 0), (.var 1), (.c (.int 1))]),
   .ret (.pr .tuple [(.pr (.slc true false) [(.var 1), (.c (.int 1))])])]
def read_parts_s1 : Sm Fn := .for (.n 3) (.pr .range2 [(.c (.int 1)), (.pr .len [(.var 1)])])
     [.ite (.pr .eq [(.pr .ix [(.var 1), (.var 3)]), (.c (.str "/"))])
        [.ex (.mu .append 2 [(.tup [])])]
        [.ite (.call .is_name [(.pr .ix [(.var 1), (.var 3)])])
           [.setI 2 (.pr .neg [(.c (.int 1))]) (.pr .add [(.pr .ix [(.var 2), (.pr .neg [(.c (.int 1))])]), (.tup [(.pr .ix [(.var 1), (.var 3)])])])]
           [.raise "BadText" ["line", "word"] [(.fz 0), (.fz 3)]]]]
def b_read_parts : List (Sm Fn) :=
  [.asg 2 (.lst 0 [(.tup [])]),
   read_parts_s1,
   .ret (.pr .tuple [(.var 2)])]
def read_rule_words_s1 : Sm Fn := .wh (.and [(.pr .lt [(.var 2), (.pr .len [(.var 1)])]), (.call .is_name [(.pr .ix [(.var 1), (.var 2)])])])
     [.asg 2 (.pr .add [(.var 2), (.c (.int 1))])]
def b_read_rule_words : List (Sm Fn) :=
  [.ite (.pr .eq [(.pr .ix [(.var 1), (.c (.int 0))]), (.c (.str "join"))])
     [.ret (.tup [(.c (.str "join")), (.call .read_parts [(.var 0), (.var 1)])])]
     [],
   .asg 2 (.c (.int 0)),
   read_rule_words_s1,
   .ite (.or [(.pr .eq [(.var 2), (.pr .len [(.var 1)])]), (.pr .notIn [(.pr .ix [(.var 1), (.var 2)]), (.tup [(.c (.str "tells")), (.c (.str "many"))])])])
     [.raise "BadText" ["line", "word"] [(.fz 0), (.fz 2)]]
     [],
   .ex (.call .check_names [(.var 0), (.var 1), (.pr .add [(.var 2), (.c (.int 1))])]),
   .ret (.tup [(.pr .ix [(.var 1), (.var 2)]), (.pr .tuple [(.pr (.slc false true) [(.var 1), (.var 2)])]), (.pr .tuple [(.pr (.slc true false) [(.var 1), (.pr .add [(.var 2), (.c (.int 1))])])])])]
def read_written_s1 : Sm Fn := .for (.n 4) (.pr .range2 [(.c (.int 1)), (.pr .len [(.var 1)])])
     [.ex (.mu .append 3 [(.call .read_rule_words [(.var 4), (.me .split (.pr .ix [(.var 1), (.var 4)]) [(.c (.str " "))])])])]
def b_read_written : List (Sm Fn) :=
  [.asg 1 (.me .split (.var 0) [(.c (.str "\n"))]),
   .asg 2 (.call .head_names [(.c (.int 0)), (.me .split (.pr .ix [(.var 1), (.c (.int 0))]) [(.c (.str " "))]), (.c (.str "columns"))]),
   .asg 3 (.lst 0 []),
   read_written_s1,
   .ret (.tup [(.fz 2), (.pr .tuple [(.var 3)])])]
def rule_text_c1 : Ex Fn := .lc 0 (.me .join (.c (.str " ")) [(.var 1)]) (.n 1) [1] (.pr .ix [(.var 0), (.c (.int 1))]) []
def b_rule_text : List (Sm Fn) :=
  [.ite (.pr .eq [(.pr .ix [(.var 0), (.c (.int 0))]), (.c (.str "join"))])
     [.ret (.pr .add [(.c (.str "join ")), (.me .join (.c (.str " / ")) [rule_text_c1])])]
     [],
   .ret (.me .join (.c (.str " ")) [(.pr .add [(.pr .add [(.pr .list [(.pr .ix [(.var 0), (.c (.int 1))])]), (.lst 0 [(.pr .ix [(.var 0), (.c (.int 0))])])]), (.pr .list [(.pr .ix [(.var 0), (.c (.int 2))])])])])]
def book_text_c1 : Ex Fn := .lc 0 (.call .rule_text [(.var 2)]) (.n 2) [2] (.var 1) []
def b_book_text : List (Sm Fn) :=
  [.ret (.me .join (.c (.str "\n")) [(.pr .add [(.lst 0 [(.me .join (.c (.str " ")) [(.pr .add [(.lst 0 [(.c (.str "columns"))]), (.pr .list [(.var 0)])])])]), book_text_c1])])]
def _law_same_s1 : Sm Fn := .for (.n 2) (.pr .range1 [(.pr .len [(.var 1)])])
     [.ite (.not (.call ._law_same [(.pr .ix [(.var 0), (.var 2)]), (.pr .ix [(.var 1), (.var 2)])]))
        [.ret (.c (.bl false))]
        []]
def b__law_same : List (Sm Fn) :=
  [.ite (.or [(.pr (.isi .bool) [(.var 1)]), (.pr (.isi .bool) [(.var 0)])])
     [.ret (.and [(.pr (.isi .bool) [(.var 1)]), (.pr (.isi .bool) [(.var 0)]), (.pr .eq [(.var 0), (.var 1)])])]
     [],
   .ite (.or [(.pr .isNon [(.var 1)]), (.pr (.isi .int) [(.var 1)])])
     [.ret (.and [(.pr .eq [(.var 0), (.var 1)]), (.or [(.pr .isNon [(.var 1)]), (.pr (.isi .int) [(.var 0)])])])]
     [],
   .ite (.pr (.isi .str) [(.var 1)])
     [.ret (.and [(.pr (.isi .str) [(.var 0)]), (.pr .eq [(.var 0), (.var 1)])])]
     [],
   .ite (.or [(.pr .ne [(.pr (.isi .list) [(.var 1)]), (.pr (.isi .list) [(.var 0)])]), (.pr .ne [(.pr (.isi .tuple) [(.var 1)]), (.pr (.isi .tuple) [(.var 0)])])])
     [.ret (.c (.bl false))]
     [],
   .ite (.pr .ne [(.pr .len [(.var 0)]), (.pr .len [(.var 1)])])
     [.ret (.c (.bl false))]
     [],
   _law_same_s1,
   .ret (.c (.bl true))]
def b__law_number : List (Sm Fn) :=
  [.asg 2 (.pr .add [(.pr .mul [(.pr .sum [(.var 0)]), (.c (.int 31))]), (.pr .mul [(.c (.int 1000003)), (.pr .add [(.var 1), (.c (.int 1))])])]),
   .ite (.pr .lt [(.var 1), (.pr .len [(.var 0)])])
     [.asg 2 (.pr .ix [(.var 0), (.var 1)])]
     [],
   .ret (.pr .abs [(.var 2)])]
def _law_draws_s1 : Sm Fn := .for (.n 6) (.pr .range1 [(.var 2)])
        [.ex (.mu .append 5 [(.pr .mod [(.var 4), (.var 3)])]),
         .asg 4 (.pr .fdiv [(.var 4), (.var 3)])]
def _law_draws_s2 : Sm Fn := .for (.n 6) (.pr .range1 [(.var 2)])
     [.asg 7 (.pr .mod [(.pr .add [(.pr .add [(.pr .mul [(.var 7), (.c (.int 48271))]), (.pr .mul [(.c (.int 11)), (.var 6)])]), (.c (.int 7))]), (.c (.int 2147483647))]),
      .asg 8 (.pr .mod [(.pr .add [(.pr .add [(.pr .mul [(.var 7), (.var 7)]), (.pr .mul [(.c (.int 69621)), (.var 6)])]), (.c (.int 5))]), (.c (.int 2147483629))]),
      .ex (.mu .append 5 [(.pr .mod [(.pr .fdiv [(.var 8), (.c (.int 64))]), (.var 3)])])]
def b__law_draws : List (Sm Fn) :=
  [.asg 4 (.call ._law_number [(.var 0), (.var 1)]),
   .asg 5 (.lst 0 []),
   .ite (.pr .ge [(.var 4), (.pr .pow [(.c (.int 10)), (.c (.int 18))])])
     [.asg 4 (.pr .sub [(.var 4), (.pr .pow [(.c (.int 10)), (.c (.int 18))])]),
      _law_draws_s1,
      .ret (.mv 5)]
     [],
   .asg 7 (.pr .add [(.pr .mod [(.var 4), (.c (.int 2147483647))]), (.c (.int 1))]),
   _law_draws_s2,
   .ret (.mv 5)]
def b__law_pick : List (Sm Fn) :=
  [.ite (.pr .eq [(.pr .len [(.var 0)]), (.c (.int 0))])
     [.ret (.c (.int 0))]
     [],
   .ret (.mu .pop 0 [])]
def b__law_picks : List (Sm Fn) :=
  [.asg 3 (.call ._law_draws [(.var 0), (.var 1), (.var 2), (.c (.int 5040))]),
   .ex (.mu .reverse 3 []),
   .ret (.mv 3)]
def _law_set_c1 : Ex Fn := .lc 0 (.tup [(.fz 1), (.c (.int 0))]) (.n 1) [1] (.var 0) []
def b__law_set : List (Sm Fn) :=
  [.ret (.pr .tuple [(.pr .sorted [(.pr .list [(.pr .dictP [_law_set_c1])])])])]
def _law_share_c1 : Ex Fn := .lc 0 (.fz 2) (.n 2) [2] (.var 0) [(.pr .isIn [(.var 2), (.var 1)])]
def b__law_share : List (Sm Fn) :=
  [.ret (.pr .tuple [_law_share_c1])]
def _law_some_c1 : Ex Fn := .lc 0 (.pr .ix [(.var 1), (.var 3)]) (.n 3) [3] (.pr .range1 [(.pr .len [(.var 1)])]) [(.pr .eq [(.pr .mod [(.pr .fdiv [(.var 2), (.pr .shl [(.c (.int 1)), (.var 3)])]), (.c (.int 2))]), (.c (.int 1))])]
def b__law_some : List (Sm Fn) :=
  [.asg 2 (.call ._law_pick [(.io 0)]),
   .ret (.pr .tuple [_law_some_c1])]
def _law_parts_s1 : Sm Fn := .for (.n 4) (.pr .range1 [(.var 2)])
     [.asg 5 (.call ._law_some [(.io 0), (.var 1)]),
      .ex (.mu .append 3 [(.ite (.pr .gt [(.pr .len [(.var 5)]), (.c (.int 0))]) (.fz 5) (.pr (.slc false true) [(.var 1), (.c (.int 1))]))])]
def _law_parts_c1 : Ex Fn := .lc 0 (.fz 5) (.n 5) [5] (.var 3) [(.pr .isIn [(.var 7), (.var 5)])]
def _law_parts_c2 : Ex Fn := .lc 0 (.fz 7) (.n 7) [7] (.var 1) [(.pr .eq [(.pr .len [_law_parts_c1]), (.c (.int 0))])]
def b__law_parts : List (Sm Fn) :=
  [.asg 3 (.lst 0 []),
   _law_parts_s1,
   .asg 6 _law_parts_c2,
   .setI 3 (.c (.int 0)) (.call ._law_set [(.pr .add [(.pr .list [(.pr .ix [(.var 3), (.c (.int 0))])]), (.var 6)])]),
   .ret (.pr .tuple [(.var 3)])]
def b__law_rule : List (Sm Fn) :=
  [.asg 3 (.pr .ix [(.var 2), (.pr .mod [(.call ._law_pick [(.io 0)]), (.pr .len [(.var 2)])])]),
   .ite (.pr .eq [(.var 3), (.c (.str "join"))])
     [.ret (.tup [(.c (.str "join")), (.call ._law_parts [(.io 0), (.var 1), (.pr .add [(.c (.int 2)), (.pr .mod [(.call ._law_pick [(.io 0)]), (.c (.int 2))])])])])]
     [],
   .asg 4 (.call ._law_share [(.call ._law_some [(.io 0), (.var 1)]), (.call ._law_some [(.io 0), (.var 1)])]),
   .asg 5 (.call ._law_some [(.io 0), (.var 1)]),
   .ite (.pr .eq [(.pr .len [(.var 5)]), (.c (.int 0))])
     [.asg 5 (.tup [(.pr .ix [(.var 1), (.pr .mod [(.call ._law_pick [(.io 0)]), (.pr .len [(.var 1)])])])])]
     [],
   .ret (.tup [(.fz 3), (.fz 4), (.fz 5)])]
def _law_book_c1 : Ex Fn := .lc 0 (.call ._law_rule [(.io 5), (.var 6), (.var 3)]) (.n 8) [8] (.pr .range1 [(.pr .mod [(.call ._law_pick [(.io 5)]), (.pr .add [(.var 4), (.c (.int 1))])])]) []
def b__law_book : List (Sm Fn) :=
  [.asg 5 (.call ._law_picks [(.var 0), (.var 1), (.c (.int 80))]),
   .asg 6 (.pr (.slc false true) [(.tup [(.c (.str "a")), (.c (.str "b")), (.c (.str "c")), (.c (.str "d")), (.c (.str "e")), (.c (.str "f"))]), (.var 2)]),
   .asg 7 _law_book_c1,
   .ret (.tup [(.fz 6), (.pr .tuple [(.var 7)])])]
def _law_rule_text_c1 : Ex Fn := .lc 0 (.me .join (.c (.str " ")) [(.var 1)]) (.n 1) [1] (.pr .ix [(.var 0), (.c (.int 1))]) []
def b__law_rule_text : List (Sm Fn) :=
  [.ite (.pr .eq [(.pr .ix [(.var 0), (.c (.int 0))]), (.c (.str "join"))])
     [.ret (.pr .add [(.c (.str "join ")), (.me .join (.c (.str " / ")) [_law_rule_text_c1])])]
     [],
   .ret (.me .join (.c (.str " ")) [(.pr .add [(.pr .add [(.pr .list [(.pr .ix [(.var 0), (.c (.int 1))])]), (.lst 0 [(.pr .ix [(.var 0), (.c (.int 0))])])]), (.pr .list [(.pr .ix [(.var 0), (.c (.int 2))])])])])]
def _law_text_c1 : Ex Fn := .lc 0 (.call ._law_rule_text [(.var 1)]) (.n 1) [1] (.pr .ix [(.var 0), (.c (.int 1))]) []
def b__law_text : List (Sm Fn) :=
  [.ret (.me .join (.c (.str "\n")) [(.pr .add [(.lst 0 [(.me .join (.c (.str " ")) [(.pr .add [(.lst 0 [(.c (.str "columns"))]), (.pr .list [(.pr .ix [(.var 0), (.c (.int 0))])])])])]), _law_text_c1])])]
def _law_name_c1 : Ex Fn := .lc 0 (.fz 2) (.n 2) [2] (.var 0) [(.pr .notIn [(.var 2), (.c (.str "abcdefghijklmnopqrstuvwxyz0123456789"))])]
def b__law_name : List (Sm Fn) :=
  [.asg 1 (.lst 0 [(.c (.str "columns")), (.c (.str "tells")), (.c (.str "many")), (.c (.str "join")), (.c (.str "table")), (.c (.str "lies")), (.c (.str "in")), (.c (.str "some")), (.c (.str "both")), (.c (.str "less")), (.c (.str "choose")), (.c (.str "cut")), (.c (.str "rename")), (.c (.str "of"))]),
   .ite (.or [(.pr .isIn [(.var 0), (.var 1)]), (.not (.chain .le .le (.c (.int 1)) (.pr .len [(.var 0)]) (.c (.int 6)))), (.pr .notIn [(.pr .ix [(.var 0), (.c (.int 0))]), (.c (.str "abcdefghijklmnopqrstuvwxyz"))])])
     [.ret (.c (.bl false))]
     [],
   .ret (.pr .eq [(.pr .len [_law_name_c1]), (.c (.int 0))])]
def _law_read_rule_s1 : Sm Fn := .for (.n 2) (.pr .range2 [(.c (.int 1)), (.pr .len [(.var 0)])])
        [.ite (.pr .eq [(.pr .ix [(.var 0), (.var 2)]), (.c (.str "/"))])
           [.ex (.mu .append 1 [(.tup [])])]
           [.ite (.call ._law_name [(.pr .ix [(.var 0), (.var 2)])])
              [.setI 1 (.pr .neg [(.c (.int 1))]) (.pr .add [(.pr .ix [(.var 1), (.pr .neg [(.c (.int 1))])]), (.tup [(.pr .ix [(.var 0), (.var 2)])])])]
              [.ret (.mv 2)]]]
def _law_read_rule_c1 : Ex Fn := .lc 0 (.fz 2) (.n 2) [2] (.pr .range1 [(.pr .len [(.var 0)])]) [(.not (.call ._law_name [(.pr .ix [(.var 0), (.var 2)])]))]
def b__law_read_rule : List (Sm Fn) :=
  [.ite (.pr .eq [(.pr .ix [(.var 0), (.c (.int 0))]), (.c (.str "join"))])
     [.asg 1 (.lst 0 [(.tup [])]),
      _law_read_rule_s1,
      .ret (.tup [(.c (.str "join")), (.pr .tuple [(.var 1)])])]
     [],
   .asg 3 _law_read_rule_c1,
   .ite (.pr .eq [(.pr .len [(.var 3)]), (.c (.int 0))])
     [.ret (.pr .len [(.var 0)])]
     [],
   .ite (.pr .notIn [(.pr .ix [(.var 0), (.pr .ix [(.var 3), (.c (.int 0))])]), (.tup [(.c (.str "tells")), (.c (.str "many"))])])
     [.ret (.pr .ix [(.var 3), (.c (.int 0))])]
     [],
   .ite (.pr .gt [(.pr .len [(.var 3)]), (.c (.int 1))])
     [.ret (.pr .ix [(.var 3), (.c (.int 1))])]
     [],
   .ret (.tup [(.pr .ix [(.var 0), (.pr .ix [(.var 3), (.c (.int 0))])]), (.pr .tuple [(.pr (.slc false true) [(.var 0), (.pr .ix [(.var 3), (.c (.int 0))])])]), (.pr .tuple [(.pr (.slc true false) [(.var 0), (.pr .add [(.pr .ix [(.var 3), (.c (.int 0))]), (.c (.int 1))])])])])]
def _law_read_c1 : Ex Fn := .lc 0 (.me .split (.var 2) [(.c (.str " "))]) (.n 2) [2] (.me .split (.var 0) [(.c (.str "\n"))]) []
def _law_read_s1 : Sm Fn := .for (.n 3) (.pr .range2 [(.c (.int 1)), (.pr .len [(.pr .ix [(.var 1), (.c (.int 0))])])])
     [.ite (.not (.call ._law_name [(.pr .ix [(.pr .ix [(.var 1), (.c (.int 0))]), (.var 3)])]))
        [.ret (.lst 0 [(.c (.int 0)), (.fz 3)])]
        []]
def _law_read_s2 : Sm Fn := .for (.n 5) (.pr .range2 [(.c (.int 1)), (.pr .len [(.var 1)])])
     [.asg 6 (.call ._law_read_rule [(.pr .ix [(.var 1), (.var 5)])]),
      .ite (.not (.pr (.isi .tuple) [(.var 6)]))
        [.ret (.lst 0 [(.fz 5), (.fz 6)])]
        [],
      .ex (.mu .append 4 [(.fz 6)])]
def b__law_read : List (Sm Fn) :=
  [.asg 1 _law_read_c1,
   .ite (.pr .ne [(.pr .ix [(.pr .ix [(.var 1), (.c (.int 0))]), (.c (.int 0))]), (.c (.str "columns"))])
     [.ret (.lst 0 [(.c (.int 0)), (.c (.int 0))])]
     [],
   _law_read_s1,
   .asg 4 (.lst 0 []),
   _law_read_s2,
   .ret (.tup [(.pr .tuple [(.pr (.slc true false) [(.pr .ix [(.var 1), (.c (.int 0))]), (.c (.int 1))])]), (.pr .tuple [(.var 4)])])]
def b__law_told : List (Sm Fn) :=
  [.tryR
     [.ret (.call .read_written [(.var 0)])]
    ["BadText"] "RuleError" 1 (.ite (.is "BadText") (.lst [(.fld "line"), (.fld "word")]) (.c .non))]
def _law_changed_c1 : Ex Fn := .lc 0 (.me .split (.var 3) [(.c (.str " "))]) (.n 3) [3] (.me .split (.var 0) [(.c (.str "\n"))]) []
def _law_changed_c2 : Ex Fn := .lc 0 (.me .join (.c (.str " ")) [(.var 3)]) (.n 3) [3] (.var 2) []
def b__law_changed : List (Sm Fn) :=
  [.asg 2 _law_changed_c1,
   .asg 4 (.pr .mod [(.call ._law_pick [(.io 1)]), (.pr .len [(.var 2)])]),
   .asg 3 (.pr .ix [(.var 2), (.var 4)]),
   .asg 5 (.pr .mod [(.call ._law_pick [(.io 1)]), (.pr .len [(.var 3)])]),
   .asg 6 (.pr .ix [(.lst 0 [(.c (.str "")), (.c (.str "tells")), (.c (.str "many")), (.c (.str "join")), (.c (.str "/")), (.c (.str "a")), (.c (.str "zz")), (.c (.str "columns")), (.c (.str "A")), (.c (.str "a-b")), (.c (.str "abcdefg")), (.c (.str "9a")), (.c (.str "c d")), (.c (.str "lies"))]), (.pr .mod [(.call ._law_pick [(.io 1)]), (.c (.int 14))])]),
   .asg 7 (.pr .mod [(.call ._law_pick [(.io 1)]), (.c (.int 6))]),
   .ite (.pr .lt [(.var 7), (.c (.int 4))])
     [.setI 2 (.var 4) (.pr .ix [(.lst 0 [(.pr .add [(.pr .add [(.pr (.slc false true) [(.var 3), (.var 5)]), (.lst 0 [(.fz 6)])]), (.pr (.slc true false) [(.var 3), (.pr .add [(.var 5), (.c (.int 1))])])]), (.pr .add [(.pr (.slc false true) [(.var 3), (.var 5)]), (.pr (.slc true false) [(.var 3), (.pr .add [(.var 5), (.c (.int 1))])])]), (.pr .add [(.pr .add [(.pr (.slc false true) [(.var 3), (.var 5)]), (.lst 0 [(.fz 6)])]), (.pr (.slc true false) [(.var 3), (.var 5)])]), (.pr .add [(.var 3), (.pr (.slc true false) [(.var 3), (.var 5)])])]), (.var 7)])]
     [.ite (.pr .eq [(.var 7), (.c (.int 4))])
        [.asg 2 (.pr .add [(.pr .add [(.pr (.slc false true) [(.var 2), (.var 4)]), (.lst 0 [(.lst 0 [(.fz 6)])])]), (.pr (.slc true false) [(.var 2), (.var 4)])])]
        [.asg 2 (.pr .add [(.pr .add [(.pr (.slc false true) [(.var 2), (.var 4)]), (.lst 0 [(.fz 3), (.lst 0 [(.c (.str ""))])])]), (.pr (.slc true false) [(.var 2), (.pr .add [(.var 4), (.c (.int 1))])])])]],
   .ret (.me .join (.c (.str "\n")) [_law_changed_c2])]
def law_s1 : Sm Fn := .for (.n 7) (.pr .range1 [(.pr .mod [(.var 5), (.c (.int 3))])])
        [.asg 6 (.call ._law_changed [(.var 6), (.io 3)])]
def law_s2 : Sm Fn := .for (.n 5) (.pr .range1 [(.c (.int 8))])
     [.asg 6 (.call ._law_changed [(.var 2), (.io 3)]),
      law_s1,
      .ex (.mu .append 4 [(.fz 6)])]
def law_c1 : Ex Fn := .lc 0 (.fz 11) (.n 11) [11] (.pr .ix [(.var 9), (.c (.int 1))]) [(.and [(.pr .eq [(.pr .ix [(.var 11), (.c (.int 0))]), (.c (.str "join"))]), (.pr .isIn [(.tup []), (.pr .ix [(.var 11), (.c (.int 1))])])])]
def law_s3 : Sm Fn := .for (.n 8) (.var 4)
     [.asg 9 (.call ._law_read [(.var 8)]),
      .asg 10 (.call ._law_told [(.var 8)]),
      .ite (.not (.call ._law_same [(.var 10), (.var 9)]))
        [.ret (.c (.bl false))]
        [],
      .ite (.and [(.pr (.isi .tuple) [(.var 9)]), (.pr .eq [(.pr .len [law_c1]), (.c (.int 0))])])
        [.ite (.not (.call ._law_same [(.call ._law_told [(.call .book_text [(.pr .ix [(.var 10), (.c (.int 0))]), (.pr .ix [(.var 10), (.c (.int 1))])])]), (.var 9)]))
           [.ret (.c (.bl false))]
           []]
        []]
def b_law : List (Sm Fn) :=
  [.asg 1 (.call ._law_draws [(.var 0), (.c (.int 0)), (.c (.int 2)), (.c (.int 720))]),
   .asg 2 (.call ._law_text [(.call ._law_book [(.var 0), (.c (.int 1)), (.pr .add [(.c (.int 1)), (.pr .mod [(.pr .ix [(.var 1), (.c (.int 0))]), (.c (.int 5))])]), (.lst 0 [(.c (.str "tells")), (.c (.str "many")), (.c (.str "join"))]), (.c (.int 4))])]),
   .asg 3 (.call ._law_picks [(.var 0), (.c (.int 2)), (.c (.int 80))]),
   .asg 4 (.lst 0 [(.c (.str "")), (.c (.str "columns")), (.c (.str "columns a\n")), (.c (.str "columns a\njoin")), (.c (.str "columns a b\na tells")), (.c (.str "columns a\ntells a")), (.pr .add [(.var 2), (.c (.str " "))]), (.pr .add [(.var 2), (.c (.str "\n"))])]),
   law_s2,
   law_s3,
   .ret (.c (.bl true))]
def D : Fn → Fd Fn
  | .is_name => ⟨1, 1, [], b_is_name⟩
  | .check_names => ⟨3, 1, [], b_check_names⟩
  | .head_names => ⟨3, 0, [], b_head_names⟩
  | .read_parts => ⟨2, 2, [], b_read_parts⟩
  | .read_rule_words => ⟨2, 1, [], b_read_rule_words⟩
  | .read_written => ⟨1, 4, [], b_read_written⟩
  | .rule_text => ⟨1, 1, [], b_rule_text⟩
  | .book_text => ⟨2, 1, [], b_book_text⟩
  | ._law_same => ⟨2, 1, [], b__law_same⟩
  | ._law_number => ⟨2, 1, [], b__law_number⟩
  | ._law_draws => ⟨4, 5, [], b__law_draws⟩
  | ._law_pick => ⟨1, 0, [0], b__law_pick⟩
  | ._law_picks => ⟨3, 1, [], b__law_picks⟩
  | ._law_set => ⟨1, 1, [], b__law_set⟩
  | ._law_share => ⟨2, 1, [], b__law_share⟩
  | ._law_some => ⟨2, 2, [0], b__law_some⟩
  | ._law_parts => ⟨3, 5, [0], b__law_parts⟩
  | ._law_rule => ⟨3, 3, [0], b__law_rule⟩
  | ._law_book => ⟨5, 4, [], b__law_book⟩
  | ._law_rule_text => ⟨1, 1, [], b__law_rule_text⟩
  | ._law_text => ⟨1, 1, [], b__law_text⟩
  | ._law_name => ⟨1, 2, [], b__law_name⟩
  | ._law_read_rule => ⟨1, 3, [], b__law_read_rule⟩
  | ._law_read => ⟨1, 6, [], b__law_read⟩
  | ._law_told => ⟨1, 1, [], b__law_told⟩
  | ._law_changed => ⟨2, 6, [1], b__law_changed⟩
  | .law => ⟨1, 11, [], b_law⟩
end Lw

set_option Elab.async false
set_option linter.all false
set_option maxRecDepth 100000
set_option maxHeartbeats 400000
namespace Lw
open PySem Mi
/-- a value that can be read at a slot -/
def Rd (p : PV) (s : Sl) : Prop := s = .v p ∨ s = .o 0 p
theorem set_v (n : Nat) (hn : 1 ≤ n) (xs : List Str) (hl : xs.length ≤ lim) (s : Sl) (hs : s = .v (ST xs) ∨ s = .v (.lst (SS xs)) ∨ s = .o 0 (.lst (SS xs))) : evF D n ._law_set [s] = .ret (.v (ST (csOf xs))) [.u] := by
  obtain ⟨n, rfl⟩ : ∃ m, n = m + 1 := ⟨n - 1, by omega⟩
  refine evF_s rfl ?_
  rcases hs with rfl | rfl | rfl
  all_goals
    simp [D, lcnt, R.of_some, R.of_none, Wk.chk, evSs, evS, evE, evEs, evAnd, evOr, tst, Mi.Tm.args, Mi.Tm.arg, Mi.Tm.dn, mkTm, Pr.fresh, maskE, Cn.pv, Mi.Tm.pars, Mi.Tm.par, ioSlots, lendT, callT, ioFree, afterCall, Mi.Tm.lent, giveBack, evMu, Mu.recv, Pr.recv, PV.tag, canSet, Sl.free, List.range_succ, Mi.Tm.walk, seqOf, bindS, bindT, Tg.is, wipeE, backE, unlock, Wk.ios, Mi.Tm.pureOk, ioPure, parT, evH, evHs, b__law_set, _law_set_c1]
    rw [lcL_mapL (fun x => .tup [.str x, .int 0]) hl (by simp [D, lcnt, R.of_some, R.of_none, Wk.chk, evSs, evS, evE, evEs, evAnd, evOr, tst, Mi.Tm.args, Mi.Tm.arg, Mi.Tm.dn, mkTm, Pr.fresh, maskE, Cn.pv, Mi.Tm.pars, Mi.Tm.par, ioSlots, lendT, callT, ioFree, afterCall, Mi.Tm.lent, giveBack, evMu, Mu.recv, Pr.recv, PV.tag, canSet, Sl.free, List.range_succ, Mi.Tm.walk, seqOf, bindS, bindT, Tg.is, wipeE, backE, unlock, Wk.ios, Mi.Tm.pureOk, ioPure, parT, evH, evHs, ]) (fun x m => by simp [D, lcnt, R.of_some, R.of_none, Wk.chk, evSs, evS, evE, evEs, evAnd, evOr, tst, Mi.Tm.args, Mi.Tm.arg, Mi.Tm.dn, mkTm, Pr.fresh, maskE, Cn.pv, Mi.Tm.pars, Mi.Tm.par, ioSlots, lendT, callT, ioFree, afterCall, Mi.Tm.lent, giveBack, evMu, Mu.recv, Pr.recv, PV.tag, canSet, Sl.free, List.range_succ, Mi.Tm.walk, seqOf, bindS, bindT, Tg.is, wipeE, backE, unlock, Wk.ios, Mi.Tm.pureOk, ioPure, parT, evH, evHs, ])]
    simp [D, lcnt, R.of_some, R.of_none, Wk.chk, evSs, evS, evE, evEs, evAnd, evOr, tst, Mi.Tm.args, Mi.Tm.arg, Mi.Tm.dn, mkTm, Pr.fresh, maskE, Cn.pv, Mi.Tm.pars, Mi.Tm.par, ioSlots, lendT, callT, ioFree, afterCall, Mi.Tm.lent, giveBack, evMu, Mu.recv, Pr.recv, PV.tag, canSet, Sl.free, List.range_succ, Mi.Tm.walk, seqOf, bindS, bindT, Tg.is, wipeE, backE, unlock, Wk.ios, Mi.Tm.pureOk, ioPure, parT, evH, evHs, ev_sorted_names, csOf, Function.comp_def, ev_dictP_names (.int 0) xs]
theorem set_l (n : Nat) (hn : 1 ≤ n) (xs : List Str) (hl : xs.length ≤ lim) (s : Sl) (hs : Rd (.lst (SS xs)) s) : evF D n ._law_set [s] = .ret (.v (ST (csOf xs))) [.u] := set_v n hn xs hl s (hs.elim (fun e => .inr (.inl e)) fun e => .inr (.inr e))
theorem set_t (n : Nat) (hn : 1 ≤ n) (xs : List Str) (hl : xs.length ≤ lim) : evF D n ._law_set [.v (ST xs)] = .ret (.v (ST (csOf xs))) [.u] := set_v n hn xs hl _ (.inl rfl)
theorem share_t (n : Nat) (hn : 1 ≤ n) (xs ys : List Str) (hl : xs.length ≤ lim) : evF D n ._law_share [.v (ST xs), .v (ST ys)] = .ret (.v (ST (xs.filter fun a => decide (a ∈ ys)))) [.u, .u] := by
  obtain ⟨n, rfl⟩ : ∃ m, n = m + 1 := ⟨n - 1, by omega⟩
  refine evF_s rfl ?_
  simp [D, lcnt, R.of_some, R.of_none, Wk.chk, evSs, evS, evE, evEs, evAnd, evOr, tst, Mi.Tm.args, Mi.Tm.arg, Mi.Tm.dn, mkTm, Pr.fresh, maskE, Cn.pv, Mi.Tm.pars, Mi.Tm.par, ioSlots, lendT, callT, ioFree, afterCall, Mi.Tm.lent, giveBack, evMu, Mu.recv, Pr.recv, PV.tag, canSet, Sl.free, List.range_succ, Mi.Tm.walk, seqOf, bindS, bindT, Tg.is, wipeE, backE, unlock, Wk.ios, Mi.Tm.pureOk, ioPure, parT, evH, evHs, b__law_share, _law_share_c1]
  rw [lcL_filtL (fun a => decide (a ∈ ys)) PV.str hl (by simp [D, lcnt, R.of_some, R.of_none, Wk.chk, evSs, evS, evE, evEs, evAnd, evOr, tst, Mi.Tm.args, Mi.Tm.arg, Mi.Tm.dn, mkTm, Pr.fresh, maskE, Cn.pv, Mi.Tm.pars, Mi.Tm.par, ioSlots, lendT, callT, ioFree, afterCall, Mi.Tm.lent, giveBack, evMu, Mu.recv, Pr.recv, PV.tag, canSet, Sl.free, List.range_succ, Mi.Tm.walk, seqOf, bindS, bindT, Tg.is, wipeE, backE, unlock, Wk.ios, Mi.Tm.pureOk, ioPure, parT, evH, evHs, ]) (fun x m => by by_cases h : x ∈ ys <;> simp [D, lcnt, R.of_some, R.of_none, Wk.chk, evSs, evS, evE, evEs, evAnd, evOr, tst, Mi.Tm.args, Mi.Tm.arg, Mi.Tm.dn, mkTm, Pr.fresh, maskE, Cn.pv, Mi.Tm.pars, Mi.Tm.par, ioSlots, lendT, callT, ioFree, afterCall, Mi.Tm.lent, giveBack, evMu, Mu.recv, Pr.recv, PV.tag, canSet, Sl.free, List.range_succ, Mi.Tm.walk, seqOf, bindS, bindT, Tg.is, wipeE, backE, unlock, Wk.ios, Mi.Tm.pureOk, ioPure, parT, evH, evHs, h])]
  simp [D, lcnt, R.of_some, R.of_none, Wk.chk, evSs, evS, evE, evEs, evAnd, evOr, tst, Mi.Tm.args, Mi.Tm.arg, Mi.Tm.dn, mkTm, Pr.fresh, maskE, Cn.pv, Mi.Tm.pars, Mi.Tm.par, ioSlots, lendT, callT, ioFree, afterCall, Mi.Tm.lent, giveBack, evMu, Mu.recv, Pr.recv, PV.tag, canSet, Sl.free, List.range_succ, Mi.Tm.walk, seqOf, bindS, bindT, Tg.is, wipeE, backE, unlock, Wk.ios, Mi.Tm.pureOk, ioPure, parT, evH, evHs, ]
/-! ### rules -/
inductive Rl where
  | tm (many : Bool) (x y : List Str) | jn (ps : List (List Str))
def kindS (m : Bool) : Str := if m then "many" else "tells"
theorem kind_ne (m : Bool) : kindS m ≠ "join" := by cases m <;> decide
def Rl.pv : Rl → PV
  | .tm m x y => .tup [.str (kindS m), ST x, ST y]
  | .jn ps => .tup [.str "join", .tup (ps.map ST)]
def Rl.sets : Rl → Rl
  | .tm m x y => .tm m (csOf x) (csOf y)
  | .jn ps => .jn (ps.map csOf)
/-- sizes are small -/
def Rl.small : Rl → Prop
  | .tm _ x y => x.length ≤ 100 ∧ y.length ≤ 100
  | .jn ps => ps.length ≤ 100 ∧ ∀ p ∈ ps, p.length ≤ 100
theorem le_lim {n : Nat} (h : n ≤ 1000) : n ≤ lim := Nat.le_trans h (Nat.le_trans (by omega) lim_big)
theorem le_lim' {n : Nat} (h : n ≤ 1000000) : n ≤ lim := Nat.le_trans h (Nat.le_trans (by omega) lim_big)
def Fr (s : Sl) : Prop := s = .u ∨ ∃ p, s = .v p
theorem fr_u : Fr .u := .inl rfl
theorem fr_v (p : PV) : Fr (.v p) := .inr ⟨p, rfl⟩
def Fo (s : Sl) : Prop := s = .u ∨ ∃ d p, s = .o d p
def Any (s : Sl) : Prop := Fr s ∨ Fo s
theorem any_cases {s : Sl} (h : Any s) : s = .u ∨ (∃ v, s = .v v) ∨ ∃ d v, s = .o d v := by
  rcases h with h | h
  · rcases h with rfl | ⟨_, rfl⟩
    · exact .inl rfl
    · exact .inr (.inl ⟨_, rfl⟩)
  · rcases h with rfl | ⟨_, _, rfl⟩
    · exact .inl rfl
    · exact .inr (.inr ⟨_, _, rfl⟩)
theorem ixN_last (n : Nat) : L2.ixN (n + 1) (-1) = some n := by unfold L2.ixN; simp; omega
theorem ev_ix_last (xs : List PV) (x : PV) : evP .ix [.lst (xs ++ [x]), .int (-1)] = some x := by
  show L2.atI (xs ++ [x]) (-1) = some x
  unfold L2.atI
  rw [List.length_append, List.length_singleton, ixN_last]
  simp
theorem putI_last (xs : List PV) (x y : PV) : putI 0 (.lst (xs ++ [x])) (.v (.int (-1))) (.v y) = some (.lst (xs ++ [y])) := by
  simp only [putI, Mi.Tm.dn, List.length_append, List.length_singleton, ixN_last]
  simp
theorem pures_SS : ∀ xs : List Str, pures (SS xs) = true
  | [] => rfl
  | x :: xs => by simp only [SS, List.map_cons, pures, PV.pure, Bool.true_and]; exact pures_SS xs
theorem pure_ST (xs : List Str) : (Mi.ST xs).pure = true := by simp only [Mi.ST, PV.pure]; exact pures_SS xs
theorem pures_STs : ∀ ps : List (List Str), pures (ps.map Mi.ST) = true
  | [] => rfl
  | p :: ps => by simp only [List.map_cons, pures, Bool.and_eq_true]; exact ⟨pure_ST p, pures_STs ps⟩
def LT : List Str := ["a", "b", "c", "d", "e", "f"]
end Lw

set_option Elab.async false
set_option linter.all false
set_option maxRecDepth 100000
set_option maxHeartbeats 400000
namespace Lw
open PySem Mi
theorem ev_sum_scr (ns : List Int) : evP .sum [.scr ns] = some (.int ns.sum) := by simp only [evP, one, onInts]; rfl
theorem ev_pow18 : evP .pow [.int 10, .int 18] = some (.int 1000000000000000000) := by
  simp only [evP, two, pInt]
  rw [if_pos (dec_iff.mpr (by decide))]
  rfl
theorem ev_shl {j : Nat} (h : j ≤ 6) : evP .shl [.int 1, .int (j : Int)] = some (.int (2 ^ j)) := by
  simp only [evP, two, pInt]
  rw [if_pos (dec_iff.mpr ⟨by omega, by omega, by decide⟩)]
  simp
theorem number_ok (n : Nat) (hn : 1 ≤ n) (ns : List Int) (k : Nat) : ∃ i : Int, 0 ≤ i ∧ evF D n ._law_number [.v (.scr ns), .v (.int (k : Int))] = .ret (.v (.int i)) [.u, .u] := by
  obtain ⟨n, rfl⟩ : ∃ m, n = m + 1 := ⟨n - 1, by omega⟩
  have m1 : ∀ a : Int, evP .mul [.int a, .int 31] = some (.int (a * 31)) := fun a => ev_mul_int (by decide)
  have m2 : ∀ a : Int, evP .mul [.int 1000003, .int a] = some (.int (1000003 * a)) := fun a => ev_mul_int' (by decide)
  by_cases hk : k < ns.length
  · have g := ev_ix_scr hk
    have hk' : (k : Int) < (ns.length : Int) := by omega
    refine ⟨if ns[k] < 0 then -ns[k] else ns[k], by split <;> omega, ?_⟩
    refine evF_s rfl ?_
    simp [D, lcnt, R.of_some, R.of_none, Wk.chk, evSs, evS, evE, evEs, evAnd, evOr, tst, Mi.Tm.args, Mi.Tm.arg, Mi.Tm.dn, mkTm, Pr.fresh, maskE, Cn.pv, Mi.Tm.pars, Mi.Tm.par, ioSlots, lendT, callT, ioFree, afterCall, Mi.Tm.lent, giveBack, evMu, Mu.recv, Pr.recv, PV.tag, canSet, Sl.free, List.range_succ, Mi.Tm.walk, seqOf, bindS, bindT, Tg.is, wipeE, backE, unlock, Wk.ios, Mi.Tm.pureOk, ioPure, parT, evH, evHs, b__law_number, ev_sum_scr, m1, m2, hk', g]
  · have hk' : ¬ (k : Int) < (ns.length : Int) := by omega
    refine ⟨if ns.sum * 31 + 1000003 * ((k : Int) + 1) < 0 then -(ns.sum * 31 + 1000003 * ((k : Int) + 1)) else ns.sum * 31 + 1000003 * ((k : Int) + 1), by split <;> omega, ?_⟩
    refine evF_s rfl ?_
    simp [D, lcnt, R.of_some, R.of_none, Wk.chk, evSs, evS, evE, evEs, evAnd, evOr, tst, Mi.Tm.args, Mi.Tm.arg, Mi.Tm.dn, mkTm, Pr.fresh, maskE, Cn.pv, Mi.Tm.pars, Mi.Tm.par, ioSlots, lendT, callT, ioFree, afterCall, Mi.Tm.lent, giveBack, evMu, Mu.recv, Pr.recv, PV.tag, canSet, Sl.free, List.range_succ, Mi.Tm.walk, seqOf, bindS, bindT, Tg.is, wipeE, backE, unlock, Wk.ios, Mi.Tm.pureOk, ioPure, parT, evH, evHs, b__law_number, ev_sum_scr, m1, m2, hk']
abbrev IL (xs : List Int) : List PV := xs.map PV.int
/-- so many numbers from 0 to many - 1 -/
def Drawn (many : Int) (xs : List Int) : Prop := ∀ x ∈ xs, 0 ≤ x ∧ x < many
theorem draws_ok (n : Nat) (hn : 2 ≤ n) (ns : List Int) (k count : Nat) (many : Int) (hm : 0 < many ∧ many < 1073741824) (hc : count ≤ 1000) : ∃ xs : List Int, xs.length = count ∧ Drawn many xs ∧
    evF D n ._law_draws [.v (.scr ns), .v (.int (k : Int)), .v (.int (count : Int)), .v (.int many)] = .ret (.o 0 (.lst (IL xs))) [.u, .u, .u, .u] := by
  obtain ⟨n, rfl⟩ : ∃ m, n = m + 1 := ⟨n - 1, by omega⟩
  obtain ⟨num, h0, en⟩ := number_ok n (by omega) ns k
  have er := range_from0 (n := count) (by omega)
  have em : ∀ a : Int, evP .mod [.int a, .int many] = some (.int (a % many)) := fun a => ev_mod_int hm.1
  have ed : ∀ a : Int, evP .fdiv [.int a, .int many] = some (.int (a / many)) := fun a => ev_fdiv_int hm
  have in_mod : ∀ a : Int, 0 ≤ a % many ∧ a % many < many := fun a => ⟨Int.emod_nonneg _ (by omega), Int.emod_lt_of_pos _ hm.1⟩
  by_cases hb : 1000000000000000000 ≤ num
  · obtain ⟨I, hI⟩ : ∃ I : List PV → Evn → Prop, I = fun pre ρ => ∃ xs num' s6, xs.length = pre.length ∧ Drawn many xs ∧ (0 : Int) ≤ num' ∧ Fr s6 ∧ ρ = [.v (.scr ns), .v (.int (k : Int)), .v (.int (count : Int)), .v (.int many), .v (.int num'), .o 0 (.lst (IL xs)), s6, .u, .u] := ⟨_, rfl⟩
    have key : ∃ ρ', evS (evF D n) [] _law_draws_s1 [.v (.scr ns), .v (.int (k : Int)), .v (.int (count : Int)), .v (.int many), .v (.int (num - 1000000000000000000)), .o 0 (.lst []), .u, .u, .u] = .ok .nx ρ' ∧ I ((List.range count).map fun (i : Nat) => PV.int (i : Int)) ρ' := by
      simp [D, lcnt, R.of_some, R.of_none, Wk.chk, evSs, evS, evE, evEs, evAnd, evOr, tst, Mi.Tm.args, Mi.Tm.arg, Mi.Tm.dn, mkTm, Pr.fresh, maskE, Cn.pv, Mi.Tm.pars, Mi.Tm.par, ioSlots, lendT, callT, ioFree, afterCall, Mi.Tm.lent, giveBack, evMu, Mu.recv, Pr.recv, PV.tag, canSet, Sl.free, List.range_succ, Mi.Tm.walk, seqOf, bindS, bindT, Tg.is, wipeE, backE, unlock, Wk.ios, Mi.Tm.pureOk, ioPure, parT, evH, evHs, _law_draws_s1, er]
      refine forL_ind I ?_ (fun pre x suf ρ hx h => ?_) (fun ρ _ => by simp [D, lcnt, R.of_some, R.of_none, Wk.chk, evSs, evS, evE, evEs, evAnd, evOr, tst, Mi.Tm.args, Mi.Tm.arg, Mi.Tm.dn, mkTm, Pr.fresh, maskE, Cn.pv, Mi.Tm.pars, Mi.Tm.par, ioSlots, lendT, callT, ioFree, afterCall, Mi.Tm.lent, giveBack, evMu, Mu.recv, Pr.recv, PV.tag, canSet, Sl.free, List.range_succ, Mi.Tm.walk, seqOf, bindS, bindT, Tg.is, wipeE, backE, unlock, Wk.ios, Mi.Tm.pureOk, ioPure, parT, evH, evHs, ])
      · rw [hI]; exact ⟨[], _, .u, rfl, (fun x m => by cases m), by omega, fr_u, rfl⟩
      · rw [hI] at h ⊢
        obtain ⟨xs, num', s6, h1, h2, h3, h4, rfl⟩ := h
        have lp : pre.length < count := by
          have := congrArg List.length hx
          simp at this
          omega
        have c1 : xs.length < lim := by have := lim_big; omega
        refine ⟨by simp [D, lcnt, R.of_some, R.of_none, Wk.chk, evSs, evS, evE, evEs, evAnd, evOr, tst, Mi.Tm.args, Mi.Tm.arg, Mi.Tm.dn, mkTm, Pr.fresh, maskE, Cn.pv, Mi.Tm.pars, Mi.Tm.par, ioSlots, lendT, callT, ioFree, afterCall, Mi.Tm.lent, giveBack, evMu, Mu.recv, Pr.recv, PV.tag, canSet, Sl.free, List.range_succ, Mi.Tm.walk, seqOf, bindS, bindT, Tg.is, wipeE, backE, unlock, Wk.ios, Mi.Tm.pureOk, ioPure, parT, evH, evHs, ], [.v (.scr ns), .v (.int (k : Int)), .v (.int (count : Int)), .v (.int many), .v (.int (num' / many)), .o 0 (.lst (IL (xs ++ [num' % many]))), .v x, .u, .u], ?_, xs ++ [num' % many], num' / many, .v x, by simp [h1], ?_, Int.ediv_nonneg h3 (by omega), fr_v _, rfl⟩
        · rcases h4 with rfl | ⟨_, rfl⟩ <;> simp [D, lcnt, R.of_some, R.of_none, Wk.chk, evSs, evS, evE, evEs, evAnd, evOr, tst, Mi.Tm.args, Mi.Tm.arg, Mi.Tm.dn, mkTm, Pr.fresh, maskE, Cn.pv, Mi.Tm.pars, Mi.Tm.par, ioSlots, lendT, callT, ioFree, afterCall, Mi.Tm.lent, giveBack, evMu, Mu.recv, Pr.recv, PV.tag, canSet, Sl.free, List.range_succ, Mi.Tm.walk, seqOf, bindS, bindT, Tg.is, wipeE, backE, unlock, Wk.ios, Mi.Tm.pureOk, ioPure, parT, evH, evHs, em, ed, c1]
        · intro y m
          rcases List.mem_append.mp m with m | m
          · exact h2 y m
          · rw [List.mem_singleton.mp m]; exact in_mod _
    rw [hI] at key
    obtain ⟨_, e, xs, num', s6, h1, h2, _, _, rfl⟩ := key
    refine ⟨xs, by simpa using h1, h2, ?_⟩
    refine evF_s rfl ?_
    simp [D, lcnt, R.of_some, R.of_none, Wk.chk, evSs, evS, evE, evEs, evAnd, evOr, tst, Mi.Tm.args, Mi.Tm.arg, Mi.Tm.dn, mkTm, Pr.fresh, maskE, Cn.pv, Mi.Tm.pars, Mi.Tm.par, ioSlots, lendT, callT, ioFree, afterCall, Mi.Tm.lent, giveBack, evMu, Mu.recv, Pr.recv, PV.tag, canSet, Sl.free, List.range_succ, Mi.Tm.walk, seqOf, bindS, bindT, Tg.is, wipeE, backE, unlock, Wk.ios, Mi.Tm.pureOk, ioPure, parT, evH, evHs, b__law_draws, en, ev_pow18, hb, e]
  · have e1 : evP .mod [.int num, .int 2147483647] = some (.int (num % 2147483647)) := ev_mod_int (by decide)
    have e2 : ∀ a : Int, evP .mul [.int a, .int 48271] = some (.int (a * 48271)) := fun a => ev_mul_int (by decide)
    have e3 : ∀ a : Int, evP .mul [.int 11, .int a] = some (.int (11 * a)) := fun a => ev_mul_int' (by decide)
    have e4 : ∀ a : Int, evP .mod [.int a, .int 2147483647] = some (.int (a % 2147483647)) := fun a => ev_mod_int (by decide)
    have e5 : ∀ a : Int, evP .mod [.int a, .int 2147483629] = some (.int (a % 2147483629)) := fun a => ev_mod_int (by decide)
    have e6 : ∀ a : Int, evP .mul [.int 69621, .int a] = some (.int (69621 * a)) := fun a => ev_mul_int' (by decide)
    have e7 : ∀ a : Int, evP .fdiv [.int a, .int 64] = some (.int (a / 64)) := fun a => ev_fdiv_int (by decide)
    have e8 : ∀ a : Int, 0 ≤ a → a ≤ 2147483647 → evP .mul [.int a, .int a] = some (.int (a * a)) := fun a h1 h2 => ev_mul_int (by omega)
    obtain ⟨I, hI⟩ : ∃ I : List PV → Evn → Prop, I = fun pre ρ => ∃ xs st s6 s8, xs.length = pre.length ∧ Drawn many xs ∧ ((0 : Int) ≤ st ∧ st ≤ 2147483647) ∧ Fr s6 ∧ Fr s8 ∧ ρ = [.v (.scr ns), .v (.int (k : Int)), .v (.int (count : Int)), .v (.int many), .v (.int num), .o 0 (.lst (IL xs)), s6, .v (.int st), s8] := ⟨_, rfl⟩
    have key : ∃ ρ', evS (evF D n) [] _law_draws_s2 [.v (.scr ns), .v (.int (k : Int)), .v (.int (count : Int)), .v (.int many), .v (.int num), .o 0 (.lst []), .u, .v (.int (num % 2147483647 + 1)), .u] = .ok .nx ρ' ∧ I ((List.range count).map fun (i : Nat) => PV.int (i : Int)) ρ' := by
      simp [D, lcnt, R.of_some, R.of_none, Wk.chk, evSs, evS, evE, evEs, evAnd, evOr, tst, Mi.Tm.args, Mi.Tm.arg, Mi.Tm.dn, mkTm, Pr.fresh, maskE, Cn.pv, Mi.Tm.pars, Mi.Tm.par, ioSlots, lendT, callT, ioFree, afterCall, Mi.Tm.lent, giveBack, evMu, Mu.recv, Pr.recv, PV.tag, canSet, Sl.free, List.range_succ, Mi.Tm.walk, seqOf, bindS, bindT, Tg.is, wipeE, backE, unlock, Wk.ios, Mi.Tm.pureOk, ioPure, parT, evH, evHs, _law_draws_s2, er]
      refine forL_ind I ?_ (fun pre x suf ρ hx h => ?_) (fun ρ _ => by simp [D, lcnt, R.of_some, R.of_none, Wk.chk, evSs, evS, evE, evEs, evAnd, evOr, tst, Mi.Tm.args, Mi.Tm.arg, Mi.Tm.dn, mkTm, Pr.fresh, maskE, Cn.pv, Mi.Tm.pars, Mi.Tm.par, ioSlots, lendT, callT, ioFree, afterCall, Mi.Tm.lent, giveBack, evMu, Mu.recv, Pr.recv, PV.tag, canSet, Sl.free, List.range_succ, Mi.Tm.walk, seqOf, bindS, bindT, Tg.is, wipeE, backE, unlock, Wk.ios, Mi.Tm.pureOk, ioPure, parT, evH, evHs, ])
      · rw [hI]
        have := Int.emod_nonneg num (b := 2147483647) (by decide)
        have := Int.emod_lt_of_pos num (b := 2147483647) (by decide)
        exact ⟨[], _, .u, .u, rfl, (fun x m => by cases m), ⟨by omega, by omega⟩, fr_u, fr_u, rfl⟩
      · rw [hI] at h ⊢
        obtain ⟨xs, st, s6, s8, h1, h2, h3, h4, h5, rfl⟩ := h
        obtain ⟨i, ex⟩ : ∃ i : Int, x = .int i := by
          have : x ∈ (List.range count).map fun (i : Nat) => PV.int (i : Int) := by rw [hx]; simp
          obtain ⟨i, _, e⟩ := List.mem_map.mp this
          exact ⟨_, e.symm⟩
        subst ex
        have lp : pre.length < count := by
          have := congrArg List.length hx
          simp at this
          omega
        have c1 : xs.length < lim := by have := lim_big; omega
        have b1 := Int.emod_nonneg (st * 48271 + 11 * i + 7) (b := 2147483647) (by decide)
        have b2 := Int.emod_lt_of_pos (st * 48271 + 11 * i + 7) (b := 2147483647) (by decide)
        have e8' := e8 _ b1 (by omega)
        obtain ⟨st', hst⟩ : ∃ st', st' = (st * 48271 + 11 * i + 7) % 2147483647 := ⟨_, rfl⟩
        rw [← hst] at b1 b2 e8'
        refine ⟨by simp [D, lcnt, R.of_some, R.of_none, Wk.chk, evSs, evS, evE, evEs, evAnd, evOr, tst, Mi.Tm.args, Mi.Tm.arg, Mi.Tm.dn, mkTm, Pr.fresh, maskE, Cn.pv, Mi.Tm.pars, Mi.Tm.par, ioSlots, lendT, callT, ioFree, afterCall, Mi.Tm.lent, giveBack, evMu, Mu.recv, Pr.recv, PV.tag, canSet, Sl.free, List.range_succ, Mi.Tm.walk, seqOf, bindS, bindT, Tg.is, wipeE, backE, unlock, Wk.ios, Mi.Tm.pureOk, ioPure, parT, evH, evHs, ], [.v (.scr ns), .v (.int (k : Int)), .v (.int (count : Int)), .v (.int many), .v (.int num), .o 0 (.lst (IL (xs ++ [(st' * st' + 69621 * i + 5) % 2147483629 / 64 % many]))), .v (.int i), .v (.int st'), .v (.int ((st' * st' + 69621 * i + 5) % 2147483629))], ?_, xs ++ [(st' * st' + 69621 * i + 5) % 2147483629 / 64 % many], st', .v (.int i), .v (.int _), by simp [h1], ?_, ⟨b1, by omega⟩, fr_v _, fr_v _, rfl⟩
        · rcases h4 with rfl | ⟨_, rfl⟩ <;> rcases h5 with rfl | ⟨_, rfl⟩ <;> simp [D, lcnt, R.of_some, R.of_none, Wk.chk, evSs, evS, evE, evEs, evAnd, evOr, tst, Mi.Tm.args, Mi.Tm.arg, Mi.Tm.dn, mkTm, Pr.fresh, maskE, Cn.pv, Mi.Tm.pars, Mi.Tm.par, ioSlots, lendT, callT, ioFree, afterCall, Mi.Tm.lent, giveBack, evMu, Mu.recv, Pr.recv, PV.tag, canSet, Sl.free, List.range_succ, Mi.Tm.walk, seqOf, bindS, bindT, Tg.is, wipeE, backE, unlock, Wk.ios, Mi.Tm.pureOk, ioPure, parT, evH, evHs, em, e2, e3, e4, e5, e6, e7, ← hst, e8', c1]
        · intro y m
          rcases List.mem_append.mp m with m | m
          · exact h2 y m
          · rw [List.mem_singleton.mp m]; exact in_mod _
    rw [hI] at key
    obtain ⟨_, e, xs, num', s6, s8, h1, h2, _, _, _, rfl⟩ := key
    refine ⟨xs, by simpa using h1, h2, ?_⟩
    refine evF_s rfl ?_
    simp [D, lcnt, R.of_some, R.of_none, Wk.chk, evSs, evS, evE, evEs, evAnd, evOr, tst, Mi.Tm.args, Mi.Tm.arg, Mi.Tm.dn, mkTm, Pr.fresh, maskE, Cn.pv, Mi.Tm.pars, Mi.Tm.par, ioSlots, lendT, callT, ioFree, afterCall, Mi.Tm.lent, giveBack, evMu, Mu.recv, Pr.recv, PV.tag, canSet, Sl.free, List.range_succ, Mi.Tm.walk, seqOf, bindS, bindT, Tg.is, wipeE, backE, unlock, Wk.ios, Mi.Tm.pureOk, ioPure, parT, evH, evHs, b__law_draws, en, ev_pow18, hb, e1, e]
end Lw

set_option Elab.async false
set_option linter.all false
set_option maxRecDepth 100000
set_option maxHeartbeats 400000
namespace Lw
open PySem Mi
abbrev PK (xs : List Int) : Sl := .o 0 (.lst (IL xs))
def NN (xs : List Int) : Prop := ∀ x ∈ xs, 0 ≤ x
theorem pick_ok (n : Nat) (hn : 1 ≤ n) (xs : List Int) (h : NN xs) : ∃ (r : Int) (ys : List Int), 0 ≤ r ∧ NN ys ∧ evF D n ._law_pick [PK xs] = .ret (.v (.int r)) [PK ys] := by
  obtain ⟨n, rfl⟩ : ∃ m, n = m + 1 := ⟨n - 1, by omega⟩
  rcases List.eq_nil_or_concat xs with rfl | ⟨ys, x, rfl⟩
  · refine ⟨0, [], by decide, h, ?_⟩
    refine evF_s rfl ?_
    simp [D, lcnt, R.of_some, R.of_none, Wk.chk, evSs, evS, evE, evEs, evAnd, evOr, tst, Mi.Tm.args, Mi.Tm.arg, Mi.Tm.dn, mkTm, Pr.fresh, maskE, Cn.pv, Mi.Tm.pars, Mi.Tm.par, ioSlots, lendT, callT, ioFree, afterCall, Mi.Tm.lent, giveBack, evMu, Mu.recv, Pr.recv, PV.tag, canSet, Sl.free, List.range_succ, Mi.Tm.walk, seqOf, bindS, bindT, Tg.is, wipeE, backE, unlock, Wk.ios, Mi.Tm.pureOk, ioPure, parT, evH, evHs, b__law_pick]
  · refine ⟨x, ys, h x (by simp), fun y m => h y (by simp [m]), ?_⟩
    refine evF_s rfl ?_
    have h1 : ¬ ((ys.length : Int) + 1 = 0) := by omega
    simp [D, lcnt, R.of_some, R.of_none, Wk.chk, evSs, evS, evE, evEs, evAnd, evOr, tst, Mi.Tm.args, Mi.Tm.arg, Mi.Tm.dn, mkTm, Pr.fresh, maskE, Cn.pv, Mi.Tm.pars, Mi.Tm.par, ioSlots, lendT, callT, ioFree, afterCall, Mi.Tm.lent, giveBack, evMu, Mu.recv, Pr.recv, PV.tag, canSet, Sl.free, List.range_succ, Mi.Tm.walk, seqOf, bindS, bindT, Tg.is, wipeE, backE, unlock, Wk.ios, Mi.Tm.pureOk, ioPure, parT, evH, evHs, b__law_pick, h1]
theorem picks_ok (n : Nat) (hn : 3 ≤ n) (ns : List Int) (k count : Nat) (hc : count ≤ 1000) : ∃ xs, NN xs ∧ evF D n ._law_picks [.v (.scr ns), .v (.int (k : Int)), .v (.int (count : Int))] = .ret (.o 0 (.lst (IL xs))) [.u, .u, .u] := by
  obtain ⟨n, rfl⟩ : ∃ m, n = m + 1 := ⟨n - 1, by omega⟩
  obtain ⟨xs, _, h2, e⟩ := draws_ok n (by omega) ns k count 5040 (by decide) hc
  refine ⟨xs.reverse, fun x m => (h2 x (by simpa using m)).1, ?_⟩
  refine evF_s rfl ?_
  simp [D, lcnt, R.of_some, R.of_none, Wk.chk, evSs, evS, evE, evEs, evAnd, evOr, tst, Mi.Tm.args, Mi.Tm.arg, Mi.Tm.dn, mkTm, Pr.fresh, maskE, Cn.pv, Mi.Tm.pars, Mi.Tm.par, ioSlots, lendT, callT, ioFree, afterCall, Mi.Tm.lent, giveBack, evMu, Mu.recv, Pr.recv, PV.tag, canSet, Sl.free, List.range_succ, Mi.Tm.walk, seqOf, bindS, bindT, Tg.is, wipeE, backE, unlock, Wk.ios, Mi.Tm.pureOk, ioPure, parT, evH, evHs, b__law_picks, e]
/-! ### drawn sets -/
theorem ind_sub {cols : List Str} (p : Nat → Bool) : (((List.range cols.length).filter p).map fun j => cols.getD j "").Sublist cols := by
  have e : (List.range cols.length).map (fun j => cols.getD j "") = cols := by
    apply List.ext_getElem
    · simp
    · intro i h1 h2
      simp at h1
      simp [List.getD_eq_getElem?_getD, h1]
  have := (List.filter_sublist (l := List.range cols.length) (p := p)).map fun j => cols.getD j ""
  rwa [e] at this
theorem some_ok (n : Nat) (hn : 2 ≤ n) (xs : List Int) (h : NN xs) (cols : List Str) (hc : cols.length ≤ 6) : ∃ (zs : List Str) (ys : List Int), zs.Sublist cols ∧ NN ys ∧ evF D n ._law_some [PK xs, .v (Mi.ST cols)] = .ret (.v (Mi.ST zs)) [PK ys, .u] := by
  obtain ⟨n, rfl⟩ : ∃ m, n = m + 1 := ⟨n - 1, by omega⟩
  obtain ⟨r, ys, h1, h2, e⟩ := pick_ok n (by omega) xs h
  refine ⟨((List.range cols.length).filter fun j => decide (r / (2 ^ j : Int) % 2 = 1)).map fun j => cols.getD j "", ys, ind_sub _, h2, ?_⟩
  refine evF_s rfl ?_
  have er := range_from0 (n := cols.length) (by omega)
  simp [D, lcnt, R.of_some, R.of_none, Wk.chk, evSs, evS, evE, evEs, evAnd, evOr, tst, Mi.Tm.args, Mi.Tm.arg, Mi.Tm.dn, mkTm, Pr.fresh, maskE, Cn.pv, Mi.Tm.pars, Mi.Tm.par, ioSlots, lendT, callT, ioFree, afterCall, Mi.Tm.lent, giveBack, evMu, Mu.recv, Pr.recv, PV.tag, canSet, Sl.free, List.range_succ, Mi.Tm.walk, seqOf, bindS, bindT, Tg.is, wipeE, backE, unlock, Wk.ios, Mi.Tm.pureOk, ioPure, parT, evH, evHs, b__law_some, _law_some_c1, e, er]
  rw [lcL_filtL (fun j => decide (r / (2 ^ j : Int) % 2 = 1)) (fun j => PV.str (cols.getD j "")) (le_lim' (by simp; omega)) (by simp [D, lcnt, R.of_some, R.of_none, Wk.chk, evSs, evS, evE, evEs, evAnd, evOr, tst, Mi.Tm.args, Mi.Tm.arg, Mi.Tm.dn, mkTm, Pr.fresh, maskE, Cn.pv, Mi.Tm.pars, Mi.Tm.par, ioSlots, lendT, callT, ioFree, afterCall, Mi.Tm.lent, giveBack, evMu, Mu.recv, Pr.recv, PV.tag, canSet, Sl.free, List.range_succ, Mi.Tm.walk, seqOf, bindS, bindT, Tg.is, wipeE, backE, unlock, Wk.ios, Mi.Tm.pureOk, ioPure, parT, evH, evHs, ]) (fun j m => by
    have hj : j < cols.length := List.mem_range.mp m
    have e1 := ev_shl (j := j) (by omega)
    have pw : (0 : Int) < 2 ^ j ∧ (2 ^ j : Int) < 1073741824 := by
      have : j = 0 ∨ j = 1 ∨ j = 2 ∨ j = 3 ∨ j = 4 ∨ j = 5 := by omega
      rcases this with rfl | rfl | rfl | rfl | rfl | rfl <;> decide
    have e2 := ev_fdiv_int (a := r) pw
    have e3 : ∀ a : Int, evP .mod [.int a, .int 2] = some (.int (a % 2)) := fun a => ev_mod_int (by decide)
    have e4 : evP .ix [Mi.ST cols, .int (j : Int)] = some (.str (cols.getD j "")) := by
      rw [ev_ix_tup (by simpa using hj)]
      simp [SS, List.getD_eq_getElem?_getD, hj]
    obtain ⟨b, hb⟩ : ∃ b, decide (r / (2 ^ j : Int) % 2 = 1) = b := ⟨_, rfl⟩
    rw [hb]
    cases b
    · simp [D, lcnt, R.of_some, R.of_none, Wk.chk, evSs, evS, evE, evEs, evAnd, evOr, tst, Mi.Tm.args, Mi.Tm.arg, Mi.Tm.dn, mkTm, Pr.fresh, maskE, Cn.pv, Mi.Tm.pars, Mi.Tm.par, ioSlots, lendT, callT, ioFree, afterCall, Mi.Tm.lent, giveBack, evMu, Mu.recv, Pr.recv, PV.tag, canSet, Sl.free, List.range_succ, Mi.Tm.walk, seqOf, bindS, bindT, Tg.is, wipeE, backE, unlock, Wk.ios, Mi.Tm.pureOk, ioPure, parT, evH, evHs, e1, e2, e3, e4, of_decide_eq_false hb]
    · simp [D, lcnt, R.of_some, R.of_none, Wk.chk, evSs, evS, evE, evEs, evAnd, evOr, tst, Mi.Tm.args, Mi.Tm.arg, Mi.Tm.dn, mkTm, Pr.fresh, maskE, Cn.pv, Mi.Tm.pars, Mi.Tm.par, ioSlots, lendT, callT, ioFree, afterCall, Mi.Tm.lent, giveBack, evMu, Mu.recv, Pr.recv, PV.tag, canSet, Sl.free, List.range_succ, Mi.Tm.walk, seqOf, bindS, bindT, Tg.is, wipeE, backE, unlock, Wk.ios, Mi.Tm.pureOk, ioPure, parT, evH, evHs, e1, e2, e3, e4, of_decide_eq_true hb])]
  simp [D, lcnt, R.of_some, R.of_none, Wk.chk, evSs, evS, evE, evEs, evAnd, evOr, tst, Mi.Tm.args, Mi.Tm.arg, Mi.Tm.dn, mkTm, Pr.fresh, maskE, Cn.pv, Mi.Tm.pars, Mi.Tm.par, ioSlots, lendT, callT, ioFree, afterCall, Mi.Tm.lent, giveBack, evMu, Mu.recv, Pr.recv, PV.tag, canSet, Sl.free, List.range_succ, Mi.Tm.walk, seqOf, bindS, bindT, Tg.is, wipeE, backE, unlock, Wk.ios, Mi.Tm.pureOk, ioPure, parT, evH, evHs, Function.comp_def]
theorem Inc.sub {x y : List Str} (h : Inc y) (hs : x.Sublist y) : Inc x := List.Pairwise.sublist hs h
theorem parts_c1 (call : Fn → List Sl → CR) (s0 s1 s2 s4 s5 s6 : Sl) (a : Str) (ps : List (List Str)) (hl : ps.length ≤ 100) (h5 : Fr s5) : evE call _law_parts_c1 [s0, s1, s2, .o 0 (.lst (ps.map Mi.ST)), s4, s5, s6, .v (.str a)] = .ok (.o 0 (.lst ((ps.filter fun p => decide (a ∈ p)).map Mi.ST))) [s0, s1, s2, .o 0 (.lst (ps.map Mi.ST)), s4, s5, s6, .v (.str a)] := by
  simp [D, lcnt, R.of_some, R.of_none, Wk.chk, evSs, evS, evE, evEs, evAnd, evOr, tst, Mi.Tm.args, Mi.Tm.arg, Mi.Tm.dn, mkTm, Pr.fresh, maskE, Cn.pv, Mi.Tm.pars, Mi.Tm.par, ioSlots, lendT, callT, ioFree, afterCall, Mi.Tm.lent, giveBack, evMu, Mu.recv, Pr.recv, PV.tag, canSet, Sl.free, List.range_succ, Mi.Tm.walk, seqOf, bindS, bindT, Tg.is, wipeE, backE, unlock, Wk.ios, Mi.Tm.pureOk, ioPure, parT, evH, evHs, _law_parts_c1]
  rw [lcL_filtL (fun p => decide (a ∈ p)) Mi.ST (le_lim' (by omega)) (by simp [D, lcnt, R.of_some, R.of_none, Wk.chk, evSs, evS, evE, evEs, evAnd, evOr, tst, Mi.Tm.args, Mi.Tm.arg, Mi.Tm.dn, mkTm, Pr.fresh, maskE, Cn.pv, Mi.Tm.pars, Mi.Tm.par, ioSlots, lendT, callT, ioFree, afterCall, Mi.Tm.lent, giveBack, evMu, Mu.recv, Pr.recv, PV.tag, canSet, Sl.free, List.range_succ, Mi.Tm.walk, seqOf, bindS, bindT, Tg.is, wipeE, backE, unlock, Wk.ios, Mi.Tm.pureOk, ioPure, parT, evH, evHs, ]) (fun p m => by by_cases h : a ∈ p <;> simp [D, lcnt, R.of_some, R.of_none, Wk.chk, evSs, evS, evE, evEs, evAnd, evOr, tst, Mi.Tm.args, Mi.Tm.arg, Mi.Tm.dn, mkTm, Pr.fresh, maskE, Cn.pv, Mi.Tm.pars, Mi.Tm.par, ioSlots, lendT, callT, ioFree, afterCall, Mi.Tm.lent, giveBack, evMu, Mu.recv, Pr.recv, PV.tag, canSet, Sl.free, List.range_succ, Mi.Tm.walk, seqOf, bindS, bindT, Tg.is, wipeE, backE, unlock, Wk.ios, Mi.Tm.pureOk, ioPure, parT, evH, evHs, h])]
  rcases h5 with rfl | ⟨_, rfl⟩ <;> simp [D, lcnt, R.of_some, R.of_none, Wk.chk, evSs, evS, evE, evEs, evAnd, evOr, tst, Mi.Tm.args, Mi.Tm.arg, Mi.Tm.dn, mkTm, Pr.fresh, maskE, Cn.pv, Mi.Tm.pars, Mi.Tm.par, ioSlots, lendT, callT, ioFree, afterCall, Mi.Tm.lent, giveBack, evMu, Mu.recv, Pr.recv, PV.tag, canSet, Sl.free, List.range_succ, Mi.Tm.walk, seqOf, bindS, bindT, Tg.is, wipeE, backE, unlock, Wk.ios, Mi.Tm.pureOk, ioPure, parT, evH, evHs, ]
def lackB (ps : List (List Str)) (a : Str) : Bool := decide (∀ p ∈ ps, ¬ a ∈ p)
theorem parts_c2 (call : Fn → List Sl → CR) (s0 s2 s4 s5 s6 : Sl) (cols : List Str) (hc : cols.length ≤ 100) (ps : List (List Str)) (hl : ps.length ≤ 100) (h5 : Fr s5) : evE call _law_parts_c2 [s0, .v (Mi.ST cols), s2, .o 0 (.lst (ps.map Mi.ST)), s4, s5, s6, .u] = .ok (.o 0 (.lst (SS (cols.filter (lackB ps))))) [s0, .v (Mi.ST cols), s2, .o 0 (.lst (ps.map Mi.ST)), s4, s5, s6, .u] := by
  simp [D, lcnt, R.of_some, R.of_none, Wk.chk, evSs, evS, evE, evEs, evAnd, evOr, tst, Mi.Tm.args, Mi.Tm.arg, Mi.Tm.dn, mkTm, Pr.fresh, maskE, Cn.pv, Mi.Tm.pars, Mi.Tm.par, ioSlots, lendT, callT, ioFree, afterCall, Mi.Tm.lent, giveBack, evMu, Mu.recv, Pr.recv, PV.tag, canSet, Sl.free, List.range_succ, Mi.Tm.walk, seqOf, bindS, bindT, Tg.is, wipeE, backE, unlock, Wk.ios, Mi.Tm.pureOk, ioPure, parT, evH, evHs, _law_parts_c2]
  rw [lcL_filtL (lackB ps) PV.str (le_lim' (by omega)) (by simp [D, lcnt, R.of_some, R.of_none, Wk.chk, evSs, evS, evE, evEs, evAnd, evOr, tst, Mi.Tm.args, Mi.Tm.arg, Mi.Tm.dn, mkTm, Pr.fresh, maskE, Cn.pv, Mi.Tm.pars, Mi.Tm.par, ioSlots, lendT, callT, ioFree, afterCall, Mi.Tm.lent, giveBack, evMu, Mu.recv, Pr.recv, PV.tag, canSet, Sl.free, List.range_succ, Mi.Tm.walk, seqOf, bindS, bindT, Tg.is, wipeE, backE, unlock, Wk.ios, Mi.Tm.pureOk, ioPure, parT, evH, evHs, ]) (fun a m => by
    have e := parts_c1 call s0 (.v (Mi.ST cols)) s2 s4 s5 s6 a ps hl h5
    by_cases h : ∀ p ∈ ps, ¬ a ∈ p
    · have hb : lackB ps a = true := decide_eq_true h
      simp [D, lcnt, R.of_some, R.of_none, Wk.chk, evSs, evS, evE, evEs, evAnd, evOr, tst, Mi.Tm.args, Mi.Tm.arg, Mi.Tm.dn, mkTm, Pr.fresh, maskE, Cn.pv, Mi.Tm.pars, Mi.Tm.par, ioSlots, lendT, callT, ioFree, afterCall, Mi.Tm.lent, giveBack, evMu, Mu.recv, Pr.recv, PV.tag, canSet, Sl.free, List.range_succ, Mi.Tm.walk, seqOf, bindS, bindT, Tg.is, wipeE, backE, unlock, Wk.ios, Mi.Tm.pureOk, ioPure, parT, evH, evHs, e, hb]
      rw [if_pos h]
      simp [D, lcnt, R.of_some, R.of_none, Wk.chk, evSs, evS, evE, evEs, evAnd, evOr, tst, Mi.Tm.args, Mi.Tm.arg, Mi.Tm.dn, mkTm, Pr.fresh, maskE, Cn.pv, Mi.Tm.pars, Mi.Tm.par, ioSlots, lendT, callT, ioFree, afterCall, Mi.Tm.lent, giveBack, evMu, Mu.recv, Pr.recv, PV.tag, canSet, Sl.free, List.range_succ, Mi.Tm.walk, seqOf, bindS, bindT, Tg.is, wipeE, backE, unlock, Wk.ios, Mi.Tm.pureOk, ioPure, parT, evH, evHs, ]
    · have hb : lackB ps a = false := decide_eq_false h
      simp [D, lcnt, R.of_some, R.of_none, Wk.chk, evSs, evS, evE, evEs, evAnd, evOr, tst, Mi.Tm.args, Mi.Tm.arg, Mi.Tm.dn, mkTm, Pr.fresh, maskE, Cn.pv, Mi.Tm.pars, Mi.Tm.par, ioSlots, lendT, callT, ioFree, afterCall, Mi.Tm.lent, giveBack, evMu, Mu.recv, Pr.recv, PV.tag, canSet, Sl.free, List.range_succ, Mi.Tm.walk, seqOf, bindS, bindT, Tg.is, wipeE, backE, unlock, Wk.ios, Mi.Tm.pureOk, ioPure, parT, evH, evHs, e, hb]
      rw [if_neg h]
      simp [D, lcnt, R.of_some, R.of_none, Wk.chk, evSs, evS, evE, evEs, evAnd, evOr, tst, Mi.Tm.args, Mi.Tm.arg, Mi.Tm.dn, mkTm, Pr.fresh, maskE, Cn.pv, Mi.Tm.pars, Mi.Tm.par, ioSlots, lendT, callT, ioFree, afterCall, Mi.Tm.lent, giveBack, evMu, Mu.recv, Pr.recv, PV.tag, canSet, Sl.free, List.range_succ, Mi.Tm.walk, seqOf, bindS, bindT, Tg.is, wipeE, backE, unlock, Wk.ios, Mi.Tm.pureOk, ioPure, parT, evH, evHs, ])]
  simp [D, lcnt, R.of_some, R.of_none, Wk.chk, evSs, evS, evE, evEs, evAnd, evOr, tst, Mi.Tm.args, Mi.Tm.arg, Mi.Tm.dn, mkTm, Pr.fresh, maskE, Cn.pv, Mi.Tm.pars, Mi.Tm.par, ioSlots, lendT, callT, ioFree, afterCall, Mi.Tm.lent, giveBack, evMu, Mu.recv, Pr.recv, PV.tag, canSet, Sl.free, List.range_succ, Mi.Tm.walk, seqOf, bindS, bindT, Tg.is, wipeE, backE, unlock, Wk.ios, Mi.Tm.pureOk, ioPure, parT, evH, evHs, ]
/-- a drawn rule's sets -/
def Good (cols : List Str) : Rl → Prop
  | .tm _ x y => (Inc x ∧ ∀ a ∈ x, a ∈ cols) ∧ (Inc y ∧ ∀ a ∈ y, a ∈ cols) ∧ y ≠ []
  | .jn ps => (ps.length = 2 ∨ ps.length = 3) ∧ (∀ p ∈ ps, Inc p ∧ p ≠ [] ∧ ∀ a ∈ p, a ∈ cols) ∧ ∀ a ∈ cols, ∃ p ∈ ps, a ∈ p
theorem ints_pure : ∀ xs : List Int, (IL xs).all (PV.pureB 0) = true
  | [] => rfl
  | x :: xs => by simp only [IL, List.map_cons, List.all_cons]; exact (Bool.and_eq_true _ _).mpr ⟨rfl, ints_pure xs⟩
theorem pk_pure (xs : List Int) : PV.pureB 1 (.lst (IL xs)) = true := by simp only [PV.pureB]; exact ints_pure xs
theorem parts_ok (n : Nat) (hn : 3 ≤ n) (xs : List Int) (h : NN xs) (cols : List Str) (hc : cols.length ≤ 6) (h0 : cols ≠ []) (hi : Inc cols) (count : Nat) (hk : count = 2 ∨ count = 3) :
    ∃ (ps : List (List Str)) (ys : List Int), Good cols (.jn ps) ∧ NN ys ∧ evF D n ._law_parts [PK xs, .v (Mi.ST cols), .v (.int (count : Int))] = .ret (.v (.tup (ps.map Mi.ST))) [PK ys, .u, .u] := by
  obtain ⟨n, rfl⟩ : ∃ m, n = m + 1 := ⟨n - 1, by omega⟩
  have er := range_from0 (n := count) (by omega)
  obtain ⟨I, hI⟩ : ∃ I : List PV → Evn → Prop, I = fun pre ρ => ∃ (ps : List (List Str)) (xs : List Int) (s4 s5 : Sl), ps.length = pre.length ∧ (∀ p ∈ ps, p.Sublist cols ∧ p ≠ []) ∧ NN xs ∧ Fr s4 ∧ Fr s5 ∧ ρ = [PK xs, .v (Mi.ST cols), .v (.int (count : Int)), .o 0 (.lst (ps.map Mi.ST)), s4, s5, .u, .u] := ⟨_, rfl⟩
  have key : ∃ ρ', evS (evF D n) [0] _law_parts_s1 [PK xs, .v (Mi.ST cols), .v (.int (count : Int)), .o 0 (.lst []), .u, .u, .u, .u] = .ok .nx ρ' ∧ I ((List.range count).map fun (i : Nat) => PV.int (i : Int)) ρ' := by
    simp [D, lcnt, R.of_some, R.of_none, Wk.chk, evSs, evS, evE, evEs, evAnd, evOr, tst, Mi.Tm.args, Mi.Tm.arg, Mi.Tm.dn, mkTm, Pr.fresh, maskE, Cn.pv, Mi.Tm.pars, Mi.Tm.par, ioSlots, lendT, callT, ioFree, afterCall, Mi.Tm.lent, giveBack, evMu, Mu.recv, Pr.recv, PV.tag, canSet, Sl.free, List.range_succ, Mi.Tm.walk, seqOf, bindS, bindT, Tg.is, wipeE, backE, unlock, Wk.ios, Mi.Tm.pureOk, ioPure, parT, evH, evHs, _law_parts_s1, er]
    refine forL_ind I ?_ (fun pre x suf ρ hx h => ?_) (fun ρ _ => by simp [D, lcnt, R.of_some, R.of_none, Wk.chk, evSs, evS, evE, evEs, evAnd, evOr, tst, Mi.Tm.args, Mi.Tm.arg, Mi.Tm.dn, mkTm, Pr.fresh, maskE, Cn.pv, Mi.Tm.pars, Mi.Tm.par, ioSlots, lendT, callT, ioFree, afterCall, Mi.Tm.lent, giveBack, evMu, Mu.recv, Pr.recv, PV.tag, canSet, Sl.free, List.range_succ, Mi.Tm.walk, seqOf, bindS, bindT, Tg.is, wipeE, backE, unlock, Wk.ios, Mi.Tm.pureOk, ioPure, parT, evH, evHs, ])
    · rw [hI]; exact ⟨[], xs, .u, .u, rfl, (fun x m => by cases m), h, fr_u, fr_u, rfl⟩
    · rw [hI] at h ⊢
      obtain ⟨ps, xs, s4, s5, h1, h2, h3, h4, h5, rfl⟩ := h
      have lp : pre.length < count := by
        have := congrArg List.length hx
        simp at this
        omega
      have c1 : ps.length < lim := by have := lim_big; omega
      obtain ⟨zs, ys, z1, z2, e⟩ := some_ok n (by omega) xs h3 cols hc
      obtain ⟨q, hq⟩ : ∃ q, q = if zs = [] then cols.take 1 else zs := ⟨_, rfl⟩
      have hq2 : q.Sublist cols ∧ q ≠ [] := by
        rw [hq]
        by_cases hz : zs = []
        · rw [if_pos hz]
          refine ⟨List.take_sublist _ _, ?_⟩
          cases cols with
          | nil => exact absurd rfl h0
          | cons a r => simp
        · rw [if_neg hz]; exact ⟨z1, hz⟩
      refine ⟨by simp [D, lcnt, R.of_some, R.of_none, Wk.chk, evSs, evS, evE, evEs, evAnd, evOr, tst, Mi.Tm.args, Mi.Tm.arg, Mi.Tm.dn, mkTm, Pr.fresh, maskE, Cn.pv, Mi.Tm.pars, Mi.Tm.par, ioSlots, lendT, callT, ioFree, afterCall, Mi.Tm.lent, giveBack, evMu, Mu.recv, Pr.recv, PV.tag, canSet, Sl.free, List.range_succ, Mi.Tm.walk, seqOf, bindS, bindT, Tg.is, wipeE, backE, unlock, Wk.ios, Mi.Tm.pureOk, ioPure, parT, evH, evHs, ], [PK ys, .v (Mi.ST cols), .v (.int (count : Int)), .o 0 (.lst ((ps ++ [q]).map Mi.ST)), .v x, .v (Mi.ST zs), .u, .u], ?_, ps ++ [q], ys, .v x, .v (Mi.ST zs), by simp [h1], ?_, z2, fr_v _, fr_v _, rfl⟩
      · by_cases hz : zs = []
        · rw [if_pos hz] at hq
          subst hq
          rw [hz] at e ⊢
          rcases h4 with rfl | ⟨_, rfl⟩ <;> rcases h5 with rfl | ⟨_, rfl⟩ <;> simp [D, lcnt, R.of_some, R.of_none, Wk.chk, evSs, evS, evE, evEs, evAnd, evOr, tst, Mi.Tm.args, Mi.Tm.arg, Mi.Tm.dn, mkTm, Pr.fresh, maskE, Cn.pv, Mi.Tm.pars, Mi.Tm.par, ioSlots, lendT, callT, ioFree, afterCall, Mi.Tm.lent, giveBack, evMu, Mu.recv, Pr.recv, PV.tag, canSet, Sl.free, List.range_succ, Mi.Tm.walk, seqOf, bindS, bindT, Tg.is, wipeE, backE, unlock, Wk.ios, Mi.Tm.pureOk, ioPure, parT, evH, evHs, e, c1, List.map_take]
        · rw [if_neg hz] at hq
          subst hq
          have hz' : 0 < q.length := List.length_pos_iff.mpr hz
          rcases h4 with rfl | ⟨_, rfl⟩ <;> rcases h5 with rfl | ⟨_, rfl⟩ <;> simp [D, lcnt, R.of_some, R.of_none, Wk.chk, evSs, evS, evE, evEs, evAnd, evOr, tst, Mi.Tm.args, Mi.Tm.arg, Mi.Tm.dn, mkTm, Pr.fresh, maskE, Cn.pv, Mi.Tm.pars, Mi.Tm.par, ioSlots, lendT, callT, ioFree, afterCall, Mi.Tm.lent, giveBack, evMu, Mu.recv, Pr.recv, PV.tag, canSet, Sl.free, List.range_succ, Mi.Tm.walk, seqOf, bindS, bindT, Tg.is, wipeE, backE, unlock, Wk.ios, Mi.Tm.pureOk, ioPure, parT, evH, evHs, e, c1, hz']
      · intro p m
        rcases List.mem_append.mp m with m | m
        · exact h2 p m
        · rw [List.mem_singleton.mp m]; exact hq2
  rw [hI] at key
  obtain ⟨_, e, ps, ys, s4, s5, h1, h2, h3, _, h5, rfl⟩ := key
  have h1 : ps.length = count := by simpa using h1
  obtain ⟨p0, rest, rfl⟩ : ∃ p0 rest, ps = p0 :: rest := by
    cases ps with
    | nil => simp at h1; omega
    | cons a r => exact ⟨a, r, rfl⟩
  have hps : (p0 :: rest).length ≤ 100 := by omega
  have lc := parts_c2 (evF D n) (PK ys) (.v (.int (count : Int))) s4 s5 .u cols (by omega) (p0 :: rest) hps h5
  have lf : (cols.filter (lackB (p0 :: rest))).length ≤ 6 := Nat.le_trans (List.length_filter_le _ _) hc
  have l0 : p0.length ≤ 6 := Nat.le_trans (h2 p0 List.mem_cons_self).1.length_le hc
  have cA : (SS p0).length + (SS (cols.filter (lackB (p0 :: rest)))).length ≤ lim := le_lim' (by simp only [SS, List.length_map]; omega)
  have st := set_l n (by omega) (p0 ++ cols.filter (lackB (p0 :: rest))) (le_lim' (by rw [List.length_append]; omega)) _ (.inr rfl)
  rw [SS_append] at st
  refine ⟨csOf (p0 ++ cols.filter (lackB (p0 :: rest))) :: rest, ys, ⟨by simp at h1 ⊢; omega, ?_, ?_⟩, h3, ?_⟩
  · intro p m
    rcases List.mem_cons.mp m with rfl | m
    · refine ⟨csOf_inc _, fun z => ?_, fun a ha => ?_⟩
      · obtain ⟨a, r, e0⟩ := List.exists_cons_of_ne_nil (h2 p0 List.mem_cons_self).2
        have : a ∈ csOf (p0 ++ cols.filter (lackB (p0 :: rest))) := csOf_mem.mpr (by rw [e0]; simp)
        rw [z] at this; cases this
      · rcases List.mem_append.mp (csOf_mem.mp ha) with ha | ha
        · exact (h2 p0 List.mem_cons_self).1.subset ha
        · exact (List.mem_filter.mp ha).1
    · have q := h2 p (List.mem_cons_of_mem _ m)
      exact ⟨Inc.sub hi q.1, q.2, fun a ha => q.1.subset ha⟩
  · intro a ha
    by_cases hl : ∃ p ∈ p0 :: rest, a ∈ p
    · obtain ⟨p, m, hp⟩ := hl
      rcases List.mem_cons.mp m with rfl | m
      · exact ⟨_, List.mem_cons_self, csOf_mem.mpr (List.mem_append_left _ hp)⟩
      · exact ⟨p, List.mem_cons_of_mem _ m, hp⟩
    · have hl' : ∀ p ∈ p0 :: rest, ¬ a ∈ p := fun p m q => hl ⟨p, m, q⟩
      exact ⟨_, List.mem_cons_self, csOf_mem.mpr (List.mem_append_right _ (List.mem_filter.mpr ⟨ha, decide_eq_true hl'⟩))⟩
  · refine evF_s rfl ?_
    generalize SS (cols.filter (lackB (p0 :: rest))) = LK at lc cA st
    have px : L2.ixN (rest.length + 1) 0 = some 0 := by unfold L2.ixN; simp
    simp only [List.map_cons] at e lc
    simp [D, lcnt, R.of_some, R.of_none, Wk.chk, evSs, evS, evE, evEs, evAnd, evOr, tst, Mi.Tm.args, Mi.Tm.arg, Mi.Tm.dn, mkTm, Pr.fresh, maskE, Cn.pv, Mi.Tm.pars, Mi.Tm.par, ioSlots, lendT, callT, ioFree, afterCall, Mi.Tm.lent, giveBack, evMu, Mu.recv, Pr.recv, PV.tag, canSet, Sl.free, List.range_succ, Mi.Tm.walk, seqOf, bindS, bindT, Tg.is, wipeE, backE, unlock, Wk.ios, Mi.Tm.pureOk, ioPure, parT, evH, evHs, b__law_parts, e, lc, ev_add_lst cA, st, putI, px]
end Lw

set_option Elab.async false
set_option linter.all false
set_option maxRecDepth 100000
set_option maxHeartbeats 400000
namespace Lw
open PySem Mi
def KINDS : List Str := ["tells", "many", "join"]
theorem kinds_ix (i : Int) (h0 : 0 ≤ i) (h4 : i < 3) : ∃ k, evP .ix [.lst (SS KINDS), .int i] = some (.str k) ∧ (k = "join" ∨ ∃ m, k = kindS m) := by
  have : i = 0 ∨ i = 1 ∨ i = 2 := by omega
  rcases this with rfl | rfl | rfl
  · exact ⟨"tells", rfl, .inr ⟨false, rfl⟩⟩
  · exact ⟨"many", rfl, .inr ⟨true, rfl⟩⟩
  · exact ⟨"join", rfl, .inl rfl⟩
theorem inc_one (a : Str) : Inc [a] := List.pairwise_singleton _ _
theorem rule_ok (n : Nat) (hn : 4 ≤ n) (xs : List Int) (h : NN xs) (cols : List Str) (hc : cols.length ≤ 6) (h0 : cols ≠ []) (hi : Inc cols) :
    ∃ (r : Rl) (ys : List Int), Good cols r ∧ NN ys ∧ evF D n ._law_rule [PK xs, .v (Mi.ST cols), .v (.lst (SS KINDS))] = .ret (.v r.pv) [PK ys, .u, .u] := by
  obtain ⟨n, rfl⟩ : ∃ m, n = m + 1 := ⟨n - 1, by omega⟩
  obtain ⟨r1, y1, a1, b1, e1⟩ := pick_ok n (by omega) xs h
  obtain ⟨k, ek, hk⟩ := kinds_ix (r1 % 3) (Int.emod_nonneg _ (by decide)) (Int.emod_lt_of_pos _ (by decide))
  have m4 : ∀ a : Int, evP .mod [.int a, .int 3] = some (.int (a % 3)) := fun a => ev_mod_int (by decide)
  have m2 : ∀ a : Int, evP .mod [.int a, .int 2] = some (.int (a % 2)) := fun a => ev_mod_int (by decide)
  have l4 : evP .len [.lst (SS KINDS)] = some (.int 3) := rfl
  generalize SS KINDS = KK at *
  rcases hk with rfl | ⟨m, rfl⟩
  · obtain ⟨r2, y2, a2, b2, e2⟩ := pick_ok n (by omega) y1 b1
    obtain ⟨ps, y3, a3, b3, e3⟩ := parts_ok n (by omega) y2 b2 cols hc h0 hi (2 + (r2 % 2).toNat) (by
      have := Int.emod_nonneg r2 (b := 2) (by decide)
      have := Int.emod_lt_of_pos r2 (b := 2) (by decide)
      omega)
    have ec : ((2 + (r2 % 2).toNat : Nat) : Int) = 2 + r2 % 2 := by
      have := Int.emod_nonneg r2 (b := 2) (by decide)
      omega
    rw [ec] at e3
    refine ⟨.jn ps, y3, a3, b3, ?_⟩
    refine evF_s rfl ?_
    simp [D, lcnt, R.of_some, R.of_none, Wk.chk, evSs, evS, evE, evEs, evAnd, evOr, tst, Mi.Tm.args, Mi.Tm.arg, Mi.Tm.dn, mkTm, Pr.fresh, maskE, Cn.pv, Mi.Tm.pars, Mi.Tm.par, ioSlots, lendT, callT, ioFree, afterCall, Mi.Tm.lent, giveBack, evMu, Mu.recv, Pr.recv, PV.tag, canSet, Sl.free, List.range_succ, Mi.Tm.walk, seqOf, bindS, bindT, Tg.is, wipeE, backE, unlock, Wk.ios, Mi.Tm.pureOk, ioPure, parT, evH, evHs, b__law_rule, e1, l4, m4, ek, e2, m2, e3, Rl.pv, -ev_len_lst]
  · obtain ⟨z2, y2, a2, b2, e2⟩ := some_ok n (by omega) y1 b1 cols hc
    obtain ⟨z3, y3, a3, b3, e3⟩ := some_ok n (by omega) y2 b2 cols hc
    obtain ⟨z4, y4, a4, b4, e4⟩ := some_ok n (by omega) y3 b3 cols hc
    have es := share_t n (by omega) z2 z3 (le_lim' (by have := a2.length_le; omega))
    have hx : Inc (z2.filter fun a => decide (a ∈ z3)) ∧ ∀ a ∈ z2.filter fun a => decide (a ∈ z3), a ∈ cols :=
      ⟨Inc.sub (Inc.sub hi a2) List.filter_sublist, fun a m => a2.subset (List.mem_filter.mp m).1⟩
    generalize z2.filter (fun a => decide (a ∈ z3)) = x at es hx
    by_cases hz : z4 = []
    · obtain ⟨r5, y5, a5, b5, e5⟩ := pick_ok n (by omega) y4 b4
      have lp : 0 < cols.length := List.length_pos_iff.mpr h0
      have i0 := Int.emod_nonneg r5 (b := (cols.length : Int)) (by omega)
      have i1 := Int.emod_lt_of_pos r5 (b := (cols.length : Int)) (by omega)
      have mc : evP .mod [.int r5, .int (cols.length : Int)] = some (.int (r5 % (cols.length : Int))) := ev_mod_int (by omega)
      have hj : (r5 % (cols.length : Int)).toNat < cols.length := by omega
      have ei : evP .ix [Mi.ST cols, .int (r5 % (cols.length : Int))] = some (.str cols[(r5 % (cols.length : Int)).toNat]) := by
        have := ev_ix_tup (xs := SS cols) (i := (r5 % (cols.length : Int)).toNat) (by simpa using hj)
        rw [Int.toNat_of_nonneg i0] at this
        rw [this]
        simp [SS]
      have hm := List.getElem_mem hj
      generalize cols[(r5 % (cols.length : Int)).toNat] = w at ei hm
      generalize r5 % (cols.length : Int) = q at *
      refine ⟨.tm m x [w], y5, ⟨hx, ⟨inc_one w, fun a ma => by rw [List.mem_singleton.mp ma]; exact hm⟩, by simp⟩, b5, ?_⟩
      refine evF_s rfl ?_
      subst hz
      simp [D, lcnt, R.of_some, R.of_none, Wk.chk, evSs, evS, evE, evEs, evAnd, evOr, tst, Mi.Tm.args, Mi.Tm.arg, Mi.Tm.dn, mkTm, Pr.fresh, maskE, Cn.pv, Mi.Tm.pars, Mi.Tm.par, ioSlots, lendT, callT, ioFree, afterCall, Mi.Tm.lent, giveBack, evMu, Mu.recv, Pr.recv, PV.tag, canSet, Sl.free, List.range_succ, Mi.Tm.walk, seqOf, bindS, bindT, Tg.is, wipeE, backE, unlock, Wk.ios, Mi.Tm.pureOk, ioPure, parT, evH, evHs, b__law_rule, e1, l4, m4, ek, kind_ne m, e2, e3, es, e4, e5, mc, ei, Rl.pv, -ev_len_lst]
    · have hz' : ¬ ((z4.length : Int) = 0) := by
        have := List.length_pos_iff.mpr hz
        omega
      refine ⟨.tm m x z4, y4, ⟨hx, ⟨Inc.sub hi a4, fun a ma => a4.subset ma⟩, hz⟩, b4, ?_⟩
      refine evF_s rfl ?_
      simp [D, lcnt, R.of_some, R.of_none, Wk.chk, evSs, evS, evE, evEs, evAnd, evOr, tst, Mi.Tm.args, Mi.Tm.arg, Mi.Tm.dn, mkTm, Pr.fresh, maskE, Cn.pv, Mi.Tm.pars, Mi.Tm.par, ioSlots, lendT, callT, ioFree, afterCall, Mi.Tm.lent, giveBack, evMu, Mu.recv, Pr.recv, PV.tag, canSet, Sl.free, List.range_succ, Mi.Tm.walk, seqOf, bindS, bindT, Tg.is, wipeE, backE, unlock, Wk.ios, Mi.Tm.pureOk, ioPure, parT, evH, evHs, b__law_rule, e1, l4, m4, ek, kind_ne m, e2, e3, es, e4, hz, Rl.pv, -ev_len_lst]
theorem pv_pure (r : Rl) : r.pv.pure = true := by
  cases r with
  | tm m x y => simp only [Rl.pv, PV.pure, pures, Bool.and_eq_true, Bool.true_and]; exact ⟨pure_ST x, pure_ST y, trivial⟩
  | jn ps => simp only [Rl.pv, PV.pure, pures, Bool.and_eq_true, Bool.true_and]; exact ⟨pures_STs ps, trivial⟩
theorem LT_inc : Inc LT := by unfold Inc; decide +kernel
theorem book_ok (n : Nat) (hn : 5 ≤ n) (ns : List Int) (k count : Nat) (h1 : 1 ≤ count) (h6 : count ≤ 6) :
    ∃ rs : List Rl, rs.length ≤ 4 ∧ (∀ r ∈ rs, Good (LT.take count) r) ∧ evF D n ._law_book [.v (.scr ns), .v (.int (k : Int)), .v (.int (count : Int)), .o 0 (.lst (SS KINDS)), .v (.int 4)] = .ret (.v (.tup [Mi.ST (LT.take count), .tup (rs.map Rl.pv)])) [.u, .u, .u, .u, .u] := by
  obtain ⟨n, rfl⟩ : ∃ m, n = m + 1 := ⟨n - 1, by omega⟩
  obtain ⟨xs, hx, ex⟩ := picks_ok n (by omega) ns k 80 (by omega)
  have ex : evF D n ._law_picks [.v (.scr ns), .v (.int (k : Int)), .v (.int 80)] = .ret (.o 0 (.lst (IL xs))) [.u, .u, .u] := ex
  have ec : evP (.slc false true) [.tup (SS LT), .int (count : Int)] = some (Mi.ST (LT.take count)) := by
    rw [ev_slcH_tup]; simp [SS, List.map_take]
  have hc : (LT.take count).length ≤ 6 := by rw [List.length_take]; omega
  have h0 : LT.take count ≠ [] := by
    intro e
    rcases List.take_eq_nil_iff.mp e with e | e
    · omega
    · simp [LT] at e
  have hi : Inc (LT.take count) := Inc.sub LT_inc (List.take_sublist _ _)
  generalize LT.take count = cols at *
  obtain ⟨r1, y1, a1, b1, e1⟩ := pick_ok n (by omega) xs hx
  have m7 : ∀ a : Int, evP .mod [.int a, .int 5] = some (.int (a % 5)) := fun a => ev_mod_int (by decide)
  have i0 := Int.emod_nonneg r1 (b := 5) (by decide)
  have i1 := Int.emod_lt_of_pos r1 (b := 5) (by decide)
  have er := range_from0 (n := (r1 % 5).toNat) (by omega)
  rw [Int.toNat_of_nonneg i0] at er
  have lk : (r1 % 5).toNat ≤ 4 := by omega
  generalize (r1 % 5).toNat = q at er lk
  obtain ⟨I, hI⟩ : ∃ I : List PV → Evn → Prop, I = fun acc ρ => ∃ (rs : List Rl) (xs : List Int), acc = rs.map Rl.pv ∧ (∀ r ∈ rs, Good cols r) ∧ NN xs ∧ ρ = [.v (.scr ns), .v (.int (k : Int)), .v (.int (count : Int)), .o 0 (.lst (SS KINDS)), .v (.int 4), PK xs, .v (Mi.ST cols), .u, .u] := ⟨_, rfl⟩
  have key : ∃ ys ρ', evE (evF D n) _law_book_c1 [.v (.scr ns), .v (.int (k : Int)), .v (.int (count : Int)), .o 0 (.lst (SS KINDS)), .v (.int 4), PK xs, .v (Mi.ST cols), .u, .u] = .ok (.o 0 (.lst ys)) ρ' ∧ ys.length ≤ 4 ∧ I ys ρ' := by
    simp [D, lcnt, R.of_some, R.of_none, Wk.chk, evSs, evS, evE, evEs, evAnd, evOr, tst, Mi.Tm.args, Mi.Tm.arg, Mi.Tm.dn, mkTm, Pr.fresh, maskE, Cn.pv, Mi.Tm.pars, Mi.Tm.par, ioSlots, lendT, callT, ioFree, afterCall, Mi.Tm.lent, giveBack, evMu, Mu.recv, Pr.recv, PV.tag, canSet, Sl.free, List.range_succ, Mi.Tm.walk, seqOf, bindS, bindT, Tg.is, wipeE, backE, unlock, Wk.ios, Mi.Tm.pureOk, ioPure, parT, evH, evHs, _law_book_c1, e1, m7, er]
    generalize hF : lcL _ _ _ _ _ = F
    obtain ⟨ys, ρ', rfl, l1, hI'⟩ : ∃ ys ρ', F = .ok ys ρ' ∧ ys.length = (List.range q).length ∧ I ys ρ' := by
      rw [← hF]
      refine lcL_ind I ?_ (le_lim' (by simp; omega)) (fun i _ acc ρ h => ?_) (fun _ _ _ => by simp [D, lcnt, R.of_some, R.of_none, Wk.chk, evSs, evS, evE, evEs, evAnd, evOr, tst, Mi.Tm.args, Mi.Tm.arg, Mi.Tm.dn, mkTm, Pr.fresh, maskE, Cn.pv, Mi.Tm.pars, Mi.Tm.par, ioSlots, lendT, callT, ioFree, afterCall, Mi.Tm.lent, giveBack, evMu, Mu.recv, Pr.recv, PV.tag, canSet, Sl.free, List.range_succ, Mi.Tm.walk, seqOf, bindS, bindT, Tg.is, wipeE, backE, unlock, Wk.ios, Mi.Tm.pureOk, ioPure, parT, evH, evHs, ])
      · rw [hI]; exact ⟨[], y1, rfl, (fun x m => by cases m), b1, rfl⟩
      · rw [hI] at h ⊢
        obtain ⟨rs, xs, rfl, g1, g2, rfl⟩ := h
        obtain ⟨r, ys, g3, g4, g5⟩ := rule_ok n (by omega) xs g2 cols hc h0 hi
        refine ⟨by simp [D, lcnt, R.of_some, R.of_none, Wk.chk, evSs, evS, evE, evEs, evAnd, evOr, tst, Mi.Tm.args, Mi.Tm.arg, Mi.Tm.dn, mkTm, Pr.fresh, maskE, Cn.pv, Mi.Tm.pars, Mi.Tm.par, ioSlots, lendT, callT, ioFree, afterCall, Mi.Tm.lent, giveBack, evMu, Mu.recv, Pr.recv, PV.tag, canSet, Sl.free, List.range_succ, Mi.Tm.walk, seqOf, bindS, bindT, Tg.is, wipeE, backE, unlock, Wk.ios, Mi.Tm.pureOk, ioPure, parT, evH, evHs, ], r.pv, [.v (.scr ns), .v (.int (k : Int)), .v (.int (count : Int)), .o 0 (.lst (SS KINDS)), .v (.int 4), PK ys, .v (Mi.ST cols), .u, .u], ?_, rs ++ [r], ys, by simp, ?_, g4, rfl⟩
        · generalize SS KINDS = KK at *
          simp [D, lcnt, R.of_some, R.of_none, Wk.chk, evSs, evS, evE, evEs, evAnd, evOr, tst, Mi.Tm.args, Mi.Tm.arg, Mi.Tm.dn, mkTm, Pr.fresh, maskE, Cn.pv, Mi.Tm.pars, Mi.Tm.par, ioSlots, lendT, callT, ioFree, afterCall, Mi.Tm.lent, giveBack, evMu, Mu.recv, Pr.recv, PV.tag, canSet, Sl.free, List.range_succ, Mi.Tm.walk, seqOf, bindS, bindT, Tg.is, wipeE, backE, unlock, Wk.ios, Mi.Tm.pureOk, ioPure, parT, evH, evHs, g5, pv_pure, Sl.pureOk, pk_pure]
        · intro z m
          rcases List.mem_append.mp m with m | m
          · exact g1 z m
          · rw [List.mem_singleton.mp m]; exact g3
    rw [hI] at hI' ⊢
    obtain ⟨rs, xs', rfl, g1, g2, rfl⟩ := hI'
    refine ⟨rs.map Rl.pv, [.v (.scr ns), .v (.int (k : Int)), .v (.int (count : Int)), .o 0 (.lst (SS KINDS)), .v (.int 4), PK xs', .v (Mi.ST cols), .u, .u], by simp [D, lcnt, R.of_some, R.of_none, Wk.chk, evSs, evS, evE, evEs, evAnd, evOr, tst, Mi.Tm.args, Mi.Tm.arg, Mi.Tm.dn, mkTm, Pr.fresh, maskE, Cn.pv, Mi.Tm.pars, Mi.Tm.par, ioSlots, lendT, callT, ioFree, afterCall, Mi.Tm.lent, giveBack, evMu, Mu.recv, Pr.recv, PV.tag, canSet, Sl.free, List.range_succ, Mi.Tm.walk, seqOf, bindS, bindT, Tg.is, wipeE, backE, unlock, Wk.ios, Mi.Tm.pureOk, ioPure, parT, evH, evHs, ], by rw [l1, List.length_range]; exact lk, rs, xs', rfl, g1, g2, rfl⟩
  rw [hI] at key
  obtain ⟨ys, _, e, l1, rs, xs', rfl, g1, g2, rfl⟩ := key
  refine ⟨rs, by simpa using l1, g1, ?_⟩
  refine evF_s rfl ?_
  simp only [LT, SS, List.map_cons, List.map_nil] at ec
  generalize SS KINDS = KK at *
  simp [D, lcnt, R.of_some, R.of_none, Wk.chk, evSs, evS, evE, evEs, evAnd, evOr, tst, Mi.Tm.args, Mi.Tm.arg, Mi.Tm.dn, mkTm, Pr.fresh, maskE, Cn.pv, Mi.Tm.pars, Mi.Tm.par, ioSlots, lendT, callT, ioFree, afterCall, Mi.Tm.lent, giveBack, evMu, Mu.recv, Pr.recv, PV.tag, canSet, Sl.free, List.range_succ, Mi.Tm.walk, seqOf, bindS, bindT, Tg.is, wipeE, backE, unlock, Wk.ios, Mi.Tm.pureOk, ioPure, parT, evH, evHs, b__law_book, ex, ec, e]
end Lw

set_option Elab.async false
set_option linter.all false
set_option maxRecDepth 100000
set_option maxHeartbeats 800000
set_option pp.maxSteps 1500
namespace Lw
open PySem Mi
mutual
def okV : PV → Bool
  | .non => true
  | .int _ => true
  | .str _ => true
  | .tup xs => decide (xs.length ≤ 900000) && okVs xs
  | .lst xs => decide (xs.length ≤ 900000) && okVs xs
  | _ => false
def okVs : List PV → Bool
  | [] => true
  | x :: xs => okV x && okVs xs
end
theorem okVs_mem : ∀ {xs : List PV}, okVs xs = true → ∀ x ∈ xs, okV x = true
  | [], _, x, m => by cases m
  | y :: ys, h, x, m => by
    simp only [okVs, Bool.and_eq_true] at h
    rcases List.mem_cons.mp m with rfl | m
    · exact h.1
    · exact okVs_mem h.2 x m
theorem deps_mem : ∀ {xs : List PV} {x : PV}, x ∈ xs → x.dep ≤ deps xs
  | y :: ys, x, m => by
    simp only [deps]
    rcases List.mem_cons.mp m with rfl | m
    · exact Nat.le_max_left _ _
    · exact Nat.le_trans (deps_mem m) (Nat.le_max_right _ _)
theorem okV_cases {x : PV} (h : okV x = true) : x = .non ∨ (∃ a, x = .int a) ∨ (∃ a, x = .str a) ∨ (∃ ys, x = .tup ys) ∨ ∃ ys, x = .lst ys := by
  cases x with
  | non => exact .inl rfl
  | int a => exact .inr (.inl ⟨a, rfl⟩)
  | str a => exact .inr (.inr (.inl ⟨a, rfl⟩))
  | tup ys => exact .inr (.inr (.inr (.inl ⟨ys, rfl⟩)))
  | lst ys => exact .inr (.inr (.inr (.inr ⟨ys, rfl⟩)))
  | _ => simp [okV] at h
theorem ev_eq_non : evP .eq [.non, .non] = some (.bl true) := by rw [ev_eq rfl rfl]; simp
theorem same_seq (n : Nat) (xs : List PV) (hl : xs.length ≤ 900000) (ok : okVs xs = true) (p : PV) (hp : p = .tup xs ∨ p = .lst xs) (s0 s1 : Sl) (h0 : s0 = .v p ∨ (p = .lst xs ∧ s0 = .o 0 p)) (h1 : s1 = .v p ∨ (p = .lst xs ∧ s1 = .o 0 p))
    (ih : ∀ i (hi : i < xs.length), evF D n ._law_same [.v xs[i], .v xs[i]] = .ret (.v (.bl true)) [.u, .u]) : ∃ s, evS (evF D n) [] _law_same_s1 [s0, s1, .u] = .ok .nx [s0, s1, s] := by
  have er := range_from0 (n := xs.length) (by omega)
  have g : ∀ i (hi : i < xs.length), evP .ix [p, .int (i : Int)] = some xs[i] := fun i hi => by
    rcases hp with rfl | rfl
    · exact ev_ix_tup hi
    · exact ev_ix_lst hi
  have el : evP .len [p] = some (.int (xs.length : Int)) := by rcases hp with rfl | rfl <;> rfl
  have key : ∃ s, forL (fun _ => True) (fun x ρ => (match bindS [] (.n 2) x ρ with | some ρ' => evSs (evF D n) [] (match _law_same_s1 with | .for _ _ b => b | _ => []) ρ' | none => .no)) ((List.range xs.length).map fun (i : Nat) => PV.int (i : Int)) [s0, s1, .u] = .ok .nx [s0, s1, s] := by
    obtain ⟨ρ', e, s, _, rfl⟩ : ∃ ρ', forL (fun _ => True) (fun x ρ => (match bindS [] (.n 2) x ρ with | some ρ' => evSs (evF D n) [] (match _law_same_s1 with | .for _ _ b => b | _ => []) ρ' | none => .no)) ((List.range xs.length).map fun (i : Nat) => PV.int (i : Int)) [s0, s1, .u] = .ok .nx ρ' ∧ ∃ s, Fr s ∧ ρ' = [s0, s1, s] := by
      refine forL_inv (fun ρ => ∃ s, Fr s ∧ ρ = [s0, s1, s]) ⟨_, fr_u, rfl⟩ (fun ρ _ => trivial) fun i m ρ ⟨s, hs, e⟩ => ?_
      subst e
      have hi : i < xs.length := List.mem_range.mp m
      have gi := g i hi
      have q := ih i hi
      refine ⟨_, ?_, .v (.int i), fr_v _, rfl⟩
      have oki := okVs_mem ok _ (List.getElem_mem hi)
      generalize xs[i] = y at *
      rcases okV_cases oki with rfl | ⟨a, rfl⟩ | ⟨a, rfl⟩ | ⟨ys, rfl⟩ | ⟨ys, rfl⟩ <;> rcases h0 with rfl | ⟨h0, rfl⟩ <;> rcases h1 with rfl | ⟨h1, rfl⟩ <;> rcases hs with rfl | ⟨_, rfl⟩ <;> simp [D, lcnt, R.of_some, R.of_none, Wk.chk, evSs, evS, evE, evEs, evAnd, evOr, tst, Mi.Tm.args, Mi.Tm.arg, Mi.Tm.dn, mkTm, Pr.fresh, maskE, Cn.pv, Mi.Tm.pars, Mi.Tm.par, ioSlots, lendT, callT, ioFree, afterCall, Mi.Tm.lent, giveBack, evMu, Mu.recv, Pr.recv, PV.tag, canSet, Sl.free, List.range_succ, Mi.Tm.walk, seqOf, bindS, bindT, Tg.is, wipeE, backE, unlock, Wk.ios, Mi.Tm.pureOk, ioPure, parT, evH, evHs, _law_same_s1, gi, q]
    exact ⟨s, e⟩
  obtain ⟨s, e⟩ := key
  refine ⟨s, ?_⟩
  rcases h1 with rfl | ⟨h1, rfl⟩ <;> (simp [D, lcnt, R.of_some, R.of_none, Wk.chk, evSs, evS, evE, evEs, evAnd, evOr, tst, Mi.Tm.args, Mi.Tm.arg, Mi.Tm.dn, mkTm, Pr.fresh, maskE, Cn.pv, Mi.Tm.pars, Mi.Tm.par, ioSlots, lendT, callT, ioFree, afterCall, Mi.Tm.lent, giveBack, evMu, Mu.recv, Pr.recv, PV.tag, canSet, Sl.free, List.range_succ, Mi.Tm.walk, seqOf, bindS, bindT, Tg.is, wipeE, backE, unlock, Wk.ios, Mi.Tm.pureOk, ioPure, parT, evH, evHs, _law_same_s1, el, er] at e ⊢; exact e)
theorem same_ok : ∀ (d n : Nat) (p : PV), p.dep ≤ d → okV p = true → d + 1 ≤ n → ∀ s0 s1, (s0 = .v p ∨ (∃ xs, p = .lst xs) ∧ s0 = .o 0 p) → (s1 = .v p ∨ (∃ xs, p = .lst xs) ∧ s1 = .o 0 p) → evF D n ._law_same [s0, s1] = .ret (.v (.bl true)) [.u, .u]
  | d, n, .non, hd, hp, hn, s0, s1, h0, h1 => by
    obtain ⟨n, rfl⟩ : ∃ m, n = m + 1 := ⟨n - 1, by omega⟩
    obtain rfl := h0.resolve_right fun ⟨⟨_, e⟩, _⟩ => by cases e
    obtain rfl := h1.resolve_right fun ⟨⟨_, e⟩, _⟩ => by cases e
    refine evF_s rfl ?_
    simp [D, lcnt, R.of_some, R.of_none, Wk.chk, evSs, evS, evE, evEs, evAnd, evOr, tst, Mi.Tm.args, Mi.Tm.arg, Mi.Tm.dn, mkTm, Pr.fresh, maskE, Cn.pv, Mi.Tm.pars, Mi.Tm.par, ioSlots, lendT, callT, ioFree, afterCall, Mi.Tm.lent, giveBack, evMu, Mu.recv, Pr.recv, PV.tag, canSet, Sl.free, List.range_succ, Mi.Tm.walk, seqOf, bindS, bindT, Tg.is, wipeE, backE, unlock, Wk.ios, Mi.Tm.pureOk, ioPure, parT, evH, evHs, b__law_same, ev_eq_non]
  | d, n, .int a, hd, hp, hn, s0, s1, h0, h1 => by
    obtain ⟨n, rfl⟩ : ∃ m, n = m + 1 := ⟨n - 1, by omega⟩
    obtain rfl := h0.resolve_right fun ⟨⟨_, e⟩, _⟩ => by cases e
    obtain rfl := h1.resolve_right fun ⟨⟨_, e⟩, _⟩ => by cases e
    refine evF_s rfl ?_
    simp [D, lcnt, R.of_some, R.of_none, Wk.chk, evSs, evS, evE, evEs, evAnd, evOr, tst, Mi.Tm.args, Mi.Tm.arg, Mi.Tm.dn, mkTm, Pr.fresh, maskE, Cn.pv, Mi.Tm.pars, Mi.Tm.par, ioSlots, lendT, callT, ioFree, afterCall, Mi.Tm.lent, giveBack, evMu, Mu.recv, Pr.recv, PV.tag, canSet, Sl.free, List.range_succ, Mi.Tm.walk, seqOf, bindS, bindT, Tg.is, wipeE, backE, unlock, Wk.ios, Mi.Tm.pureOk, ioPure, parT, evH, evHs, b__law_same]
  | d, n, .str a, hd, hp, hn, s0, s1, h0, h1 => by
    obtain ⟨n, rfl⟩ : ∃ m, n = m + 1 := ⟨n - 1, by omega⟩
    obtain rfl := h0.resolve_right fun ⟨⟨_, e⟩, _⟩ => by cases e
    obtain rfl := h1.resolve_right fun ⟨⟨_, e⟩, _⟩ => by cases e
    refine evF_s rfl ?_
    simp [D, lcnt, R.of_some, R.of_none, Wk.chk, evSs, evS, evE, evEs, evAnd, evOr, tst, Mi.Tm.args, Mi.Tm.arg, Mi.Tm.dn, mkTm, Pr.fresh, maskE, Cn.pv, Mi.Tm.pars, Mi.Tm.par, ioSlots, lendT, callT, ioFree, afterCall, Mi.Tm.lent, giveBack, evMu, Mu.recv, Pr.recv, PV.tag, canSet, Sl.free, List.range_succ, Mi.Tm.walk, seqOf, bindS, bindT, Tg.is, wipeE, backE, unlock, Wk.ios, Mi.Tm.pureOk, ioPure, parT, evH, evHs, b__law_same]
  | 0, n, .tup xs, hd, hp, hn, _, _, _, _ => by simp [PV.dep] at hd
  | 0, n, .lst xs, hd, hp, hn, _, _, _, _ => by simp [PV.dep] at hd
  | d + 1, n, .tup xs, hd, hp, hn, s0, s1, h0, h1 => by
    obtain ⟨n, rfl⟩ : ∃ m, n = m + 1 := ⟨n - 1, by omega⟩
    obtain rfl := h0.resolve_right fun ⟨⟨_, e⟩, _⟩ => by cases e
    obtain rfl := h1.resolve_right fun ⟨⟨_, e⟩, _⟩ => by cases e
    simp only [okV, Bool.and_eq_true, decide_eq_true_eq] at hp
    simp only [PV.dep] at hd
    obtain ⟨s, e⟩ := same_seq n xs hp.1 hp.2 (.tup xs) (.inl rfl) (.v (.tup xs)) (.v (.tup xs)) (.inl rfl) (.inl rfl) fun i hi => same_ok d n xs[i] (by have := deps_mem (List.getElem_mem hi); omega) (okVs_mem hp.2 _ (List.getElem_mem hi)) (by omega) _ _ (.inl rfl) (.inl rfl)
    refine evF_s rfl ?_
    simp [D, lcnt, R.of_some, R.of_none, Wk.chk, evSs, evS, evE, evEs, evAnd, evOr, tst, Mi.Tm.args, Mi.Tm.arg, Mi.Tm.dn, mkTm, Pr.fresh, maskE, Cn.pv, Mi.Tm.pars, Mi.Tm.par, ioSlots, lendT, callT, ioFree, afterCall, Mi.Tm.lent, giveBack, evMu, Mu.recv, Pr.recv, PV.tag, canSet, Sl.free, List.range_succ, Mi.Tm.walk, seqOf, bindS, bindT, Tg.is, wipeE, backE, unlock, Wk.ios, Mi.Tm.pureOk, ioPure, parT, evH, evHs, b__law_same, e]
  | d + 1, n, .lst xs, hd, hp, hn, s0, s1, h0, h1 => by
    obtain ⟨n, rfl⟩ : ∃ m, n = m + 1 := ⟨n - 1, by omega⟩
    simp only [okV, Bool.and_eq_true, decide_eq_true_eq] at hp
    simp only [PV.dep] at hd
    obtain ⟨s, e⟩ := same_seq n xs hp.1 hp.2 (.lst xs) (.inr rfl) s0 s1 (h0.imp id fun h => ⟨rfl, h.2⟩) (h1.imp id fun h => ⟨rfl, h.2⟩) fun i hi => same_ok d n xs[i] (by have := deps_mem (List.getElem_mem hi); omega) (okVs_mem hp.2 _ (List.getElem_mem hi)) (by omega) _ _ (.inl rfl) (.inl rfl)
    refine evF_s rfl ?_
    rcases h0 with rfl | ⟨_, rfl⟩ <;> rcases h1 with rfl | ⟨_, rfl⟩ <;> simp [D, lcnt, R.of_some, R.of_none, Wk.chk, evSs, evS, evE, evEs, evAnd, evOr, tst, Mi.Tm.args, Mi.Tm.arg, Mi.Tm.dn, mkTm, Pr.fresh, maskE, Cn.pv, Mi.Tm.pars, Mi.Tm.par, ioSlots, lendT, callT, ioFree, afterCall, Mi.Tm.lent, giveBack, evMu, Mu.recv, Pr.recv, PV.tag, canSet, Sl.free, List.range_succ, Mi.Tm.walk, seqOf, bindS, bindT, Tg.is, wipeE, backE, unlock, Wk.ios, Mi.Tm.pureOk, ioPure, parT, evH, evHs, b__law_same, e]
theorem ok_SS : ∀ xs : List Str, okVs (SS xs) = true
  | [] => rfl
  | x :: xs => by simp only [SS, List.map_cons, okVs, okV, Bool.true_and]; exact ok_SS xs
theorem ok_ST {xs : List Str} (h : xs.length ≤ 900000) : okV (Mi.ST xs) = true := by
  simp only [Mi.ST, okV, ok_SS, Bool.and_true, decide_eq_true_eq, SS, List.length_map]; omega
theorem ok_STs : ∀ {ps : List (List Str)}, (∀ p ∈ ps, p.length ≤ 900000) → okVs (ps.map Mi.ST) = true
  | [], _ => rfl
  | p :: ps, h => by
    simp only [List.map_cons, okVs, Bool.and_eq_true]
    exact ⟨ok_ST (h p List.mem_cons_self), ok_STs fun q m => h q (List.mem_cons_of_mem _ m)⟩
/-- sizes of what is read -/
def Rl.mid : Rl → Prop
  | .tm _ x y => x.length ≤ 900000 ∧ y.length ≤ 900000
  | .jn ps => ps.length ≤ 900000 ∧ ∀ p ∈ ps, p.length ≤ 900000
theorem ok_pv {r : Rl} (h : r.mid) : okV r.pv = true := by
  cases r with
  | tm m x y =>
    have h1 := ok_ST (xs := x) (by have := h.1; omega)
    have h2 := ok_ST (xs := y) (by have := h.2; omega)
    show (decide (3 ≤ 900000) && (true && (okV (Mi.ST x) && (okV (Mi.ST y) && true)))) = true
    rw [h1, h2]
    rfl
  | jn ps =>
    have h1 := ok_STs (ps := ps) (fun p m => by have := h.2 p m; omega)
    have h2 : ps.length ≤ 900000 := by have := h.1; omega
    show (decide (2 ≤ 900000) && (true && ((decide ((ps.map Mi.ST).length ≤ 900000) && okVs (ps.map Mi.ST)) && true))) = true
    rw [h1, List.length_map, decide_eq_true h2]
    rfl
theorem ok_pvs : ∀ {rs : List Rl}, (∀ r ∈ rs, r.mid) → okVs (rs.map Rl.pv) = true
  | [], _ => rfl
  | r :: rs, h => by
    simp only [List.map_cons, okVs, Bool.and_eq_true]
    exact ⟨ok_pv (h r List.mem_cons_self), ok_pvs fun q m => h q (List.mem_cons_of_mem _ m)⟩
theorem ok_book {cols : List Str} {rs : List Rl} (hc : cols.length ≤ 900000) (hr : rs.length ≤ 900000) (h : ∀ r ∈ rs, r.mid) : okV (.tup [Mi.ST cols, .tup (rs.map Rl.pv)]) = true := by
  have h2 : rs.length ≤ 900000 := by omega
  show (decide (2 ≤ 900000) && (okV (Mi.ST cols) && ((decide ((rs.map Rl.pv).length ≤ 900000) && okVs (rs.map Rl.pv)) && true))) = true
  rw [ok_ST hc, ok_pvs h, List.length_map, decide_eq_true h2]
  rfl
theorem dep_ST (xs : List Str) : (Mi.ST xs).dep = 1 := by simp only [Mi.ST, PV.dep, deps_SS]
theorem deps_STs : ∀ ps : List (List Str), deps (ps.map Mi.ST) ≤ 1
  | [] => by simp [deps]
  | p :: ps => by simp only [List.map_cons, deps, dep_ST]; have := deps_STs ps; omega
theorem dep_pv (r : Rl) : r.pv.dep ≤ 3 := by
  cases r with
  | tm m x y => simp only [Rl.pv, PV.dep, deps, deps_SS]; omega
  | jn ps => simp only [Rl.pv, PV.dep, deps]; have := deps_STs ps; omega
theorem deps_pvs : ∀ rs : List Rl, deps (rs.map Rl.pv) ≤ 3
  | [] => by simp [deps]
  | r :: rs => by simp only [List.map_cons, deps]; have := deps_pvs rs; have := dep_pv r; omega
theorem dep_book (cols : List Str) (rs : List Rl) : (PV.tup [Mi.ST cols, .tup (rs.map Rl.pv)]).dep ≤ 5 := by
  simp only [PV.dep, deps, deps_SS]; have := deps_pvs rs; omega
end Lw

set_option Elab.async false
set_option linter.all false
set_option maxRecDepth 100000
set_option maxHeartbeats 400000
set_option pp.maxSteps 1500
namespace Lw
open PySem Mi
/-! ### sizes of texts -/
def tsz (l : List Str) : Nat := (l.map fun w => w.length + 1).sum
theorem tsz_nil : tsz [] = 0 := rfl
theorem tsz_cons (a : Str) (l : List Str) : tsz (a :: l) = a.length + 1 + tsz l := by simp [tsz]
theorem tsz_append (a b : List Str) : tsz (a ++ b) = tsz a + tsz b := by simp [tsz]
theorem tsz_len : ∀ l : List Str, l.length ≤ tsz l
  | [] => by simp [tsz]
  | a :: l => by have := tsz_len l; rw [tsz_cons, List.length_cons]; omega
theorem tsz_mem : ∀ {l : List Str} {a : Str}, a ∈ l → a.length + 1 ≤ tsz l
  | b :: l, a, m => by
    rw [tsz_cons]
    rcases List.mem_cons.mp m with rfl | m
    · omega
    · have := tsz_mem m; omega
theorem tsz_take (l : List Str) (k : Nat) : tsz (l.take k) + tsz (l.drop k) = tsz l := by rw [← tsz_append, List.take_append_drop]
theorem sum_len : ∀ l : List Str, (l.map (·.length)).sum + l.length = tsz l
  | [] => rfl
  | a :: l => by have := sum_len l; rw [tsz_cons]; simp only [List.map_cons, List.sum_cons, List.length_cons]; omega
theorem join_le (y : Str) (xs : List Str) : (Txt.join y xs).length ≤ (xs.map (·.length)).sum + xs.length * y.length := by
  rw [TL.join_eq]
  exact StrLaws.join_length_le y xs
theorem one_len : ((" " : Str)).length = 1 := by decide +kernel
theorem nl_len : (("\n" : Str)).length = 1 := by decide +kernel
theorem join1_le {y : Str} (hy : y.length = 1) (xs : List Str) : (Txt.join y xs).length ≤ tsz xs := by
  have := join_le y xs
  rw [hy] at this
  have := sum_len xs
  omega
theorem join1_ev {y : Str} (hy : y.length = 1) {xs : List Str} (h : tsz xs ≤ 1000000) : (xs.map (·.length)).sum + xs.length * y.length ≤ 16777216 := by
  have := sum_len xs
  rw [hy]; omega
theorem joinL_len {S : List Nat} : ∀ {ps : List (List Nat)}, ps ≠ [] → (TL.joinL S ps).length + S.length = (ps.map fun p => p.length + S.length).sum
  | [], h => absurd rfl h
  | [p], _ => by simp [TL.joinL]
  | p :: q :: r, _ => by
    have := joinL_len (S := S) (ps := q :: r) (by simp)
    rw [List.map_cons, List.sum_cons, ← this]
    simp only [TL.joinL, List.length_append]
    omega
theorem tl_jn (y : Str) (ps : List Str) : TL.tl (Txt.join y ps) = TL.joinL (TL.tl y) (ps.map TL.tl) := by rw [TL.join_eq, TL.tl_join]
theorem join1_eq {y : Str} (hy : y.length = 1) {xs : List Str} (h : xs ≠ []) : (Txt.join y xs).length + 1 = tsz xs := by
  have e := joinL_len (S := TL.tl y) (ps := xs.map TL.tl) (by simpa using h)
  rw [← tl_jn, ← TL.len_tl, ← TL.len_tl, hy, List.map_map] at e
  rw [e]
  unfold tsz
  congr 1
theorem spl_ne (S : List Nat) : ∀ (l : List Nat) (k : Nat) (acc : List Nat), TL.spl S k acc l ≠ []
  | [], k, acc => by rw [TL.spl_nil]; simp
  | c :: r, 0, acc => by
    unfold TL.spl
    split
    · simp
    · exact spl_ne S r 0 _
  | c :: r, k + 1, acc => by
    unfold TL.spl
    exact spl_ne S r k acc
theorem split_ne {x y : Str} (hy : TL.tl y ≠ []) (hk : y.cps.all (· < 256) = true) : Txt.split x y ≠ [] := by
  intro e
  have := TL.split_spl x y hy (TL.kind_ok hk)
  rw [e] at this
  exact spl_ne _ _ _ _ this.symm
theorem split_b (x : Str) : Txt.split x " " ≠ [] := split_ne (by decide +kernel) (by decide +kernel)
theorem split_n (x : Str) : Txt.split x "\n" ≠ [] := split_ne (by decide +kernel) (by decide +kernel)
theorem join_split (x y : Str) : Txt.join y (Txt.split x y) = x := by rw [TL.join_eq]; exact StrLaws.join_split x y
theorem tsz_b (x : Str) : tsz (Txt.split x " ") = x.length + 1 := by
  rw [← join1_eq one_len (split_b x), join_split]
theorem tsz_n (x : Str) : tsz (Txt.split x "\n") = x.length + 1 := by
  rw [← join1_eq nl_len (split_n x), join_split]
theorem sp_ev {x : Str} (h : x.length ≤ 1000000) : evP .split [.str x, .str " "] = some (.lst (SS (Txt.split x " "))) := ev_split ⟨by rw [one_len]; decide, by have := lim_big; omega⟩
theorem nl_ev {x : Str} (h : x.length ≤ 1000000) : evP .split [.str x, .str "\n"] = some (.lst (SS (Txt.split x "\n"))) := ev_split ⟨by rw [nl_len]; decide, by have := lim_big; omega⟩
/-! ### the text of a rule -/
def rtext : Rl → Str
  | .tm m x y => Txt.join " " (x ++ [kindS m] ++ y)
  | .jn ps => "join " ++ Txt.join " / " (ps.map (Txt.join " "))
def Rl.fits : Rl → Prop
  | .tm m x y => tsz (x ++ [kindS m] ++ y) ≤ 1000000
  | .jn ps => (ps.map tsz).sum ≤ 1000000 ∧ ps.length ≤ 1000000
theorem mem_sum {α : Type} (f : α → Nat) : ∀ {xs : List α} {x : α}, x ∈ xs → f x ≤ (xs.map f).sum
  | y :: ys, x, m => by
    rw [List.map_cons, List.sum_cons]
    rcases List.mem_cons.mp m with rfl | m
    · omega
    · have := mem_sum f m; omega
theorem sum_mono {α : Type} (f g : α → Nat) : ∀ {xs : List α}, (∀ x ∈ xs, f x ≤ g x) → (xs.map f).sum ≤ (xs.map g).sum
  | [], _ => by simp
  | x :: xs, h => by
    have := sum_mono f g (xs := xs) fun y m => h y (List.mem_cons_of_mem _ m)
    have := h x List.mem_cons_self
    simp only [List.map_cons, List.sum_cons]
    omega
theorem three_len : ((" / " : Str)).length = 3 := by decide +kernel
theorem jn_size {ps : List (List Str)} (h : (Rl.jn ps).fits) : ((ps.map (Txt.join " ")).map (·.length)).sum + (ps.map (Txt.join " ")).length * ((" / " : Str)).length ≤ 4000000 := by
  have h1 := sum_mono (fun p => (Txt.join " " p).length) tsz (xs := ps) fun p _ => join1_le one_len p
  obtain ⟨h2, h3⟩ := h
  rw [three_len, List.map_map, List.length_map]
  simp only [Function.comp_def]
  omega
theorem rule_text_g (n : Nat) (hn : 1 ≤ n) (f : Fn) (hf : f = .rule_text ∨ f = ._law_rule_text) (r : Rl) (h : r.fits) : evF D n f [.v r.pv] = .ret (.v (.str (rtext r))) [.u] := by
  obtain ⟨n, rfl⟩ : ∃ m, n = m + 1 := ⟨n - 1, by omega⟩
  rcases hf with rfl | rfl
  all_goals
    refine evF_s rfl ?_
    cases r with
    | tm m x y =>
      have h : tsz (x ++ [kindS m] ++ y) ≤ 1000000 := h
      have h0 := tsz_len (x ++ [kindS m] ++ y)
      simp only [List.length_append, List.length_cons, List.length_nil] at h0
      have e1 : (SS x).length + [PV.str (kindS m)].length ≤ lim := le_lim' (by simp; omega)
      have e2 : (SS x ++ [PV.str (kindS m)]).length + (SS y).length ≤ lim := le_lim' (by simp; omega)
      have e3 : evP .join [.str " ", .lst (SS (x ++ [kindS m] ++ y))] = _ := ev_join_lst (join1_ev one_len h)
      simp [SS_append] at e3
      simp [D, lcnt, R.of_some, R.of_none, Wk.chk, evSs, evS, evE, evEs, evAnd, evOr, tst, Mi.Tm.args, Mi.Tm.arg, Mi.Tm.dn, mkTm, Pr.fresh, maskE, Cn.pv, Mi.Tm.pars, Mi.Tm.par, ioSlots, lendT, callT, ioFree, afterCall, Mi.Tm.lent, giveBack, evMu, Mu.recv, Pr.recv, PV.tag, canSet, Sl.free, List.range_succ, Mi.Tm.walk, seqOf, bindS, bindT, Tg.is, wipeE, backE, unlock, Wk.ios, Mi.Tm.pureOk, ioPure, parT, evH, evHs, b_rule_text, b__law_rule_text, Rl.pv, rtext, kind_ne m, ev_add_lst e1, ev_add_lst e2, e3]
    | jn ps =>
      simp [D, lcnt, R.of_some, R.of_none, Wk.chk, evSs, evS, evE, evEs, evAnd, evOr, tst, Mi.Tm.args, Mi.Tm.arg, Mi.Tm.dn, mkTm, Pr.fresh, maskE, Cn.pv, Mi.Tm.pars, Mi.Tm.par, ioSlots, lendT, callT, ioFree, afterCall, Mi.Tm.lent, giveBack, evMu, Mu.recv, Pr.recv, PV.tag, canSet, Sl.free, List.range_succ, Mi.Tm.walk, seqOf, bindS, bindT, Tg.is, wipeE, backE, unlock, Wk.ios, Mi.Tm.pureOk, ioPure, parT, evH, evHs, b_rule_text, rule_text_c1, b__law_rule_text, _law_rule_text_c1, Rl.pv, rtext]
      rw [lcL_mapL (fun p => PV.str (Txt.join " " p)) (le_lim' h.2) (by simp [D, lcnt, R.of_some, R.of_none, Wk.chk, evSs, evS, evE, evEs, evAnd, evOr, tst, Mi.Tm.args, Mi.Tm.arg, Mi.Tm.dn, mkTm, Pr.fresh, maskE, Cn.pv, Mi.Tm.pars, Mi.Tm.par, ioSlots, lendT, callT, ioFree, afterCall, Mi.Tm.lent, giveBack, evMu, Mu.recv, Pr.recv, PV.tag, canSet, Sl.free, List.range_succ, Mi.Tm.walk, seqOf, bindS, bindT, Tg.is, wipeE, backE, unlock, Wk.ios, Mi.Tm.pureOk, ioPure, parT, evH, evHs, ]) (fun p m => by
        have e1 := ev_join_tup (join1_ev one_len (xs := p) (by have := mem_sum tsz m; have := h.1; omega))
        simp [D, lcnt, R.of_some, R.of_none, Wk.chk, evSs, evS, evE, evEs, evAnd, evOr, tst, Mi.Tm.args, Mi.Tm.arg, Mi.Tm.dn, mkTm, Pr.fresh, maskE, Cn.pv, Mi.Tm.pars, Mi.Tm.par, ioSlots, lendT, callT, ioFree, afterCall, Mi.Tm.lent, giveBack, evMu, Mu.recv, Pr.recv, PV.tag, canSet, Sl.free, List.range_succ, Mi.Tm.walk, seqOf, bindS, bindT, Tg.is, wipeE, backE, unlock, Wk.ios, Mi.Tm.pureOk, ioPure, parT, evH, evHs, e1])]
      have e1 := ev_join_lst (Nat.le_trans (jn_size h) (by omega))
      rw [SS, List.map_map] at e1
      simp only [Function.comp_def] at e1
      have e2 : (Str.ofString "join ").length + (Txt.join " / " (ps.map (Txt.join " "))).length ≤ lim := by
        have h1 := Nat.le_trans (join_le _ _) (jn_size h)
        have e : (Str.ofString "join ").length = 5 := by decide +kernel
        have := lim_big
        omega
      simp [D, lcnt, R.of_some, R.of_none, Wk.chk, evSs, evS, evE, evEs, evAnd, evOr, tst, Mi.Tm.args, Mi.Tm.arg, Mi.Tm.dn, mkTm, Pr.fresh, maskE, Cn.pv, Mi.Tm.pars, Mi.Tm.par, ioSlots, lendT, callT, ioFree, afterCall, Mi.Tm.lent, giveBack, evMu, Mu.recv, Pr.recv, PV.tag, canSet, Sl.free, List.range_succ, Mi.Tm.walk, seqOf, bindS, bindT, Tg.is, wipeE, backE, unlock, Wk.ios, Mi.Tm.pureOk, ioPure, parT, evH, evHs, e1, ev_add_str e2]
/-! ### the text of a book -/
def btext (cols : List Str) (rs : List Rl) : Str := Txt.join "\n" (Txt.join " " ("columns" :: cols) :: rs.map rtext)
structure Fits (cols : List Str) (rs : List Rl) : Prop where
  c : tsz (("columns" : Str) :: cols) ≤ 1000000
  r : ∀ r ∈ rs, r.fits
  b : tsz (Txt.join " " (("columns" : Str) :: cols) :: rs.map rtext) ≤ 1000000
theorem law_text_b (n : Nat) (hn : 2 ≤ n) (cols : List Str) (rs : List Rl) (h : Fits cols rs) : evF D n ._law_text [.v (.tup [ST cols, .tup (rs.map Rl.pv)])] = .ret (.v (.str (btext cols rs))) [.u] := by
  obtain ⟨n, rfl⟩ : ∃ m, n = m + 1 := ⟨n - 1, by omega⟩
  refine evF_s rfl ?_
  have l1 := tsz_len (("columns" : Str) :: cols)
  have l2 := tsz_len (Txt.join " " (("columns" : Str) :: cols) :: rs.map rtext)
  have h1 := h.c
  have h2 := h.b
  simp only [List.length_cons, List.length_map] at l1 l2
  have e1 : [PV.str "columns"].length + (SS cols).length ≤ lim := le_lim' (by simp; omega)
  have e2 : evP .join [.str " ", .lst (SS ("columns" :: cols))] = _ := ev_join_lst (join1_ev one_len h.c)
  have e3 := ev_join_lst (join1_ev nl_len h.b)
  have e4 : [PV.str (Txt.join " " ("columns" :: cols))].length + (rs.map fun r => PV.str (rtext r)).length ≤ lim := le_lim' (by simp; omega)
  simp [SS, Function.comp_def] at e2 e3
  simp [D, lcnt, R.of_some, R.of_none, Wk.chk, evSs, evS, evE, evEs, evAnd, evOr, tst, Mi.Tm.args, Mi.Tm.arg, Mi.Tm.dn, mkTm, Pr.fresh, maskE, Cn.pv, Mi.Tm.pars, Mi.Tm.par, ioSlots, lendT, callT, ioFree, afterCall, Mi.Tm.lent, giveBack, evMu, Mu.recv, Pr.recv, PV.tag, canSet, Sl.free, List.range_succ, Mi.Tm.walk, seqOf, bindS, bindT, Tg.is, wipeE, backE, unlock, Wk.ios, Mi.Tm.pureOk, ioPure, parT, evH, evHs, b__law_text, _law_text_c1, ev_add_lst e1, e2]
  rw [lcL_mapL (fun r => PV.str (rtext r)) (le_lim' (by omega)) (by simp [D, lcnt, R.of_some, R.of_none, Wk.chk, evSs, evS, evE, evEs, evAnd, evOr, tst, Mi.Tm.args, Mi.Tm.arg, Mi.Tm.dn, mkTm, Pr.fresh, maskE, Cn.pv, Mi.Tm.pars, Mi.Tm.par, ioSlots, lendT, callT, ioFree, afterCall, Mi.Tm.lent, giveBack, evMu, Mu.recv, Pr.recv, PV.tag, canSet, Sl.free, List.range_succ, Mi.Tm.walk, seqOf, bindS, bindT, Tg.is, wipeE, backE, unlock, Wk.ios, Mi.Tm.pureOk, ioPure, parT, evH, evHs, ]) (fun r m => by simp [D, lcnt, R.of_some, R.of_none, Wk.chk, evSs, evS, evE, evEs, evAnd, evOr, tst, Mi.Tm.args, Mi.Tm.arg, Mi.Tm.dn, mkTm, Pr.fresh, maskE, Cn.pv, Mi.Tm.pars, Mi.Tm.par, ioSlots, lendT, callT, ioFree, afterCall, Mi.Tm.lent, giveBack, evMu, Mu.recv, Pr.recv, PV.tag, canSet, Sl.free, List.range_succ, Mi.Tm.walk, seqOf, bindS, bindT, Tg.is, wipeE, backE, unlock, Wk.ios, Mi.Tm.pureOk, ioPure, parT, evH, evHs, rule_text_g n (by omega) ._law_rule_text (.inr rfl) r (h.r r m)])]
  simp [D, lcnt, R.of_some, R.of_none, Wk.chk, evSs, evS, evE, evEs, evAnd, evOr, tst, Mi.Tm.args, Mi.Tm.arg, Mi.Tm.dn, mkTm, Pr.fresh, maskE, Cn.pv, Mi.Tm.pars, Mi.Tm.par, ioSlots, lendT, callT, ioFree, afterCall, Mi.Tm.lent, giveBack, evMu, Mu.recv, Pr.recv, PV.tag, canSet, Sl.free, List.range_succ, Mi.Tm.walk, seqOf, bindS, bindT, Tg.is, wipeE, backE, unlock, Wk.ios, Mi.Tm.pureOk, ioPure, parT, evH, evHs, ev_add_lst e4, Function.comp_def, btext, e3]
theorem book_text_b (n : Nat) (hn : 2 ≤ n) (cols : List Str) (rs : List Rl) (h : Fits cols rs) : evF D n .book_text [.v (ST cols), .v (.tup (rs.map Rl.pv))] = .ret (.v (.str (btext cols rs))) [.u, .u] := by
  obtain ⟨n, rfl⟩ : ∃ m, n = m + 1 := ⟨n - 1, by omega⟩
  refine evF_s rfl ?_
  have l1 := tsz_len (("columns" : Str) :: cols)
  have l2 := tsz_len (Txt.join " " (("columns" : Str) :: cols) :: rs.map rtext)
  have h1 := h.c
  have h2 := h.b
  simp only [List.length_cons, List.length_map] at l1 l2
  have e1 : [PV.str "columns"].length + (SS cols).length ≤ lim := le_lim' (by simp; omega)
  have e2 : evP .join [.str " ", .lst (SS ("columns" :: cols))] = _ := ev_join_lst (join1_ev one_len h.c)
  have e3 := ev_join_lst (join1_ev nl_len h.b)
  have e4 : [PV.str (Txt.join " " ("columns" :: cols))].length + (rs.map fun r => PV.str (rtext r)).length ≤ lim := le_lim' (by simp; omega)
  simp [SS, Function.comp_def] at e2 e3
  simp [D, lcnt, R.of_some, R.of_none, Wk.chk, evSs, evS, evE, evEs, evAnd, evOr, tst, Mi.Tm.args, Mi.Tm.arg, Mi.Tm.dn, mkTm, Pr.fresh, maskE, Cn.pv, Mi.Tm.pars, Mi.Tm.par, ioSlots, lendT, callT, ioFree, afterCall, Mi.Tm.lent, giveBack, evMu, Mu.recv, Pr.recv, PV.tag, canSet, Sl.free, List.range_succ, Mi.Tm.walk, seqOf, bindS, bindT, Tg.is, wipeE, backE, unlock, Wk.ios, Mi.Tm.pureOk, ioPure, parT, evH, evHs, b_book_text, book_text_c1, ev_add_lst e1, e2]
  rw [lcL_mapL (fun r => PV.str (rtext r)) (le_lim' (by omega)) (by simp [D, lcnt, R.of_some, R.of_none, Wk.chk, evSs, evS, evE, evEs, evAnd, evOr, tst, Mi.Tm.args, Mi.Tm.arg, Mi.Tm.dn, mkTm, Pr.fresh, maskE, Cn.pv, Mi.Tm.pars, Mi.Tm.par, ioSlots, lendT, callT, ioFree, afterCall, Mi.Tm.lent, giveBack, evMu, Mu.recv, Pr.recv, PV.tag, canSet, Sl.free, List.range_succ, Mi.Tm.walk, seqOf, bindS, bindT, Tg.is, wipeE, backE, unlock, Wk.ios, Mi.Tm.pureOk, ioPure, parT, evH, evHs, ]) (fun r m => by simp [D, lcnt, R.of_some, R.of_none, Wk.chk, evSs, evS, evE, evEs, evAnd, evOr, tst, Mi.Tm.args, Mi.Tm.arg, Mi.Tm.dn, mkTm, Pr.fresh, maskE, Cn.pv, Mi.Tm.pars, Mi.Tm.par, ioSlots, lendT, callT, ioFree, afterCall, Mi.Tm.lent, giveBack, evMu, Mu.recv, Pr.recv, PV.tag, canSet, Sl.free, List.range_succ, Mi.Tm.walk, seqOf, bindS, bindT, Tg.is, wipeE, backE, unlock, Wk.ios, Mi.Tm.pureOk, ioPure, parT, evH, evHs, rule_text_g n (by omega) .rule_text (.inl rfl) r (h.r r m)])]
  simp [D, lcnt, R.of_some, R.of_none, Wk.chk, evSs, evS, evE, evEs, evAnd, evOr, tst, Mi.Tm.args, Mi.Tm.arg, Mi.Tm.dn, mkTm, Pr.fresh, maskE, Cn.pv, Mi.Tm.pars, Mi.Tm.par, ioSlots, lendT, callT, ioFree, afterCall, Mi.Tm.lent, giveBack, evMu, Mu.recv, Pr.recv, PV.tag, canSet, Sl.free, List.range_succ, Mi.Tm.walk, seqOf, bindS, bindT, Tg.is, wipeE, backE, unlock, Wk.ios, Mi.Tm.pureOk, ioPure, parT, evH, evHs, ev_add_lst e4, Function.comp_def, btext, e3]
end Lw

set_option Elab.async false
set_option linter.all false
set_option maxRecDepth 100000
set_option maxHeartbeats 400000
set_option pp.maxSteps 1500
namespace Lw
open PySem Mi
/-! ### names -/
def AZ : Str := "abcdefghijklmnopqrstuvwxyz"
def AZ9 : Str := "abcdefghijklmnopqrstuvwxyz0123456789"
def CLOSED : List Str := ["columns", "tells", "many", "join", "table", "lies", "in", "some", "both", "less", "choose", "cut", "rename", "of"]
def chs (w : Str) : List Str := w.cps.toList.map fun c => ⟨#[c]⟩
def inS (c s : Str) : Bool := decide (c.cps.getD 0 0 ∈ s.cps.toList)
def isN (w : Str) : Bool := decide (w ≠ "") && (decide (w.length ≤ 6) && (decide (w ∉ CLOSED) && (inS ((chs w).headD "") AZ && ((chs w).filter fun c => !inS c AZ9).isEmpty)))
theorem az_add : evP .add [.str AZ, c_FIGURES] = some (.str AZ9) := by decide +kernel
theorem c_small : c_SMALL = .str AZ := rfl
theorem c_closed : c_CLOSED_WORDS = Mi.ST CLOSED := rfl
theorem chs_one {w c : Str} (h : c ∈ chs w) : c.cps.size = 1 := by
  obtain ⟨x, _, rfl⟩ := List.mem_map.mp h
  rfl
theorem ev_nin {w c : Str} (h : c ∈ chs w) (s : Str) : evP .notIn [.str c, .str s] = some (.bl (!inS c s)) := by
  simp only [evP, two, pIn]
  rw [if_pos (chs_one h)]
  rfl
theorem empty_iff (w : Str) : w = "" ↔ w.cps.toList = [] := by
  constructor
  · rintro rfl; decide +kernel
  · intro h
    apply TL.ext_tl
    show w.cps.toList = _
    rw [h]
    decide +kernel
theorem len_pos {w : Str} : w ≠ "" ↔ 0 < w.length := by
  rw [Ne, empty_iff]
  show ¬ w.cps.toList = [] ↔ 0 < w.cps.size
  rw [← Array.length_toList, List.length_pos_iff]
theorem head_mem {w : Str} (h : w ≠ "") : (chs w).headD "" ∈ chs w := by
  have : chs w ≠ [] := fun e => h ((empty_iff w).mpr (List.map_eq_nil_iff.mp e))
  cases e : chs w with
  | nil => exact absurd e this
  | cons a r => simp
theorem ev_ix0 {w : Str} (h : w ≠ "") (hl : w.length ≤ lim) : evP .ix [.str w, .int 0] = some (.str ((chs w).headD "")) := by
  have h0 : 0 < w.cps.toList.length := List.length_pos_iff.mpr fun e => h ((empty_iff w).mpr e)
  have := atI_nat h0
  simp only [evP, two, pIx]
  rw [if_pos hl]
  have e : ((0 : Nat) : Int) = 0 := rfl
  rw [e] at this
  rw [this]
  simp only [Option.map_some, chs, List.headD_eq_head?_getD, List.head?_map, List.head?_eq_getElem?, List.getElem?_map, List.getElem?_eq_getElem h0, Option.getD_some]
theorem chs_seq (w : Str) : seqOf (.str w) = some (SS (chs w)) := by simp [seqOf, chs, SS, Function.comp_def]
theorem chs_len (w : Str) : (chs w).length = w.length := by simp [chs]; rfl
theorem is_name_g (n : Nat) (hn : 1 ≤ n) (w : Str) (hl : w.length ≤ 1000000) : evF D n .is_name [.v (.str w)] = .ret (.v (.bl (isN w))) [.u] := by
  obtain ⟨n, rfl⟩ : ∃ m, n = m + 1 := ⟨n - 1, by omega⟩
  refine evF_s rfl ?_
  have lE := ev_len_str (le_lim' hl)
  unfold isN
  by_cases h0 : w = ""
  · simp [D, lcnt, R.of_some, R.of_none, Wk.chk, evSs, evS, evE, evEs, evAnd, evOr, tst, Mi.Tm.args, Mi.Tm.arg, Mi.Tm.dn, mkTm, Pr.fresh, maskE, Cn.pv, Mi.Tm.pars, Mi.Tm.par, ioSlots, lendT, callT, ioFree, afterCall, Mi.Tm.lent, giveBack, evMu, Mu.recv, Pr.recv, PV.tag, canSet, Sl.free, List.range_succ, Mi.Tm.walk, seqOf, bindS, bindT, Tg.is, wipeE, backE, unlock, Wk.ios, Mi.Tm.pureOk, ioPure, parT, evH, evHs, b_is_name, h0]
  have xE := ev_ix0 h0 (le_lim' hl)
  have hm := head_mem h0
  by_cases h6 : w.length ≤ 6
  · have h6' : ¬ (6 : Int) < (w.length : Int) := by omega
    have cE : evP .isIn [.str w, Mi.ST CLOSED] = some (.bl (decide (w ∈ CLOSED))) := ev_in_str _ _
    by_cases hc : w ∈ CLOSED
    · simp only [hc, decide_true] at cE
      simp [D, lcnt, R.of_some, R.of_none, Wk.chk, evSs, evS, evE, evEs, evAnd, evOr, tst, Mi.Tm.args, Mi.Tm.arg, Mi.Tm.dn, mkTm, Pr.fresh, maskE, Cn.pv, Mi.Tm.pars, Mi.Tm.par, ioSlots, lendT, callT, ioFree, afterCall, Mi.Tm.lent, giveBack, evMu, Mu.recv, Pr.recv, PV.tag, canSet, Sl.free, List.range_succ, Mi.Tm.walk, seqOf, bindS, bindT, Tg.is, wipeE, backE, unlock, Wk.ios, Mi.Tm.pureOk, ioPure, parT, evH, evHs, b_is_name, h0, lE, h6', h6, c_MOST_NAME, c_closed, cE, hc]
    · simp only [hc, decide_false] at cE
      have sE := ev_nin hm AZ
      have hs := chs_seq w
      have hcl : (chs w).length ≤ lim := by rw [chs_len]; exact le_lim' hl
      have hin := fun c (m : c ∈ chs w) => ev_nin m AZ9
      generalize (chs w).headD "" = c0 at *
      generalize chs w = cs at *
      by_cases ha : inS c0 AZ = true
      · simp only [ha, Bool.not_true] at sE
        simp [D, lcnt, R.of_some, R.of_none, Wk.chk, evSs, evS, evE, evEs, evAnd, evOr, tst, Mi.Tm.args, Mi.Tm.arg, Mi.Tm.dn, mkTm, Pr.fresh, maskE, Cn.pv, Mi.Tm.pars, Mi.Tm.par, ioSlots, lendT, callT, ioFree, afterCall, Mi.Tm.lent, giveBack, evMu, Mu.recv, Pr.recv, PV.tag, canSet, Sl.free, List.range_succ, Mi.Tm.walk, seqOf, bindS, bindT, Tg.is, wipeE, backE, unlock, Wk.ios, Mi.Tm.pureOk, ioPure, parT, evH, evHs, b_is_name, is_name_c1, h0, lE, h6', h6, c_MOST_NAME, c_closed, cE, hc, xE, c_small, sE, ha, az_add, -seqOf, hs]
        rw [lcL_filtL (fun c => !inS c AZ9) PV.str hcl (by simp [D, lcnt, R.of_some, R.of_none, Wk.chk, evSs, evS, evE, evEs, evAnd, evOr, tst, Mi.Tm.args, Mi.Tm.arg, Mi.Tm.dn, mkTm, Pr.fresh, maskE, Cn.pv, Mi.Tm.pars, Mi.Tm.par, ioSlots, lendT, callT, ioFree, afterCall, Mi.Tm.lent, giveBack, evMu, Mu.recv, Pr.recv, PV.tag, canSet, Sl.free, List.range_succ, Mi.Tm.walk, seqOf, bindS, bindT, Tg.is, wipeE, backE, unlock, Wk.ios, Mi.Tm.pureOk, ioPure, parT, evH, evHs, ]) (fun x m => by
          have := hin x m
          cases hb : inS x AZ9 <;> (rw [hb] at this; simp [D, lcnt, R.of_some, R.of_none, Wk.chk, evSs, evS, evE, evEs, evAnd, evOr, tst, Mi.Tm.args, Mi.Tm.arg, Mi.Tm.dn, mkTm, Pr.fresh, maskE, Cn.pv, Mi.Tm.pars, Mi.Tm.par, ioSlots, lendT, callT, ioFree, afterCall, Mi.Tm.lent, giveBack, evMu, Mu.recv, Pr.recv, PV.tag, canSet, Sl.free, List.range_succ, Mi.Tm.walk, seqOf, bindS, bindT, Tg.is, wipeE, backE, unlock, Wk.ios, Mi.Tm.pureOk, ioPure, parT, evH, evHs, this, az_add, hb]))]
        generalize cs.filter (fun c => !inS c AZ9) = F
        cases F with
        | nil => simp [D, lcnt, R.of_some, R.of_none, Wk.chk, evSs, evS, evE, evEs, evAnd, evOr, tst, Mi.Tm.args, Mi.Tm.arg, Mi.Tm.dn, mkTm, Pr.fresh, maskE, Cn.pv, Mi.Tm.pars, Mi.Tm.par, ioSlots, lendT, callT, ioFree, afterCall, Mi.Tm.lent, giveBack, evMu, Mu.recv, Pr.recv, PV.tag, canSet, Sl.free, List.range_succ, Mi.Tm.walk, seqOf, bindS, bindT, Tg.is, wipeE, backE, unlock, Wk.ios, Mi.Tm.pureOk, ioPure, parT, evH, evHs, ]
        | cons a r =>
          have : ¬ ((r.length : Int) + 1 = 0) := by omega
          simp [D, lcnt, R.of_some, R.of_none, Wk.chk, evSs, evS, evE, evEs, evAnd, evOr, tst, Mi.Tm.args, Mi.Tm.arg, Mi.Tm.dn, mkTm, Pr.fresh, maskE, Cn.pv, Mi.Tm.pars, Mi.Tm.par, ioSlots, lendT, callT, ioFree, afterCall, Mi.Tm.lent, giveBack, evMu, Mu.recv, Pr.recv, PV.tag, canSet, Sl.free, List.range_succ, Mi.Tm.walk, seqOf, bindS, bindT, Tg.is, wipeE, backE, unlock, Wk.ios, Mi.Tm.pureOk, ioPure, parT, evH, evHs, this]
      · simp only [Bool.not_eq_true] at ha
        simp only [ha, Bool.not_false] at sE
        simp [D, lcnt, R.of_some, R.of_none, Wk.chk, evSs, evS, evE, evEs, evAnd, evOr, tst, Mi.Tm.args, Mi.Tm.arg, Mi.Tm.dn, mkTm, Pr.fresh, maskE, Cn.pv, Mi.Tm.pars, Mi.Tm.par, ioSlots, lendT, callT, ioFree, afterCall, Mi.Tm.lent, giveBack, evMu, Mu.recv, Pr.recv, PV.tag, canSet, Sl.free, List.range_succ, Mi.Tm.walk, seqOf, bindS, bindT, Tg.is, wipeE, backE, unlock, Wk.ios, Mi.Tm.pureOk, ioPure, parT, evH, evHs, b_is_name, h0, lE, h6', h6, c_MOST_NAME, c_closed, cE, hc, xE, c_small, sE, ha]
  · have h6' : (6 : Int) < (w.length : Int) := by omega
    simp [D, lcnt, R.of_some, R.of_none, Wk.chk, evSs, evS, evE, evEs, evAnd, evOr, tst, Mi.Tm.args, Mi.Tm.arg, Mi.Tm.dn, mkTm, Pr.fresh, maskE, Cn.pv, Mi.Tm.pars, Mi.Tm.par, ioSlots, lendT, callT, ioFree, afterCall, Mi.Tm.lent, giveBack, evMu, Mu.recv, Pr.recv, PV.tag, canSet, Sl.free, List.range_succ, Mi.Tm.walk, seqOf, bindS, bindT, Tg.is, wipeE, backE, unlock, Wk.ios, Mi.Tm.pureOk, ioPure, parT, evH, evHs, b_is_name, h0, lE, h6', h6, c_MOST_NAME]
theorem law_name_g (n : Nat) (hn : 1 ≤ n) (w : Str) (hl : w.length ≤ 1000000) : evF D n ._law_name [.v (.str w)] = .ret (.v (.bl (isN w))) [.u] := by
  obtain ⟨n, rfl⟩ : ∃ m, n = m + 1 := ⟨n - 1, by omega⟩
  refine evF_s rfl ?_
  have lE := ev_len_str (le_lim' hl)
  have hlp := len_pos (w := w)
  have l14 : 14 ≤ lim := le_lim' (by omega)
  have cl : PV.lst [.str "columns", .str "tells", .str "many", .str "join", .str "table", .str "lies", .str "in", .str "some", .str "both", .str "less", .str "choose", .str "cut", .str "rename", .str "of"] = .lst (SS CLOSED) := rfl
  have cE : evP .isIn [.str w, .lst (SS CLOSED)] = some (.bl (decide (w ∈ CLOSED))) := ev_in_ltr _ _
  rw [← cl] at cE
  unfold isN
  by_cases hc : w ∈ CLOSED
  · simp only [hc, decide_true] at cE
    simp [D, lcnt, R.of_some, R.of_none, Wk.chk, evSs, evS, evE, evEs, evAnd, evOr, tst, Mi.Tm.args, Mi.Tm.arg, Mi.Tm.dn, mkTm, Pr.fresh, maskE, Cn.pv, Mi.Tm.pars, Mi.Tm.par, ioSlots, lendT, callT, ioFree, afterCall, Mi.Tm.lent, giveBack, evMu, Mu.recv, Pr.recv, PV.tag, canSet, Sl.free, List.range_succ, Mi.Tm.walk, seqOf, bindS, bindT, Tg.is, wipeE, backE, unlock, Wk.ios, Mi.Tm.pureOk, ioPure, parT, evH, evHs, b__law_name, l14, cE, hc]
  simp only [hc, decide_false] at cE
  by_cases h0 : w = ""
  · have z : w.length = 0 := by
      have := mt hlp.mpr (by simp [h0] : ¬ w ≠ "")
      omega
    rw [z] at lE
    have hb : (decide (w ≠ "") && (decide (w.length ≤ 6) && (decide (w ∉ CLOSED) && (inS ((chs w).headD "") AZ && ((chs w).filter fun c => !inS c AZ9).isEmpty)))) = false := by simp [h0]
    rw [hb]
    simp [D, lcnt, R.of_some, R.of_none, Wk.chk, evSs, evS, evE, evEs, evAnd, evOr, tst, Mi.Tm.args, Mi.Tm.arg, Mi.Tm.dn, mkTm, Pr.fresh, maskE, Cn.pv, Mi.Tm.pars, Mi.Tm.par, ioSlots, lendT, callT, ioFree, afterCall, Mi.Tm.lent, giveBack, evMu, Mu.recv, Pr.recv, PV.tag, canSet, Sl.free, List.range_succ, Mi.Tm.walk, seqOf, bindS, bindT, Tg.is, wipeE, backE, unlock, Wk.ios, Mi.Tm.pureOk, ioPure, parT, evH, evHs, b__law_name, l14, cE, lE]
  have h1 : (1 : Int) ≤ (w.length : Int) := by have := hlp.mp h0; omega
  have xE := ev_ix0 h0 (le_lim' hl)
  have hm := head_mem h0
  by_cases h6 : w.length ≤ 6
  · have h6' : (w.length : Int) ≤ 6 := by omega
    have sE := ev_nin hm AZ
    have hs := chs_seq w
    have hcl : (chs w).length ≤ lim := by rw [chs_len]; exact le_lim' hl
    have hin := fun c (m : c ∈ chs w) => ev_nin m AZ9
    have az : AZ = "abcdefghijklmnopqrstuvwxyz" := rfl
    have az9 : AZ9 = "abcdefghijklmnopqrstuvwxyz0123456789" := rfl
    generalize (chs w).headD "" = c0 at *
    generalize chs w = cs at *
    by_cases ha : inS c0 AZ = true
    · simp only [ha, Bool.not_true] at sE
      rw [az] at sE
      simp [D, lcnt, R.of_some, R.of_none, Wk.chk, evSs, evS, evE, evEs, evAnd, evOr, tst, Mi.Tm.args, Mi.Tm.arg, Mi.Tm.dn, mkTm, Pr.fresh, maskE, Cn.pv, Mi.Tm.pars, Mi.Tm.par, ioSlots, lendT, callT, ioFree, afterCall, Mi.Tm.lent, giveBack, evMu, Mu.recv, Pr.recv, PV.tag, canSet, Sl.free, List.range_succ, Mi.Tm.walk, seqOf, bindS, bindT, Tg.is, wipeE, backE, unlock, Wk.ios, Mi.Tm.pureOk, ioPure, parT, evH, evHs, b__law_name, l14, _law_name_c1, h0, lE, h1, h6', h6, cE, hc, xE, sE, ha, -seqOf, hs]
      rw [lcL_filtL (fun c => !inS c AZ9) PV.str hcl (by simp [D, lcnt, R.of_some, R.of_none, Wk.chk, evSs, evS, evE, evEs, evAnd, evOr, tst, Mi.Tm.args, Mi.Tm.arg, Mi.Tm.dn, mkTm, Pr.fresh, maskE, Cn.pv, Mi.Tm.pars, Mi.Tm.par, ioSlots, lendT, callT, ioFree, afterCall, Mi.Tm.lent, giveBack, evMu, Mu.recv, Pr.recv, PV.tag, canSet, Sl.free, List.range_succ, Mi.Tm.walk, seqOf, bindS, bindT, Tg.is, wipeE, backE, unlock, Wk.ios, Mi.Tm.pureOk, ioPure, parT, evH, evHs, ]) (fun x m => by
        have := hin x m
        rw [az9] at this
        rw [az9]
        generalize inS x "abcdefghijklmnopqrstuvwxyz0123456789" = b at *
        cases b <;> simp [D, lcnt, R.of_some, R.of_none, Wk.chk, evSs, evS, evE, evEs, evAnd, evOr, tst, Mi.Tm.args, Mi.Tm.arg, Mi.Tm.dn, mkTm, Pr.fresh, maskE, Cn.pv, Mi.Tm.pars, Mi.Tm.par, ioSlots, lendT, callT, ioFree, afterCall, Mi.Tm.lent, giveBack, evMu, Mu.recv, Pr.recv, PV.tag, canSet, Sl.free, List.range_succ, Mi.Tm.walk, seqOf, bindS, bindT, Tg.is, wipeE, backE, unlock, Wk.ios, Mi.Tm.pureOk, ioPure, parT, evH, evHs, this])]
      generalize cs.filter (fun c => !inS c AZ9) = F
      cases F with
      | nil => simp [D, lcnt, R.of_some, R.of_none, Wk.chk, evSs, evS, evE, evEs, evAnd, evOr, tst, Mi.Tm.args, Mi.Tm.arg, Mi.Tm.dn, mkTm, Pr.fresh, maskE, Cn.pv, Mi.Tm.pars, Mi.Tm.par, ioSlots, lendT, callT, ioFree, afterCall, Mi.Tm.lent, giveBack, evMu, Mu.recv, Pr.recv, PV.tag, canSet, Sl.free, List.range_succ, Mi.Tm.walk, seqOf, bindS, bindT, Tg.is, wipeE, backE, unlock, Wk.ios, Mi.Tm.pureOk, ioPure, parT, evH, evHs, ]
      | cons a r =>
        have : ¬ ((r.length : Int) + 1 = 0) := by omega
        simp [D, lcnt, R.of_some, R.of_none, Wk.chk, evSs, evS, evE, evEs, evAnd, evOr, tst, Mi.Tm.args, Mi.Tm.arg, Mi.Tm.dn, mkTm, Pr.fresh, maskE, Cn.pv, Mi.Tm.pars, Mi.Tm.par, ioSlots, lendT, callT, ioFree, afterCall, Mi.Tm.lent, giveBack, evMu, Mu.recv, Pr.recv, PV.tag, canSet, Sl.free, List.range_succ, Mi.Tm.walk, seqOf, bindS, bindT, Tg.is, wipeE, backE, unlock, Wk.ios, Mi.Tm.pureOk, ioPure, parT, evH, evHs, this]
    · simp only [Bool.not_eq_true] at ha
      simp only [ha, Bool.not_false] at sE
      rw [az] at sE
      simp [D, lcnt, R.of_some, R.of_none, Wk.chk, evSs, evS, evE, evEs, evAnd, evOr, tst, Mi.Tm.args, Mi.Tm.arg, Mi.Tm.dn, mkTm, Pr.fresh, maskE, Cn.pv, Mi.Tm.pars, Mi.Tm.par, ioSlots, lendT, callT, ioFree, afterCall, Mi.Tm.lent, giveBack, evMu, Mu.recv, Pr.recv, PV.tag, canSet, Sl.free, List.range_succ, Mi.Tm.walk, seqOf, bindS, bindT, Tg.is, wipeE, backE, unlock, Wk.ios, Mi.Tm.pureOk, ioPure, parT, evH, evHs, b__law_name, l14, h0, lE, h1, h6', h6, cE, hc, xE, sE, ha]
  · have h6' : ¬ (w.length : Int) ≤ 6 := by omega
    simp [D, lcnt, R.of_some, R.of_none, Wk.chk, evSs, evS, evE, evEs, evAnd, evOr, tst, Mi.Tm.args, Mi.Tm.arg, Mi.Tm.dn, mkTm, Pr.fresh, maskE, Cn.pv, Mi.Tm.pars, Mi.Tm.par, ioSlots, lendT, callT, ioFree, afterCall, Mi.Tm.lent, giveBack, evMu, Mu.recv, Pr.recv, PV.tag, canSet, Sl.free, List.range_succ, Mi.Tm.walk, seqOf, bindS, bindT, Tg.is, wipeE, backE, unlock, Wk.ios, Mi.Tm.pureOk, ioPure, parT, evH, evHs, b__law_name, l14, h0, lE, h1, h6', h6, cE, hc]
end Lw

set_option Elab.async false
set_option linter.all false
set_option maxRecDepth 100000
set_option maxHeartbeats 400000
set_option pp.maxSteps 1500
namespace Lw
open PySem Mi
/-! ### walks that a bad item ends -/
def Stop : R Fl → Prop
  | .ok (.rt _) _ => True
  | .ex _ _ _ => True
  | _ => False
theorem Stop.cases {r : R Fl} (h : Stop r) : (∃ t ρ, r = .ok (.rt t) ρ) ∨ ∃ c fs ρ, r = .ex c fs ρ := by
  cases r with
  | ok f ρ => cases f <;> first | exact .inl ⟨_, _, rfl⟩ | exact h.elim
  | ex c fs ρ => exact .inr ⟨_, _, _, rfl⟩
  | no => exact h.elim
theorem forL_find {α : Type} {c : Evn → Prop} {f : PV → Evn → R Fl} {m : α → PV} {xs : List α} (bad : α → Bool) (ρs : Nat → Evn) (hc : ∀ i, i ≤ xs.length → c (ρs i))
    (h : ∀ i (hi : i < xs.length), bad xs[i] = false → f (m xs[i]) (ρs i) = .ok .nx (ρs (i + 1))) (hb : ∀ i (hi : i < xs.length), bad xs[i] = true → Stop (f (m xs[i]) (ρs i))) :
    (xs.find? bad = none → forL c f (xs.map m) (ρs 0) = .ok .nx (ρs xs.length)) ∧ (∀ x, xs.find? bad = some x → ∃ i, ∃ hi : i < xs.length, xs[i] = x ∧ forL c f (xs.map m) (ρs 0) = f (m x) (ρs i)) := by
  have key : ∀ (suf pre : List α), xs = pre ++ suf → (suf.find? bad = none → forL c f (suf.map m) (ρs pre.length) = .ok .nx (ρs xs.length)) ∧ (∀ x, suf.find? bad = some x → ∃ i, ∃ hi : i < xs.length, xs[i] = x ∧ forL c f (suf.map m) (ρs pre.length) = f (m x) (ρs i)) := by
    intro suf
    induction suf with
    | nil =>
      intro pre e
      rw [List.append_nil] at e
      subst e
      exact ⟨fun _ => by simp [forL, hc xs.length (Nat.le_refl _)], fun x q => by simp at q⟩
    | cons x suf ih =>
      intro pre e
      have hi : pre.length < xs.length := by rw [e]; simp
      have hx : xs[pre.length] = x := by simp [e]
      by_cases hbx : bad x = true
      · refine ⟨fun q => by simp [hbx] at q, fun y q => ?_⟩
        rw [List.find?_cons_of_pos hbx] at q
        cases q
        refine ⟨pre.length, hi, hx, ?_⟩
        have s := hb pre.length hi (by rw [hx]; exact hbx)
        rw [hx] at s
        rw [List.map_cons, forL, if_pos (hc _ (Nat.le_of_lt hi))]
        rcases s.cases with ⟨t, ρ, s⟩ | ⟨a, b, ρ, s⟩ <;> rw [s] <;> rfl
      · have hb' : bad x = false := by simpa using hbx
        have := h pre.length hi (by rw [hx]; exact hb')
        rw [hx] at this
        have q := ih (pre ++ [x]) (by rw [e, List.append_assoc]; rfl)
        rw [List.length_append, List.length_singleton] at q
        rw [List.find?_cons_of_neg hbx, List.map_cons, forL, if_pos (hc _ (Nat.le_of_lt hi)), this, R.bd_ok]
        exact q
  exact key xs [] rfl
theorem forL_find' {α : Type} {c : Evn → Prop} {f : PV → Evn → R Fl} {m : α → PV} {xs : List α} (bad : α → Bool) (ρs : Nat → Evn) {F : R Fl} (hF : forL c f (xs.map m) (ρs 0) = F) (hc : ∀ i, i ≤ xs.length → c (ρs i))
    (h : ∀ i (hi : i < xs.length), bad xs[i] = false → f (m xs[i]) (ρs i) = .ok .nx (ρs (i + 1))) (hb : ∀ i (hi : i < xs.length), bad xs[i] = true → Stop (f (m xs[i]) (ρs i))) :
    (xs.find? bad = none ∧ F = .ok .nx (ρs xs.length)) ∨ ∃ x i, ∃ hi : i < xs.length, xs.find? bad = some x ∧ xs[i] = x ∧ bad x = true ∧ F = f (m x) (ρs i) := by
  have key := forL_find (c := c) (f := f) (m := m) bad ρs hc h hb
  rw [hF] at key
  cases e : xs.find? bad with
  | none => exact .inl ⟨rfl, key.1 e⟩
  | some x =>
    obtain ⟨i, hi, hx, q⟩ := key.2 x e
    exact .inr ⟨x, i, hi, rfl, hx, List.find?_some e, q⟩
theorem rng {a b : Nat} (ha : a ≤ 1000000) (hb : b ≤ 1000000) : evP .range2 [.int (a : Int), .int (b : Int)] = some (.lst ((List.range' a (b - a)).map fun (j : Nat) => PV.int (j : Int))) := by
  rw [ev_range2 (Nat.le_trans hb (by decide)) (Nat.le_trans ha (by decide)), rangeL_eq, List.range'_eq_map_range, List.map_map]
  rfl
/-- the word at a place -/
def at' (ws : List Str) (j : Nat) : Str := ws.getD j ""
theorem at_lst {ws : List Str} {j : Nat} (h : j < ws.length) : evP .ix [.lst (SS ws), .int (j : Int)] = some (.str (at' ws j)) := by
  rw [ev_ix_lst (by simpa using h)]
  simp [SS, at', List.getD_eq_getElem?_getD, h]
/-- words that are read -/
def Sz (ws : List Str) : Prop := tsz ws ≤ 900000
theorem Sz.len {ws : List Str} (h : Sz ws) : ws.length ≤ 900000 := Nat.le_trans (tsz_len ws) h
theorem Sz.at {ws : List Str} (h : Sz ws) (j : Nat) : (at' ws j).length ≤ 1000000 := by
  unfold at'
  by_cases hj : j < ws.length
  · rw [List.getD_eq_getElem?_getD, List.getElem?_eq_getElem hj, Option.getD_some]
    have := tsz_mem (List.getElem_mem hj)
    have : tsz ws ≤ 900000 := h
    omega
  · rw [List.getD_eq_getElem?_getD, List.getElem?_eq_none (by omega), Option.getD_none]
    have : (("" : Str)).length = 0 := by decide +kernel
    omega
def badN (ws : List Str) (j : Nat) : Bool := !isN (at' ws j)
def BT (line word : Int) : List (Str × PV) := [("word", .int word), ("line", .int line)]
theorem lastFr (p : Nat → PV) (i : Nat) : Fr (if i = 0 then Sl.u else .v (p (i - 1))) := by
  by_cases h : i = 0
  · rw [if_pos h]; exact fr_u
  · rw [if_neg h]; exact fr_v _
theorem check_g (n : Nat) (hn : 2 ≤ n) (line : Int) (ws : List Str) (st : Nat) (hl : Sz ws) (hst : st ≤ 1000000) :
    evF D n .check_names [.v (.int line), .v (.lst (SS ws)), .v (.int st)] = (match (List.range' st (ws.length - st)).find? (badN ws) with
      | none => .ret (.v .non) [.u, .u, .u]
      | some j => .ex "BadText" (BT line j) [.u, .u, .u]) := by
  obtain ⟨n, rfl⟩ : ∃ m, n = m + 1 := ⟨n - 1, by omega⟩
  refine evF_s rfl ?_
  have l1 := hl.len
  have er := rng hst (b := ws.length) (by omega)
  have lE : evP .len [.lst (SS ws)] = some (.int (ws.length : Int)) := by rw [ev_len_lst, SS, List.length_map]
  obtain ⟨L, hL⟩ : ∃ L, L = List.range' st (ws.length - st) := ⟨_, rfl⟩
  have mem : ∀ j ∈ L, j < ws.length := fun j m => by
    rw [hL, List.mem_range'_1] at m
    omega
  have nm := fun j => is_name_g n (by omega) (at' ws j) (hl.at j)
  have ix := fun j (m : j ∈ L) => at_lst (mem j m)
  rw [← hL] at er ⊢
  generalize SS ws = W at *
  simp [D, lcnt, R.of_some, R.of_none, Wk.chk, evSs, evS, evE, evEs, evAnd, evOr, tst, Mi.Tm.args, Mi.Tm.arg, Mi.Tm.dn, mkTm, Pr.fresh, maskE, Cn.pv, Mi.Tm.pars, Mi.Tm.par, ioSlots, lendT, callT, ioFree, afterCall, Mi.Tm.lent, giveBack, evMu, Mu.recv, Pr.recv, PV.tag, canSet, Sl.free, List.range_succ, Mi.Tm.walk, seqOf, bindS, bindT, Tg.is, wipeE, backE, unlock, Wk.ios, Mi.Tm.pureOk, ioPure, parT, evH, evHs, b_check_names, check_names_s1, lE, er, -ev_len_lst]
  generalize hF : forL _ _ _ _ = F
  let ρs : Nat → Evn := fun i => [.v (.int line), .v (.lst W), .v (.int st), if i = 0 then .u else .v (.int ((L.getD (i - 1) 0 : Nat) : Int))]
  rcases forL_find' (badN ws) ρs hF (fun _ _ => by simp [D, lcnt, R.of_some, R.of_none, Wk.chk, evSs, evS, evE, evEs, evAnd, evOr, tst, Mi.Tm.args, Mi.Tm.arg, Mi.Tm.dn, mkTm, Pr.fresh, maskE, Cn.pv, Mi.Tm.pars, Mi.Tm.par, ioSlots, lendT, callT, ioFree, afterCall, Mi.Tm.lent, giveBack, evMu, Mu.recv, Pr.recv, PV.tag, canSet, Sl.free, List.range_succ, Mi.Tm.walk, seqOf, bindS, bindT, Tg.is, wipeE, backE, unlock, Wk.ios, Mi.Tm.pureOk, ioPure, parT, evH, evHs, ]) (fun i hi hb => by
    have hx : L.getD i 0 = L[i] := by simp [List.getD_eq_getElem?_getD, hi]
    have ix := ix _ (List.getElem_mem hi)
    have nm := nm L[i]
    have fr := lastFr (fun i => PV.int ((L.getD i 0 : Nat) : Int)) i
    have hb : isN (at' ws L[i]) = true := by simpa [badN] using hb
    rw [hb] at nm
    simp only [ρs, Nat.add_sub_cancel, hx]
    generalize (if i = 0 then Sl.u else .v (.int ((L.getD (i - 1) 0 : Nat) : Int))) = sl at *
    generalize at' ws L[i] = w at *
    rcases fr with rfl | ⟨_, rfl⟩ <;> simp [D, lcnt, R.of_some, R.of_none, Wk.chk, evSs, evS, evE, evEs, evAnd, evOr, tst, Mi.Tm.args, Mi.Tm.arg, Mi.Tm.dn, mkTm, Pr.fresh, maskE, Cn.pv, Mi.Tm.pars, Mi.Tm.par, ioSlots, lendT, callT, ioFree, afterCall, Mi.Tm.lent, giveBack, evMu, Mu.recv, Pr.recv, PV.tag, canSet, Sl.free, List.range_succ, Mi.Tm.walk, seqOf, bindS, bindT, Tg.is, wipeE, backE, unlock, Wk.ios, Mi.Tm.pureOk, ioPure, parT, evH, evHs, ix, nm]) (fun i hi hb => by
    have ix := ix _ (List.getElem_mem hi)
    have nm := nm L[i]
    have fr := lastFr (fun i => PV.int ((L.getD i 0 : Nat) : Int)) i
    have hb : isN (at' ws L[i]) = false := by simpa [badN] using hb
    rw [hb] at nm
    simp only [ρs]
    generalize (if i = 0 then Sl.u else .v (.int ((L.getD (i - 1) 0 : Nat) : Int))) = sl at *
    generalize at' ws L[i] = w at *
    rcases fr with rfl | ⟨_, rfl⟩ <;> simp [D, lcnt, R.of_some, R.of_none, Wk.chk, evSs, evS, evE, evEs, evAnd, evOr, tst, Mi.Tm.args, Mi.Tm.arg, Mi.Tm.dn, mkTm, Pr.fresh, maskE, Cn.pv, Mi.Tm.pars, Mi.Tm.par, ioSlots, lendT, callT, ioFree, afterCall, Mi.Tm.lent, giveBack, evMu, Mu.recv, Pr.recv, PV.tag, canSet, Sl.free, List.range_succ, Mi.Tm.walk, seqOf, bindS, bindT, Tg.is, wipeE, backE, unlock, Wk.ios, Mi.Tm.pureOk, ioPure, parT, evH, evHs, ix, nm, Stop]) with ⟨hf, e⟩ | ⟨j, i, hi, hf, hx, hb, e⟩
  · rw [hf, e]
    simp [D, lcnt, R.of_some, R.of_none, Wk.chk, evSs, evS, evE, evEs, evAnd, evOr, tst, Mi.Tm.args, Mi.Tm.arg, Mi.Tm.dn, mkTm, Pr.fresh, maskE, Cn.pv, Mi.Tm.pars, Mi.Tm.par, ioSlots, lendT, callT, ioFree, afterCall, Mi.Tm.lent, giveBack, evMu, Mu.recv, Pr.recv, PV.tag, canSet, Sl.free, List.range_succ, Mi.Tm.walk, seqOf, bindS, bindT, Tg.is, wipeE, backE, unlock, Wk.ios, Mi.Tm.pureOk, ioPure, parT, evH, evHs, ρs]
  · rw [hf, e]
    have ix := ix _ (List.getElem_mem hi)
    have nm := nm L[i]
    have fr := lastFr (fun i => PV.int ((L.getD i 0 : Nat) : Int)) i
    have hb : isN (at' ws L[i]) = false := by rw [hx]; simpa [badN] using hb
    rw [hb] at nm
    rw [hx] at nm ix
    simp only [ρs]
    generalize (if i = 0 then Sl.u else .v (.int ((L.getD (i - 1) 0 : Nat) : Int))) = sl at *
    generalize at' ws j = w at *
    rcases fr with rfl | ⟨_, rfl⟩ <;> simp [D, lcnt, R.of_some, R.of_none, Wk.chk, evSs, evS, evE, evEs, evAnd, evOr, tst, Mi.Tm.args, Mi.Tm.arg, Mi.Tm.dn, mkTm, Pr.fresh, maskE, Cn.pv, Mi.Tm.pars, Mi.Tm.par, ioSlots, lendT, callT, ioFree, afterCall, Mi.Tm.lent, giveBack, evMu, Mu.recv, Pr.recv, PV.tag, canSet, Sl.free, List.range_succ, Mi.Tm.walk, seqOf, bindS, bindT, Tg.is, wipeE, backE, unlock, Wk.ios, Mi.Tm.pureOk, ioPure, parT, evH, evHs, ix, nm, BT]
end Lw

set_option Elab.async false
set_option linter.all false
set_option maxRecDepth 100000
set_option maxHeartbeats 400000
set_option pp.maxSteps 1500
namespace Lw
open PySem Mi
/-! ### the head -/
def headR (ws : List Str) : Option Nat := if at' ws 0 = "columns" then (List.range' 1 (ws.length - 1)).find? (badN ws) else some 0
theorem at0_lst {ws : List Str} (h : ws ≠ []) : evP .ix [.lst (SS ws), .int 0] = some (.str (at' ws 0)) := at_lst (List.length_pos_iff.mpr h)
theorem head_g (n : Nat) (hn : 3 ≤ n) (line : Int) (ws : List Str) (hw : ws ≠ []) (hl : Sz ws) :
    evF D n .head_names [.v (.int line), .o 0 (.lst (SS ws)), .v (.str "columns")] = (match headR ws with
      | none => .ret (.v (ST (ws.drop 1))) [.u, .u, .u]
      | some j => .ex "BadText" (BT line j) [.u, .u, .u]) := by
  obtain ⟨n, rfl⟩ : ∃ m, n = m + 1 := ⟨n - 1, by omega⟩
  refine evF_s rfl ?_
  have e := check_g n (by omega) line ws 1 hl (by omega)
  have e : evF D n .check_names [.v (.int line), .v (.lst (SS ws)), .v (.int 1)] = _ := e
  have ix := at0_lst hw
  have sd : evP (.slc true false) [.lst (SS ws), .int 1] = some (.lst (SS (ws.drop 1))) := by rw [ev_slcL_lst1]; simp [SS, List.map_drop]
  unfold headR
  generalize (List.range' 1 (ws.length - 1)).find? (badN ws) = r at *
  have pS := pures_SS ws
  generalize at' ws 0 = w at *
  simp only [Mi.ST]
  generalize SS (ws.drop 1) = W1 at *
  generalize SS ws = W at *
  by_cases h : w = "columns"
  · cases r with
    | none => simp [D, lcnt, R.of_some, R.of_none, Wk.chk, evSs, evS, evE, evEs, evAnd, evOr, tst, Mi.Tm.args, Mi.Tm.arg, Mi.Tm.dn, mkTm, Pr.fresh, maskE, Cn.pv, Mi.Tm.pars, Mi.Tm.par, ioSlots, lendT, callT, ioFree, afterCall, Mi.Tm.lent, giveBack, evMu, Mu.recv, Pr.recv, PV.tag, canSet, Sl.free, List.range_succ, Mi.Tm.walk, seqOf, bindS, bindT, Tg.is, wipeE, backE, unlock, Wk.ios, Mi.Tm.pureOk, ioPure, parT, evH, evHs, b_head_names, ix, h, e, sd, PV.pure, pS, -ev_slcL_lst1]
    | some j => simp [D, lcnt, R.of_some, R.of_none, Wk.chk, evSs, evS, evE, evEs, evAnd, evOr, tst, Mi.Tm.args, Mi.Tm.arg, Mi.Tm.dn, mkTm, Pr.fresh, maskE, Cn.pv, Mi.Tm.pars, Mi.Tm.par, ioSlots, lendT, callT, ioFree, afterCall, Mi.Tm.lent, giveBack, evMu, Mu.recv, Pr.recv, PV.tag, canSet, Sl.free, List.range_succ, Mi.Tm.walk, seqOf, bindS, bindT, Tg.is, wipeE, backE, unlock, Wk.ios, Mi.Tm.pureOk, ioPure, parT, evH, evHs, b_head_names, ix, h, e, PV.pure, pS, BT]
  · simp [D, lcnt, R.of_some, R.of_none, Wk.chk, evSs, evS, evE, evEs, evAnd, evOr, tst, Mi.Tm.args, Mi.Tm.arg, Mi.Tm.dn, mkTm, Pr.fresh, maskE, Cn.pv, Mi.Tm.pars, Mi.Tm.par, ioSlots, lendT, callT, ioFree, afterCall, Mi.Tm.lent, giveBack, evMu, Mu.recv, Pr.recv, PV.tag, canSet, Sl.free, List.range_succ, Mi.Tm.walk, seqOf, bindS, bindT, Tg.is, wipeE, backE, unlock, Wk.ios, Mi.Tm.pureOk, ioPure, parT, evH, evHs, b_head_names, ix, h, BT]
/-! ### parts -/
def stp (a : List (List Str) × List Str) (w : Str) : List (List Str) × List Str := if w = "/" then (a.1 ++ [a.2], []) else (a.1, a.2 ++ [w])
def prs (a : List (List Str) × List Str) : List (List Str) := a.1 ++ [a.2]
abbrev SP (a : List (List Str) × List Str) : List PV := (prs a).map Mi.ST
theorem stp_len : ∀ (ws : List Str) (a : List (List Str) × List Str), (ws.foldl stp a).1.length ≤ a.1.length + ws.length ∧ (ws.foldl stp a).2.length ≤ a.2.length + ws.length
  | [], a => ⟨Nat.le_refl _, Nat.le_refl _⟩
  | w :: ws, a => by
    have := stp_len ws (stp a w)
    rw [List.foldl_cons, List.length_cons]
    have e : (stp a w).1.length ≤ a.1.length + 1 ∧ (stp a w).2.length ≤ a.2.length + 1 := by
      unfold stp
      split <;> simp
    omega
def badJ (ws : List Str) (j : Nat) : Bool := decide (at' ws j ≠ "/") && !isN (at' ws j)
def JL (ws : List Str) : List Nat := List.range' 1 (ws.length - 1)
def jR (ws : List Str) : Option Nat := (JL ws).find? (badJ ws)
def jP (ws : List Str) : List (List Str) := prs ((ws.drop 1).foldl stp ([], []))
theorem jl_map (ws : List Str) : (JL ws).map (at' ws) = ws.drop 1 := by
  apply List.ext_getElem
  · simp [JL]
  · intro i h1 h2
    simp only [List.length_map, JL, List.length_range'] at h1
    have : 1 + i < ws.length := by omega
    simp only [JL, at', List.getD_eq_getElem?_getD, List.getElem_map, List.getElem_range', Nat.one_mul, List.getElem?_eq_getElem this, Option.getD_some, List.getElem_drop]
theorem jl_mem {ws : List Str} {j : Nat} (m : j ∈ JL ws) : j < ws.length := by
  unfold JL at m
  rw [List.mem_range'_1] at m
  omega
theorem jl_len (ws : List Str) : (JL ws).length = ws.length - 1 := by simp [JL]
theorem SP_put (a : List (List Str) × List Str) (w : Str) (y : PV) : putI 0 (.lst (SP a)) (.v (.int (-1))) (.v y) = some (.lst (a.1.map Mi.ST ++ [y])) := by
  simp only [SP, prs, List.map_append, List.map_cons, List.map_nil]
  exact putI_last _ _ _
theorem SP_last (a : List (List Str) × List Str) : evP .ix [.lst (SP a), .int (-1)] = some (Mi.ST a.2) := by
  simp only [SP, prs, List.map_append, List.map_cons, List.map_nil]
  exact ev_ix_last _ _
theorem stp_sl {a : List (List Str) × List Str} : SP (stp a "/") = SP a ++ [.tup []] := by simp [SP, prs, stp, SS]
theorem stp_w {a : List (List Str) × List Str} {w : Str} (h : w ≠ "/") : SP (stp a w) = a.1.map Mi.ST ++ [Mi.ST (a.2 ++ [w])] := by simp [SP, prs, stp, h]
section
variable (n : Nat) (hn : 1 ≤ n) (ws : List Str) (hl : Sz ws)
def accJ (ws : List Str) (i : Nat) : List (List Str) × List Str := ((JL ws).take i).foldl (fun a j => stp a (at' ws j)) ([], [])
theorem accJ_succ {ws : List Str} {i : Nat} (hi : i < (JL ws).length) : accJ ws (i + 1) = stp (accJ ws i) (at' ws (JL ws)[i]) := by
  unfold accJ
  rw [List.take_succ_eq_append_getElem hi, List.foldl_append]; rfl
theorem accJ_end (ws : List Str) : prs (accJ ws (JL ws).length) = jP ws := by
  unfold accJ jP
  rw [List.take_length, ← jl_map ws, List.foldl_map]
theorem accJ_len (ws : List Str) (i : Nat) : (accJ ws i).1.length ≤ ws.length ∧ (accJ ws i).2.length ≤ ws.length := by
  have := stp_len (((JL ws).take i).map (at' ws)) ([], [])
  rw [List.foldl_map] at this
  simp only [List.length_map, List.length_take, jl_len, List.length_nil] at this
  unfold accJ
  omega
include hn hl
theorem read_parts_g (line : Int) : evF D (n + 1) .read_parts [.v (.int line), .v (.lst (SS ws))] = (match jR ws with
      | none => .ret (.v (.tup ((jP ws).map Mi.ST))) [.u, .u]
      | some j => .ex "BadText" (BT line j) [.u, .u]) := by
  refine evF_s rfl ?_
  have l1 := hl.len
  have er := rng (a := 1) (by omega) (b := ws.length) (by omega)
  have er : evP .range2 [.int 1, .int (ws.length : Int)] = some (.lst ((JL ws).map fun (j : Nat) => PV.int (j : Int))) := er
  have lE : evP .len [.lst (SS ws)] = some (.int (ws.length : Int)) := by rw [ev_len_lst, SS, List.length_map]
  have nm := fun j => is_name_g n (by omega) (at' ws j) (hl.at j)
  have ix := fun j (m : j ∈ JL ws) => at_lst (jl_mem m)
  have fin := accJ_end ws
  unfold jR
  obtain ⟨L, hL⟩ : ∃ L, L = JL ws := ⟨_, rfl⟩
  have sc := fun i (hi : i < L.length) => @accJ_succ ws i (hL ▸ hi)
  have scE : ∀ i (hi : i < L.length), accJ ws (i + 1) = stp (accJ ws i) (at' ws L[i]) := fun i hi => by
    have := sc i hi
    subst hL
    exact this
  have al := accJ_len ws
  rw [← hL] at er ix fin ⊢
  have a0 : SP (accJ ws 0) = [.tup []] := by simp [accJ, prs, SS]
  generalize SS ws = W at *
  simp [D, lcnt, R.of_some, R.of_none, Wk.chk, evSs, evS, evE, evEs, evAnd, evOr, tst, Mi.Tm.args, Mi.Tm.arg, Mi.Tm.dn, mkTm, Pr.fresh, maskE, Cn.pv, Mi.Tm.pars, Mi.Tm.par, ioSlots, lendT, callT, ioFree, afterCall, Mi.Tm.lent, giveBack, evMu, Mu.recv, Pr.recv, PV.tag, canSet, Sl.free, List.range_succ, Mi.Tm.walk, seqOf, bindS, bindT, Tg.is, wipeE, backE, unlock, Wk.ios, Mi.Tm.pureOk, ioPure, parT, evH, evHs, b_read_parts, read_parts_s1, lE, er, -ev_len_lst]
  generalize hF : forL _ _ _ _ = F
  let ρs : Nat → Evn := fun i => [.v (.int line), .v (.lst W), .o 0 (.lst (SP (accJ ws i))), if i = 0 then .u else .v (.int ((L.getD (i - 1) 0 : Nat) : Int))]
  have h0 : ρs 0 = [.v (.int line), .v (.lst W), .o 0 (.lst [.tup []]), .u] := by simp only [ρs, a0, if_true]
  rw [← h0] at hF
  rcases forL_find' (badJ ws) ρs hF (fun _ _ => by simp [D, lcnt, R.of_some, R.of_none, Wk.chk, evSs, evS, evE, evEs, evAnd, evOr, tst, Mi.Tm.args, Mi.Tm.arg, Mi.Tm.dn, mkTm, Pr.fresh, maskE, Cn.pv, Mi.Tm.pars, Mi.Tm.par, ioSlots, lendT, callT, ioFree, afterCall, Mi.Tm.lent, giveBack, evMu, Mu.recv, Pr.recv, PV.tag, canSet, Sl.free, List.range_succ, Mi.Tm.walk, seqOf, bindS, bindT, Tg.is, wipeE, backE, unlock, Wk.ios, Mi.Tm.pureOk, ioPure, parT, evH, evHs, ]) (fun i hi hb => by
    have hx : L.getD i 0 = L[i] := by simp [List.getD_eq_getElem?_getD, hi]
    have ix := ix _ (List.getElem_mem hi)
    have nm := nm L[i]
    have fr := lastFr (fun i => PV.int ((L.getD i 0 : Nat) : Int)) i
    have al := al i
    have sLast := SP_last (accJ ws i)
    have sp := SP_put (accJ ws i) ""
    have c1 : (SP (accJ ws i)).length < lim := by have := lim_big; simp [prs]; omega
    simp only [ρs, Nat.add_sub_cancel, hx, scE i hi]
    unfold badJ at hb
    generalize (if i = 0 then Sl.u else .v (.int ((L.getD (i - 1) 0 : Nat) : Int))) = sl at *
    generalize at' ws L[i] = w at *
    by_cases hw : w = "/"
    · subst hw
      rw [stp_sl]
      generalize SP (accJ ws i) = A at *
      rcases fr with rfl | ⟨_, rfl⟩ <;> simp [D, lcnt, R.of_some, R.of_none, Wk.chk, evSs, evS, evE, evEs, evAnd, evOr, tst, Mi.Tm.args, Mi.Tm.arg, Mi.Tm.dn, mkTm, Pr.fresh, maskE, Cn.pv, Mi.Tm.pars, Mi.Tm.par, ioSlots, lendT, callT, ioFree, afterCall, Mi.Tm.lent, giveBack, evMu, Mu.recv, Pr.recv, PV.tag, canSet, Sl.free, List.range_succ, Mi.Tm.walk, seqOf, bindS, bindT, Tg.is, wipeE, backE, unlock, Wk.ios, Mi.Tm.pureOk, ioPure, parT, evH, evHs, ix, c1]
    · have hb : isN w = true := by simpa [hw] using hb
      rw [hb] at nm
      obtain ⟨X1, h1⟩ : ∃ T, T = SS ((accJ ws i).2 ++ [w]) := ⟨_, rfl⟩
      obtain ⟨X2, h2⟩ : ∃ T, T = SS (accJ ws i).2 := ⟨_, rfl⟩
      have c2 : evP .add [.tup X2, .tup [.str w]] = some (.tup X1) := by
        rw [h1, h2, ev_add_tup (le_lim' (by simp; omega))]
        simp [SS]
      have sp := sp (.tup X1)
      have sLs : evP .ix [.lst (SP (accJ ws i)), .int (-1)] = some (.tup X2) := by rw [h2]; exact sLast
      have hA : SP (stp (accJ ws i) w) = (accJ ws i).1.map Mi.ST ++ [.tup X1] := by rw [stp_w hw, h1]
      rw [hA]
      generalize (accJ ws i).1.map Mi.ST ++ [.tup X1] = A1 at *
      generalize SP (accJ ws i) = A at *
      rcases fr with rfl | ⟨_, rfl⟩ <;> simp [D, lcnt, R.of_some, R.of_none, Wk.chk, evSs, evS, evE, evEs, evAnd, evOr, tst, Mi.Tm.args, Mi.Tm.arg, Mi.Tm.dn, mkTm, Pr.fresh, maskE, Cn.pv, Mi.Tm.pars, Mi.Tm.par, ioSlots, lendT, callT, ioFree, afterCall, Mi.Tm.lent, giveBack, evMu, Mu.recv, Pr.recv, PV.tag, canSet, Sl.free, List.range_succ, Mi.Tm.walk, seqOf, bindS, bindT, Tg.is, wipeE, backE, unlock, Wk.ios, Mi.Tm.pureOk, ioPure, parT, evH, evHs, ix, hw, nm, sLs, c2, sp]) (fun i hi hb => by
    have ix := ix _ (List.getElem_mem hi)
    have nm := nm L[i]
    have fr := lastFr (fun i => PV.int ((L.getD i 0 : Nat) : Int)) i
    unfold badJ at hb
    simp only [ρs]
    generalize (if i = 0 then Sl.u else .v (.int ((L.getD (i - 1) 0 : Nat) : Int))) = sl at *
    generalize at' ws L[i] = w at *
    simp only [Bool.and_eq_true, decide_eq_true_eq, Bool.not_eq_true'] at hb
    obtain ⟨hw, hb⟩ := hb
    rw [hb] at nm
    rcases fr with rfl | ⟨_, rfl⟩ <;> simp [D, lcnt, R.of_some, R.of_none, Wk.chk, evSs, evS, evE, evEs, evAnd, evOr, tst, Mi.Tm.args, Mi.Tm.arg, Mi.Tm.dn, mkTm, Pr.fresh, maskE, Cn.pv, Mi.Tm.pars, Mi.Tm.par, ioSlots, lendT, callT, ioFree, afterCall, Mi.Tm.lent, giveBack, evMu, Mu.recv, Pr.recv, PV.tag, canSet, Sl.free, List.range_succ, Mi.Tm.walk, seqOf, bindS, bindT, Tg.is, wipeE, backE, unlock, Wk.ios, Mi.Tm.pureOk, ioPure, parT, evH, evHs, ix, hw, nm, Stop]) with ⟨hf, e⟩ | ⟨j, i, hi, hf, hx, hb, e⟩
  · rw [hf, e]
    simp only [ρs, SP, fin]
    generalize (jP ws).map Mi.ST = A
    generalize (if L.length = 0 then Sl.u else .v (.int ((L.getD (L.length - 1) 0 : Nat) : Int))) = sl
    simp [D, lcnt, R.of_some, R.of_none, Wk.chk, evSs, evS, evE, evEs, evAnd, evOr, tst, Mi.Tm.args, Mi.Tm.arg, Mi.Tm.dn, mkTm, Pr.fresh, maskE, Cn.pv, Mi.Tm.pars, Mi.Tm.par, ioSlots, lendT, callT, ioFree, afterCall, Mi.Tm.lent, giveBack, evMu, Mu.recv, Pr.recv, PV.tag, canSet, Sl.free, List.range_succ, Mi.Tm.walk, seqOf, bindS, bindT, Tg.is, wipeE, backE, unlock, Wk.ios, Mi.Tm.pureOk, ioPure, parT, evH, evHs, ]
  · rw [hf, e]
    have ix := ix _ (List.getElem_mem hi)
    have nm := nm L[i]
    have fr := lastFr (fun i => PV.int ((L.getD i 0 : Nat) : Int)) i
    unfold badJ at hb
    rw [hx] at nm ix
    simp only [ρs]
    generalize (if i = 0 then Sl.u else .v (.int ((L.getD (i - 1) 0 : Nat) : Int))) = sl at *
    generalize at' ws j = w at *
    simp only [Bool.and_eq_true, decide_eq_true_eq, Bool.not_eq_true'] at hb
    obtain ⟨hw, hb⟩ := hb
    rw [hb] at nm
    rcases fr with rfl | ⟨_, rfl⟩ <;> simp [D, lcnt, R.of_some, R.of_none, Wk.chk, evSs, evS, evE, evEs, evAnd, evOr, tst, Mi.Tm.args, Mi.Tm.arg, Mi.Tm.dn, mkTm, Pr.fresh, maskE, Cn.pv, Mi.Tm.pars, Mi.Tm.par, ioSlots, lendT, callT, ioFree, afterCall, Mi.Tm.lent, giveBack, evMu, Mu.recv, Pr.recv, PV.tag, canSet, Sl.free, List.range_succ, Mi.Tm.walk, seqOf, bindS, bindT, Tg.is, wipeE, backE, unlock, Wk.ios, Mi.Tm.pureOk, ioPure, parT, evH, evHs, ix, hw, nm, BT]
end
end Lw

set_option Elab.async false
set_option linter.all false
set_option maxRecDepth 100000
set_option maxHeartbeats 400000
set_option pp.maxSteps 1500
namespace Lw
open PySem Mi
/-! ### a line -/
def KS : List Str := ["tells", "many"]
def rr (ws : List Str) : Rl ⊕ Nat :=
  if at' ws 0 = "join" then (match jR ws with
    | none => .inl (.jn (jP ws))
    | some j => .inr j)
  else match (List.range ws.length).find? (badN ws) with
    | none => .inr ws.length
    | some i => if at' ws i ∈ KS then (match (List.range' (i + 1) (ws.length - (i + 1))).find? (badN ws) with
        | none => .inl (.tm (decide (at' ws i = "many")) (ws.take i) (ws.drop (i + 1)))
        | some j => .inr j)
      else .inr i
theorem find_range {n : Nat} {p : Nat → Bool} {i : Nat} (h : (List.range n).find? p = some i) : i < n ∧ p i = true ∧ ∀ j, j < i → p j = false := by
  obtain ⟨h1, a, b, e, h2⟩ := List.find?_eq_some_iff_append.mp h
  have hi : i < n := List.mem_range.mp (List.mem_of_find?_eq_some h)
  have ha : a.length = i := by
    have hl : a.length < (List.range n).length := by rw [e]; simp
    have : (List.range n)[a.length] = i := by simp [e]
    rw [List.getElem_range] at this
    exact this
  refine ⟨hi, h1, fun j hj => ?_⟩
  have : (List.range n)[j]'(by simp; omega) = a[j]'(by omega) := by simp [e, List.getElem_append, ha, hj]
  rw [List.getElem_range] at this
  have q := h2 (a[j]'(by omega)) (List.getElem_mem _)
  rw [← this] at q
  simpa using q
theorem kind_of {w : Str} (h : w ∈ KS) : kindS (decide (w = "many")) = w := by
  simp only [KS, List.mem_cons, List.not_mem_nil, or_false] at h
  rcases h with rfl | rfl <;> decide +kernel
theorem rrw_g (n : Nat) (hn : 3 ≤ n) (line : Int) (ws : List Str) (hw : ws ≠ []) (hl : Sz ws) :
    evF D n .read_rule_words [.v (.int line), .o 0 (.lst (SS ws))] = (match rr ws with
      | .inl r => .ret (.v r.pv) [.u, .u]
      | .inr j => .ex "BadText" (BT line j) [.u, .u]) := by
  obtain ⟨n, rfl⟩ : ∃ m, n = m + 2 := ⟨n - 2, by omega⟩
  refine evF_s rfl ?_
  have ix0 := at0_lst hw
  have pS := pures_SS ws
  have l1 := hl.len
  unfold rr
  by_cases h0 : at' ws 0 = "join"
  · have e := read_parts_g n (by omega) ws hl line
    rw [if_pos h0]
    rw [h0] at ix0
    have pj := pures_STs (jP ws)
    cases hj : jR ws with
    | none =>
      rw [hj] at e
      simp only [Rl.pv]
      generalize (jP ws).map Mi.ST = A at *
      generalize SS ws = W at *
      simp [D, lcnt, R.of_some, R.of_none, Wk.chk, evSs, evS, evE, evEs, evAnd, evOr, tst, Mi.Tm.args, Mi.Tm.arg, Mi.Tm.dn, mkTm, Pr.fresh, maskE, Cn.pv, Mi.Tm.pars, Mi.Tm.par, ioSlots, lendT, callT, ioFree, afterCall, Mi.Tm.lent, giveBack, evMu, Mu.recv, Pr.recv, PV.tag, canSet, Sl.free, List.range_succ, Mi.Tm.walk, seqOf, bindS, bindT, Tg.is, wipeE, backE, unlock, Wk.ios, Mi.Tm.pureOk, ioPure, parT, evH, evHs, b_read_rule_words, ix0, e, PV.pure, pS, pj, Rl.pv]
    | some j =>
      rw [hj] at e
      generalize SS ws = W at *
      simp [D, lcnt, R.of_some, R.of_none, Wk.chk, evSs, evS, evE, evEs, evAnd, evOr, tst, Mi.Tm.args, Mi.Tm.arg, Mi.Tm.dn, mkTm, Pr.fresh, maskE, Cn.pv, Mi.Tm.pars, Mi.Tm.par, ioSlots, lendT, callT, ioFree, afterCall, Mi.Tm.lent, giveBack, evMu, Mu.recv, Pr.recv, PV.tag, canSet, Sl.free, List.range_succ, Mi.Tm.walk, seqOf, bindS, bindT, Tg.is, wipeE, backE, unlock, Wk.ios, Mi.Tm.pureOk, ioPure, parT, evH, evHs, b_read_rule_words, ix0, e, PV.pure, pS, BT]
  · rw [if_neg h0]
    have lE : evP .len [.lst (SS ws)] = some (.int (ws.length : Int)) := by rw [ev_len_lst, SS, List.length_map]
    have nm := fun j => is_name_g (n + 1) (by omega) (at' ws j) (hl.at j)
    have ix := fun j (m : j < ws.length) => at_lst m
    have wh : ∀ k : Nat, k ≤ ws.length → (∀ j, j < k → isN (at' ws j) = true) → (k = ws.length ∨ isN (at' ws k) = false) → evS (evF D (n + 1)) [] read_rule_words_s1 [.v (.int line), .o 0 (.lst (SS ws)), .v (.int 0)] = .ok .nx [.v (.int line), .o 0 (.lst (SS ws)), .v (.int (k : Int))] := by
      intro k hk h1 h2
      generalize SS ws = W at *
      simp [D, lcnt, R.of_some, R.of_none, Wk.chk, evSs, evS, evE, evEs, evAnd, evOr, tst, Mi.Tm.args, Mi.Tm.arg, Mi.Tm.dn, mkTm, Pr.fresh, maskE, Cn.pv, Mi.Tm.pars, Mi.Tm.par, ioSlots, lendT, callT, ioFree, afterCall, Mi.Tm.lent, giveBack, evMu, Mu.recv, Pr.recv, PV.tag, canSet, Sl.free, List.range_succ, Mi.Tm.walk, seqOf, bindS, bindT, Tg.is, wipeE, backE, unlock, Wk.ios, Mi.Tm.pureOk, ioPure, parT, evH, evHs, read_rule_words_s1]
      generalize hF : whL _ _ _ _ = F
      let ρs : Nat → Evn := fun i => [.v (.int line), .o 0 (.lst W), .v (.int (i : Int))]
      have hF2 : F = .ok .nx (ρs k) := by
        rw [← hF]
        refine whL_count ρs k (fun i hi => ?_) ?_ lim (by have := lim_big; omega)
        · have q1 : (i : Int) < (ws.length : Int) := by omega
          have e := ix i (by omega)
          have e2 := nm i
          rw [h1 i hi] at e2
          generalize at' ws i = w at *
          constructor
          · simp [D, lcnt, R.of_some, R.of_none, Wk.chk, evSs, evS, evE, evEs, evAnd, evOr, tst, Mi.Tm.args, Mi.Tm.arg, Mi.Tm.dn, mkTm, Pr.fresh, maskE, Cn.pv, Mi.Tm.pars, Mi.Tm.par, ioSlots, lendT, callT, ioFree, afterCall, Mi.Tm.lent, giveBack, evMu, Mu.recv, Pr.recv, PV.tag, canSet, Sl.free, List.range_succ, Mi.Tm.walk, seqOf, bindS, bindT, Tg.is, wipeE, backE, unlock, Wk.ios, Mi.Tm.pureOk, ioPure, parT, evH, evHs, ρs, lE, q1, e, e2, -ev_len_lst]
          · simp [D, lcnt, R.of_some, R.of_none, Wk.chk, evSs, evS, evE, evEs, evAnd, evOr, tst, Mi.Tm.args, Mi.Tm.arg, Mi.Tm.dn, mkTm, Pr.fresh, maskE, Cn.pv, Mi.Tm.pars, Mi.Tm.par, ioSlots, lendT, callT, ioFree, afterCall, Mi.Tm.lent, giveBack, evMu, Mu.recv, Pr.recv, PV.tag, canSet, Sl.free, List.range_succ, Mi.Tm.walk, seqOf, bindS, bindT, Tg.is, wipeE, backE, unlock, Wk.ios, Mi.Tm.pureOk, ioPure, parT, evH, evHs, ρs]
        · rcases h2 with h2 | h2
          · have q1 : ¬ (k : Int) < (ws.length : Int) := by omega
            simp [D, lcnt, R.of_some, R.of_none, Wk.chk, evSs, evS, evE, evEs, evAnd, evOr, tst, Mi.Tm.args, Mi.Tm.arg, Mi.Tm.dn, mkTm, Pr.fresh, maskE, Cn.pv, Mi.Tm.pars, Mi.Tm.par, ioSlots, lendT, callT, ioFree, afterCall, Mi.Tm.lent, giveBack, evMu, Mu.recv, Pr.recv, PV.tag, canSet, Sl.free, List.range_succ, Mi.Tm.walk, seqOf, bindS, bindT, Tg.is, wipeE, backE, unlock, Wk.ios, Mi.Tm.pureOk, ioPure, parT, evH, evHs, ρs, lE, q1, -ev_len_lst]
          · by_cases h3 : k < ws.length
            · have q1 : (k : Int) < (ws.length : Int) := by omega
              have e := ix k h3
              have e2 := nm k
              rw [h2] at e2
              generalize at' ws k = w at *
              simp [D, lcnt, R.of_some, R.of_none, Wk.chk, evSs, evS, evE, evEs, evAnd, evOr, tst, Mi.Tm.args, Mi.Tm.arg, Mi.Tm.dn, mkTm, Pr.fresh, maskE, Cn.pv, Mi.Tm.pars, Mi.Tm.par, ioSlots, lendT, callT, ioFree, afterCall, Mi.Tm.lent, giveBack, evMu, Mu.recv, Pr.recv, PV.tag, canSet, Sl.free, List.range_succ, Mi.Tm.walk, seqOf, bindS, bindT, Tg.is, wipeE, backE, unlock, Wk.ios, Mi.Tm.pureOk, ioPure, parT, evH, evHs, ρs, lE, q1, e, e2, -ev_len_lst]
            · have q1 : ¬ (k : Int) < (ws.length : Int) := by omega
              simp [D, lcnt, R.of_some, R.of_none, Wk.chk, evSs, evS, evE, evEs, evAnd, evOr, tst, Mi.Tm.args, Mi.Tm.arg, Mi.Tm.dn, mkTm, Pr.fresh, maskE, Cn.pv, Mi.Tm.pars, Mi.Tm.par, ioSlots, lendT, callT, ioFree, afterCall, Mi.Tm.lent, giveBack, evMu, Mu.recv, Pr.recv, PV.tag, canSet, Sl.free, List.range_succ, Mi.Tm.walk, seqOf, bindS, bindT, Tg.is, wipeE, backE, unlock, Wk.ios, Mi.Tm.pureOk, ioPure, parT, evH, evHs, ρs, lE, q1, -ev_len_lst]
      subst hF2
      simp [D, lcnt, R.of_some, R.of_none, Wk.chk, evSs, evS, evE, evEs, evAnd, evOr, tst, Mi.Tm.args, Mi.Tm.arg, Mi.Tm.dn, mkTm, Pr.fresh, maskE, Cn.pv, Mi.Tm.pars, Mi.Tm.par, ioSlots, lendT, callT, ioFree, afterCall, Mi.Tm.lent, giveBack, evMu, Mu.recv, Pr.recv, PV.tag, canSet, Sl.free, List.range_succ, Mi.Tm.walk, seqOf, bindS, bindT, Tg.is, wipeE, backE, unlock, Wk.ios, Mi.Tm.pureOk, ioPure, parT, evH, evHs, ρs]
    cases hf : (List.range ws.length).find? (badN ws) with
    | none =>
      have w := wh ws.length (Nat.le_refl _) (fun j hj => by
        have := List.find?_eq_none.mp hf j (List.mem_range.mpr hj)
        simpa [badN] using this) (.inl rfl)
      generalize SS ws = W at *
      generalize at' ws 0 = w0 at *
      simp [D, lcnt, R.of_some, R.of_none, Wk.chk, evSs, evS, evE, evEs, evAnd, evOr, tst, Mi.Tm.args, Mi.Tm.arg, Mi.Tm.dn, mkTm, Pr.fresh, maskE, Cn.pv, Mi.Tm.pars, Mi.Tm.par, ioSlots, lendT, callT, ioFree, afterCall, Mi.Tm.lent, giveBack, evMu, Mu.recv, Pr.recv, PV.tag, canSet, Sl.free, List.range_succ, Mi.Tm.walk, seqOf, bindS, bindT, Tg.is, wipeE, backE, unlock, Wk.ios, Mi.Tm.pureOk, ioPure, parT, evH, evHs, b_read_rule_words, ix0, h0, w, lE, BT, -ev_len_lst]
    | some i =>
      obtain ⟨hi, hb, hlt⟩ := find_range hf
      have hb : isN (at' ws i) = false := by simpa [badN] using hb
      have w := wh i (by omega) (fun j hj => by simpa [badN] using hlt j hj) (.inr hb)
      have q1 : ¬ ((i : Int) = (ws.length : Int)) := by omega
      have e := ix i hi
      have nk : evP .notIn [.str (at' ws i), .tup [.str "tells", .str "many"]] = some (.bl (!decide (at' ws i ∈ KS))) := ev_notIn_str (at' ws i) KS
      simp only
      by_cases hk : at' ws i ∈ KS
      · simp only [hk, decide_true, Bool.not_true] at nk
        rw [if_pos hk]
        have ck := check_g (n + 1) (by omega) line ws (i + 1) hl (by omega)
        have ci : ((i + 1 : Nat) : Int) = (i : Int) + 1 := by omega
        rw [ci] at ck
        have s1 : evP (.slc false true) [.lst (SS ws), .int (i : Int)] = some (.lst (SS (ws.take i))) := by rw [ev_slcH_lst]; simp [SS, List.map_take]
        have s2 : evP (.slc true false) [.lst (SS ws), .int ((i : Int) + 1)] = some (.lst (SS (ws.drop (i + 1)))) := by rw [← ci, ev_slcL_lst]; simp [SS, List.map_drop]
        cases hj : (List.range' (i + 1) (ws.length - (i + 1))).find? (badN ws) with
        | none =>
          rw [hj] at ck
          simp only [Rl.pv, kind_of hk, Mi.ST]
          generalize SS (ws.take i) = W1 at *
          generalize SS (ws.drop (i + 1)) = W2 at *
          generalize SS ws = W at *
          generalize at' ws i = wi at *
          generalize at' ws 0 = w0 at *
          simp [D, lcnt, R.of_some, R.of_none, Wk.chk, evSs, evS, evE, evEs, evAnd, evOr, tst, Mi.Tm.args, Mi.Tm.arg, Mi.Tm.dn, mkTm, Pr.fresh, maskE, Cn.pv, Mi.Tm.pars, Mi.Tm.par, ioSlots, lendT, callT, ioFree, afterCall, Mi.Tm.lent, giveBack, evMu, Mu.recv, Pr.recv, PV.tag, canSet, Sl.free, List.range_succ, Mi.Tm.walk, seqOf, bindS, bindT, Tg.is, wipeE, backE, unlock, Wk.ios, Mi.Tm.pureOk, ioPure, parT, evH, evHs, b_read_rule_words, ix0, h0, w, lE, q1, e, nk, ck, s1, s2, PV.pure, pS, -ev_len_lst]
        | some j =>
          rw [hj] at ck
          generalize SS ws = W at *
          generalize at' ws i = wi at *
          generalize at' ws 0 = w0 at *
          simp [D, lcnt, R.of_some, R.of_none, Wk.chk, evSs, evS, evE, evEs, evAnd, evOr, tst, Mi.Tm.args, Mi.Tm.arg, Mi.Tm.dn, mkTm, Pr.fresh, maskE, Cn.pv, Mi.Tm.pars, Mi.Tm.par, ioSlots, lendT, callT, ioFree, afterCall, Mi.Tm.lent, giveBack, evMu, Mu.recv, Pr.recv, PV.tag, canSet, Sl.free, List.range_succ, Mi.Tm.walk, seqOf, bindS, bindT, Tg.is, wipeE, backE, unlock, Wk.ios, Mi.Tm.pureOk, ioPure, parT, evH, evHs, b_read_rule_words, ix0, h0, w, lE, q1, e, nk, ck, PV.pure, pS, BT, -ev_len_lst]
      · simp only [hk, decide_false, Bool.not_false] at nk
        rw [if_neg hk]
        generalize SS ws = W at *
        generalize at' ws i = wi at *
        generalize at' ws 0 = w0 at *
        simp [D, lcnt, R.of_some, R.of_none, Wk.chk, evSs, evS, evE, evEs, evAnd, evOr, tst, Mi.Tm.args, Mi.Tm.arg, Mi.Tm.dn, mkTm, Pr.fresh, maskE, Cn.pv, Mi.Tm.pars, Mi.Tm.par, ioSlots, lendT, callT, ioFree, afterCall, Mi.Tm.lent, giveBack, evMu, Mu.recv, Pr.recv, PV.tag, canSet, Sl.free, List.range_succ, Mi.Tm.walk, seqOf, bindS, bindT, Tg.is, wipeE, backE, unlock, Wk.ios, Mi.Tm.pureOk, ioPure, parT, evH, evHs, b_read_rule_words, ix0, h0, w, lE, q1, e, nk, BT, -ev_len_lst]
end Lw

set_option Elab.async false
set_option linter.all false
set_option maxRecDepth 100000
set_option maxHeartbeats 400000
set_option pp.maxSteps 300
namespace Lw
open PySem Mi
/-! ### the law's own line -/
theorem filter_range {n : Nat} {p : Nat → Bool} {i : Nat} {rest : List Nat} (h : (List.range n).filter p = i :: rest) : (List.range n).find? p = some i ∧ i < n ∧ rest = (List.range' (i + 1) (n - (i + 1))).filter p := by
  obtain ⟨a, b, e, h1, h2, h3⟩ := List.filter_eq_cons_iff.mp h
  have hi : i < n := List.mem_range.mp (by rw [e]; simp)
  have ha : a.length = i := by
    have hl : a.length < (List.range n).length := by rw [e]; simp
    have : (List.range n)[a.length] = i := by simp [e]
    rw [List.getElem_range] at this
    exact this
  refine ⟨?_, hi, ?_⟩
  · rw [List.find?_eq_some_iff_append]
    exact ⟨h2, a, b, e, fun x m => by simpa using h1 x m⟩
  · rw [← h3]
    congr 1
    have d : (List.range n).drop (i + 1) = b := by rw [e, ← ha]; simp
    rw [← d]
    apply List.ext_getElem
    · simp
    · intro k k1 k2
      simp
theorem law_parts_s (n : Nat) (hn : 1 ≤ n) (ws : List Str) (hl : Sz ws) : (jR ws = none ∧ ∃ s, evS (evF D n) [] _law_read_rule_s1 [.v (.lst (SS ws)), .o 0 (.lst [.tup []]), .u, .u] = .ok .nx [.v (.lst (SS ws)), .o 0 (.lst ((jP ws).map Mi.ST)), s, .u]) ∨ (∃ (j : Nat) (ρ : Evn), jR ws = some j ∧ evS (evF D n) [] _law_read_rule_s1 [.v (.lst (SS ws)), .o 0 (.lst [.tup []]), .u, .u] = .ok (.rt (.v (.int (j : Int)))) ρ) := by
  have l1 := hl.len
  have er := rng (a := 1) (by omega) (b := ws.length) (by omega)
  have er : evP .range2 [.int 1, .int (ws.length : Int)] = some (.lst ((JL ws).map fun (j : Nat) => PV.int (j : Int))) := er
  have lE : evP .len [.lst (SS ws)] = some (.int (ws.length : Int)) := by rw [ev_len_lst, SS, List.length_map]
  have nm := fun j => law_name_g n (by omega) (at' ws j) (hl.at j)
  have ix := fun j (m : j ∈ JL ws) => at_lst (jl_mem m)
  have fin := accJ_end ws
  unfold jR
  obtain ⟨L, hL⟩ : ∃ L, L = JL ws := ⟨_, rfl⟩
  have sc := fun i (hi : i < L.length) => @accJ_succ ws i (hL ▸ hi)
  have scE : ∀ i (hi : i < L.length), accJ ws (i + 1) = stp (accJ ws i) (at' ws L[i]) := fun i hi => by
    have := sc i hi
    subst hL
    exact this
  have al := accJ_len ws
  rw [← hL] at er ix fin ⊢
  have a0 : SP (accJ ws 0) = [.tup []] := by simp [accJ, prs, SS]
  generalize SS ws = W at *
  generalize hR : evS (evF D n) [] _law_read_rule_s1 [.v (.lst W), .o 0 (.lst [.tup []]), .u, .u] = R0
  simp [D, lcnt, R.of_some, R.of_none, Wk.chk, evSs, evS, evE, evEs, evAnd, evOr, tst, Mi.Tm.args, Mi.Tm.arg, Mi.Tm.dn, mkTm, Pr.fresh, maskE, Cn.pv, Mi.Tm.pars, Mi.Tm.par, ioSlots, lendT, callT, ioFree, afterCall, Mi.Tm.lent, giveBack, evMu, Mu.recv, Pr.recv, PV.tag, canSet, Sl.free, List.range_succ, Mi.Tm.walk, seqOf, bindS, bindT, Tg.is, wipeE, backE, unlock, Wk.ios, Mi.Tm.pureOk, ioPure, parT, evH, evHs, _law_read_rule_s1, lE, er, -ev_len_lst] at hR
  generalize hF : forL _ _ _ _ = F at hR
  let ρs : Nat → Evn := fun i => [.v (.lst W), .o 0 (.lst (SP (accJ ws i))), if i = 0 then .u else .v (.int ((L.getD (i - 1) 0 : Nat) : Int)), .u]
  have h0 : ρs 0 = [.v (.lst W), .o 0 (.lst [.tup []]), .u, .u] := by simp only [ρs, a0, if_true]
  rw [← h0] at hF
  rcases forL_find' (badJ ws) ρs hF (fun _ _ => by simp [D, lcnt, R.of_some, R.of_none, Wk.chk, evSs, evS, evE, evEs, evAnd, evOr, tst, Mi.Tm.args, Mi.Tm.arg, Mi.Tm.dn, mkTm, Pr.fresh, maskE, Cn.pv, Mi.Tm.pars, Mi.Tm.par, ioSlots, lendT, callT, ioFree, afterCall, Mi.Tm.lent, giveBack, evMu, Mu.recv, Pr.recv, PV.tag, canSet, Sl.free, List.range_succ, Mi.Tm.walk, seqOf, bindS, bindT, Tg.is, wipeE, backE, unlock, Wk.ios, Mi.Tm.pureOk, ioPure, parT, evH, evHs, ]) (fun i hi hb => by
    have hx : L.getD i 0 = L[i] := by simp [List.getD_eq_getElem?_getD, hi]
    have ix := ix _ (List.getElem_mem hi)
    have nm := nm L[i]
    have fr := lastFr (fun i => PV.int ((L.getD i 0 : Nat) : Int)) i
    have al := al i
    have sLast := SP_last (accJ ws i)
    have sp := SP_put (accJ ws i) ""
    have c1 : (SP (accJ ws i)).length < lim := by have := lim_big; simp [prs]; omega
    simp only [ρs, Nat.add_sub_cancel, hx, scE i hi]
    unfold badJ at hb
    generalize (if i = 0 then Sl.u else .v (.int ((L.getD (i - 1) 0 : Nat) : Int))) = sl at *
    generalize at' ws L[i] = w at *
    by_cases hw : w = "/"
    · subst hw
      rw [stp_sl]
      generalize SP (accJ ws i) = A at *
      rcases fr with rfl | ⟨_, rfl⟩ <;> simp [D, lcnt, R.of_some, R.of_none, Wk.chk, evSs, evS, evE, evEs, evAnd, evOr, tst, Mi.Tm.args, Mi.Tm.arg, Mi.Tm.dn, mkTm, Pr.fresh, maskE, Cn.pv, Mi.Tm.pars, Mi.Tm.par, ioSlots, lendT, callT, ioFree, afterCall, Mi.Tm.lent, giveBack, evMu, Mu.recv, Pr.recv, PV.tag, canSet, Sl.free, List.range_succ, Mi.Tm.walk, seqOf, bindS, bindT, Tg.is, wipeE, backE, unlock, Wk.ios, Mi.Tm.pureOk, ioPure, parT, evH, evHs, ix, c1]
    · have hb : isN w = true := by simpa [hw] using hb
      rw [hb] at nm
      obtain ⟨X1, h1⟩ : ∃ T, T = SS ((accJ ws i).2 ++ [w]) := ⟨_, rfl⟩
      obtain ⟨X2, h2⟩ : ∃ T, T = SS (accJ ws i).2 := ⟨_, rfl⟩
      have c2 : evP .add [.tup X2, .tup [.str w]] = some (.tup X1) := by
        rw [h1, h2, ev_add_tup (le_lim' (by simp; omega))]
        simp [SS]
      have sp := sp (.tup X1)
      have sLs : evP .ix [.lst (SP (accJ ws i)), .int (-1)] = some (.tup X2) := by rw [h2]; exact sLast
      have hA : SP (stp (accJ ws i) w) = (accJ ws i).1.map Mi.ST ++ [.tup X1] := by rw [stp_w hw, h1]
      rw [hA]
      generalize (accJ ws i).1.map Mi.ST ++ [.tup X1] = A1 at *
      generalize SP (accJ ws i) = A at *
      rcases fr with rfl | ⟨_, rfl⟩ <;> simp [D, lcnt, R.of_some, R.of_none, Wk.chk, evSs, evS, evE, evEs, evAnd, evOr, tst, Mi.Tm.args, Mi.Tm.arg, Mi.Tm.dn, mkTm, Pr.fresh, maskE, Cn.pv, Mi.Tm.pars, Mi.Tm.par, ioSlots, lendT, callT, ioFree, afterCall, Mi.Tm.lent, giveBack, evMu, Mu.recv, Pr.recv, PV.tag, canSet, Sl.free, List.range_succ, Mi.Tm.walk, seqOf, bindS, bindT, Tg.is, wipeE, backE, unlock, Wk.ios, Mi.Tm.pureOk, ioPure, parT, evH, evHs, ix, hw, nm, sLs, c2, sp]) (fun i hi hb => by
    have ix := ix _ (List.getElem_mem hi)
    have nm := nm L[i]
    have fr := lastFr (fun i => PV.int ((L.getD i 0 : Nat) : Int)) i
    unfold badJ at hb
    simp only [ρs]
    generalize (if i = 0 then Sl.u else .v (.int ((L.getD (i - 1) 0 : Nat) : Int))) = sl at *
    generalize at' ws L[i] = w at *
    simp only [Bool.and_eq_true, decide_eq_true_eq, Bool.not_eq_true'] at hb
    obtain ⟨hw, hb⟩ := hb
    rw [hb] at nm
    rcases fr with rfl | ⟨_, rfl⟩ <;> simp [D, lcnt, R.of_some, R.of_none, Wk.chk, evSs, evS, evE, evEs, evAnd, evOr, tst, Mi.Tm.args, Mi.Tm.arg, Mi.Tm.dn, mkTm, Pr.fresh, maskE, Cn.pv, Mi.Tm.pars, Mi.Tm.par, ioSlots, lendT, callT, ioFree, afterCall, Mi.Tm.lent, giveBack, evMu, Mu.recv, Pr.recv, PV.tag, canSet, Sl.free, List.range_succ, Mi.Tm.walk, seqOf, bindS, bindT, Tg.is, wipeE, backE, unlock, Wk.ios, Mi.Tm.pureOk, ioPure, parT, evH, evHs, ix, hw, nm, Stop]) with ⟨hf, e⟩ | ⟨j, i, hi, hf, hx, hb, e⟩
  · left
    refine ⟨hf, if L.length = 0 then Sl.u else .v (.int ((L.getD (L.length - 1) 0 : Nat) : Int)), ?_⟩
    rw [e] at hR
    simp only [ρs, SP, fin] at hR
    generalize (jP ws).map Mi.ST = A at *
    generalize (if L.length = 0 then Sl.u else .v (.int ((L.getD (L.length - 1) 0 : Nat) : Int))) = sl at *
    exact hR.symm
  · right
    rw [e] at hR
    have ix := ix _ (List.getElem_mem hi)
    have nm := nm L[i]
    have fr := lastFr (fun i => PV.int ((L.getD i 0 : Nat) : Int)) i
    unfold badJ at hb
    rw [hx] at nm ix
    simp only [ρs] at hR
    generalize SP (accJ ws i) = A at *
    generalize (if i = 0 then Sl.u else .v (.int ((L.getD (i - 1) 0 : Nat) : Int))) = sl at *
    generalize at' ws j = w at *
    simp only [Bool.and_eq_true, decide_eq_true_eq, Bool.not_eq_true'] at hb
    obtain ⟨hw, hb⟩ := hb
    rw [hb] at nm
    refine ⟨j, [.v (.lst W), .o 0 (.lst A), .v (.int (j : Int)), .u], hf, ?_⟩
    rcases fr with rfl | ⟨_, rfl⟩ <;> (simp [D, lcnt, R.of_some, R.of_none, Wk.chk, evSs, evS, evE, evEs, evAnd, evOr, tst, Mi.Tm.args, Mi.Tm.arg, Mi.Tm.dn, mkTm, Pr.fresh, maskE, Cn.pv, Mi.Tm.pars, Mi.Tm.par, ioSlots, lendT, callT, ioFree, afterCall, Mi.Tm.lent, giveBack, evMu, Mu.recv, Pr.recv, PV.tag, canSet, Sl.free, List.range_succ, Mi.Tm.walk, seqOf, bindS, bindT, Tg.is, wipeE, backE, unlock, Wk.ios, Mi.Tm.pureOk, ioPure, parT, evH, evHs, ix, hw, nm] at hR; exact hR.symm)
end Lw

set_option Elab.async false
set_option linter.all false
set_option maxRecDepth 100000
set_option maxHeartbeats 400000
set_option pp.maxSteps 800
namespace Lw
open PySem Mi
def rrV (ws : List Str) : PV := match rr ws with
  | .inl r => r.pv
  | .inr j => .int (j : Int)
theorem signs_c (n : Nat) (hn : 1 ≤ n) (ws : List Str) (hl : Sz ws) (s1 s3 : Sl) : evE (evF D n) _law_read_rule_c1 [.v (.lst (SS ws)), s1, .u, s3] = .ok (.o 0 (.lst (((List.range ws.length).filter (badN ws)).map fun (j : Nat) => PV.int (j : Int)))) [.v (.lst (SS ws)), s1, .u, s3] := by
  have l1 := hl.len
  have er := range_from0 (n := ws.length) (by omega)
  have lE : evP .len [.lst (SS ws)] = some (.int (ws.length : Int)) := by rw [ev_len_lst, SS, List.length_map]
  have nm := fun j => law_name_g n (by omega) (at' ws j) (hl.at j)
  have ix := fun j (m : j < ws.length) => at_lst m
  generalize SS ws = W at *
  generalize hR : (List.range ws.length).filter (badN ws) = R0
  simp [D, lcnt, R.of_some, R.of_none, Wk.chk, evSs, evS, evE, evEs, evAnd, evOr, tst, Mi.Tm.args, Mi.Tm.arg, Mi.Tm.dn, mkTm, Pr.fresh, maskE, Cn.pv, Mi.Tm.pars, Mi.Tm.par, ioSlots, lendT, callT, ioFree, afterCall, Mi.Tm.lent, giveBack, evMu, Mu.recv, Pr.recv, PV.tag, canSet, Sl.free, List.range_succ, Mi.Tm.walk, seqOf, bindS, bindT, Tg.is, wipeE, backE, unlock, Wk.ios, Mi.Tm.pureOk, ioPure, parT, evH, evHs, _law_read_rule_c1, lE, er, -ev_len_lst]
  rw [lcL_filtL (badN ws) (fun (j : Nat) => PV.int (j : Int)) (le_lim' (by simp; omega)) (by simp [D, lcnt, R.of_some, R.of_none, Wk.chk, evSs, evS, evE, evEs, evAnd, evOr, tst, Mi.Tm.args, Mi.Tm.arg, Mi.Tm.dn, mkTm, Pr.fresh, maskE, Cn.pv, Mi.Tm.pars, Mi.Tm.par, ioSlots, lendT, callT, ioFree, afterCall, Mi.Tm.lent, giveBack, evMu, Mu.recv, Pr.recv, PV.tag, canSet, Sl.free, List.range_succ, Mi.Tm.walk, seqOf, bindS, bindT, Tg.is, wipeE, backE, unlock, Wk.ios, Mi.Tm.pureOk, ioPure, parT, evH, evHs, ]) (fun j m => by
    have ix := ix j (List.mem_range.mp m)
    have nm := nm j
    unfold badN
    generalize at' ws j = w at *
    cases hb : isN w <;> (rw [hb] at nm; simp [D, lcnt, R.of_some, R.of_none, Wk.chk, evSs, evS, evE, evEs, evAnd, evOr, tst, Mi.Tm.args, Mi.Tm.arg, Mi.Tm.dn, mkTm, Pr.fresh, maskE, Cn.pv, Mi.Tm.pars, Mi.Tm.par, ioSlots, lendT, callT, ioFree, afterCall, Mi.Tm.lent, giveBack, evMu, Mu.recv, Pr.recv, PV.tag, canSet, Sl.free, List.range_succ, Mi.Tm.walk, seqOf, bindS, bindT, Tg.is, wipeE, backE, unlock, Wk.ios, Mi.Tm.pureOk, ioPure, parT, evH, evHs, ix, nm]))]
  rw [hR]
  simp [D, lcnt, R.of_some, R.of_none, Wk.chk, evSs, evS, evE, evEs, evAnd, evOr, tst, Mi.Tm.args, Mi.Tm.arg, Mi.Tm.dn, mkTm, Pr.fresh, maskE, Cn.pv, Mi.Tm.pars, Mi.Tm.par, ioSlots, lendT, callT, ioFree, afterCall, Mi.Tm.lent, giveBack, evMu, Mu.recv, Pr.recv, PV.tag, canSet, Sl.free, List.range_succ, Mi.Tm.walk, seqOf, bindS, bindT, Tg.is, wipeE, backE, unlock, Wk.ios, Mi.Tm.pureOk, ioPure, parT, evH, evHs, ]
theorem law_rule_g (n : Nat) (hn : 2 ≤ n) (ws : List Str) (hw : ws ≠ []) (hl : Sz ws) :
    evF D n ._law_read_rule [.v (.lst (SS ws))] = .ret (.v (rrV ws)) [.u] := by
  obtain ⟨n, rfl⟩ : ∃ m, n = m + 1 := ⟨n - 1, by omega⟩
  refine evF_s rfl ?_
  have ix0 := at0_lst hw
  have l1 := hl.len
  unfold rrV rr
  by_cases h0 : at' ws 0 = "join"
  · rw [if_pos h0]
    rw [h0] at ix0
    rcases law_parts_s n (by omega) ws hl with ⟨hj, s, e⟩ | ⟨j, ρ, hj, e⟩
    · rw [hj]
      simp only [Rl.pv]
      generalize (jP ws).map Mi.ST = A at *
      generalize SS ws = W at *
      simp [D, lcnt, R.of_some, R.of_none, Wk.chk, evSs, evS, evE, evEs, evAnd, evOr, tst, Mi.Tm.args, Mi.Tm.arg, Mi.Tm.dn, mkTm, Pr.fresh, maskE, Cn.pv, Mi.Tm.pars, Mi.Tm.par, ioSlots, lendT, callT, ioFree, afterCall, Mi.Tm.lent, giveBack, evMu, Mu.recv, Pr.recv, PV.tag, canSet, Sl.free, List.range_succ, Mi.Tm.walk, seqOf, bindS, bindT, Tg.is, wipeE, backE, unlock, Wk.ios, Mi.Tm.pureOk, ioPure, parT, evH, evHs, b__law_read_rule, ix0, e]
    · rw [hj]
      generalize SS ws = W at *
      simp [D, lcnt, R.of_some, R.of_none, Wk.chk, evSs, evS, evE, evEs, evAnd, evOr, tst, Mi.Tm.args, Mi.Tm.arg, Mi.Tm.dn, mkTm, Pr.fresh, maskE, Cn.pv, Mi.Tm.pars, Mi.Tm.par, ioSlots, lendT, callT, ioFree, afterCall, Mi.Tm.lent, giveBack, evMu, Mu.recv, Pr.recv, PV.tag, canSet, Sl.free, List.range_succ, Mi.Tm.walk, seqOf, bindS, bindT, Tg.is, wipeE, backE, unlock, Wk.ios, Mi.Tm.pureOk, ioPure, parT, evH, evHs, b__law_read_rule, ix0, e]
  · rw [if_neg h0]
    have lE : evP .len [.lst (SS ws)] = some (.int (ws.length : Int)) := by rw [ev_len_lst, SS, List.length_map]
    have sg := signs_c n (by omega) ws hl .u .u
    have ix := fun j (m : j < ws.length) => at_lst m
    cases hf : (List.range ws.length).filter (badN ws) with
    | nil =>
      have hn : (List.range ws.length).find? (badN ws) = none := by
        rw [List.find?_eq_none]
        intro x m hx
        have : x ∈ (List.range ws.length).filter (badN ws) := List.mem_filter.mpr ⟨m, hx⟩
        rw [hf] at this; cases this
      rw [hf] at sg
      rw [hn]
      generalize SS ws = W at *
      generalize at' ws 0 = w0 at *
      have l0 : evP .len [.lst []] = some (.int 0) := rfl
      simp [D, lcnt, R.of_some, R.of_none, Wk.chk, evSs, evS, evE, evEs, evAnd, evOr, tst, Mi.Tm.args, Mi.Tm.arg, Mi.Tm.dn, mkTm, Pr.fresh, maskE, Cn.pv, Mi.Tm.pars, Mi.Tm.par, ioSlots, lendT, callT, ioFree, afterCall, Mi.Tm.lent, giveBack, evMu, Mu.recv, Pr.recv, PV.tag, canSet, Sl.free, List.range_succ, Mi.Tm.walk, seqOf, bindS, bindT, Tg.is, wipeE, backE, unlock, Wk.ios, Mi.Tm.pureOk, ioPure, parT, evH, evHs, b__law_read_rule, ix0, h0, sg, lE, l0, -ev_len_lst]
    | cons i rest =>
      obtain ⟨h1, hi, hr⟩ := filter_range hf
      rw [hf] at sg
      rw [h1]
      simp only
      have e := ix i hi
      have nk : evP .notIn [.str (at' ws i), .tup [.str "tells", .str "many"]] = some (.bl (!decide (at' ws i ∈ KS))) := ev_notIn_str (at' ws i) KS
      have n1 : ¬ ((rest.length : Int) + 1 = 0) := by omega
      by_cases hk : at' ws i ∈ KS
      · simp only [hk, decide_true, Bool.not_true] at nk
        rw [if_pos hk]
        cases hrest : rest with
        | nil =>
          have hn : (List.range' (i + 1) (ws.length - (i + 1))).find? (badN ws) = none := by
            rw [List.find?_eq_none]
            intro x m hx
            have : x ∈ rest := by rw [hr]; exact List.mem_filter.mpr ⟨m, hx⟩
            rw [hrest] at this; cases this
          have ci : ((i + 1 : Nat) : Int) = (i : Int) + 1 := by omega
          have s1 : evP (.slc false true) [.lst (SS ws), .int (i : Int)] = some (.lst (SS (ws.take i))) := by rw [ev_slcH_lst]; simp [SS, List.map_take]
          have s2 : evP (.slc true false) [.lst (SS ws), .int ((i : Int) + 1)] = some (.lst (SS (ws.drop (i + 1)))) := by rw [← ci, ev_slcL_lst]; simp [SS, List.map_drop]
          rw [hn]
          simp only [Rl.pv, kind_of hk, Mi.ST]
          subst hrest
          generalize SS (ws.take i) = W1 at *
          generalize SS (ws.drop (i + 1)) = W2 at *
          generalize SS ws = W at *
          generalize at' ws i = wi at *
          generalize at' ws 0 = w0 at *
          simp [D, lcnt, R.of_some, R.of_none, Wk.chk, evSs, evS, evE, evEs, evAnd, evOr, tst, Mi.Tm.args, Mi.Tm.arg, Mi.Tm.dn, mkTm, Pr.fresh, maskE, Cn.pv, Mi.Tm.pars, Mi.Tm.par, ioSlots, lendT, callT, ioFree, afterCall, Mi.Tm.lent, giveBack, evMu, Mu.recv, Pr.recv, PV.tag, canSet, Sl.free, List.range_succ, Mi.Tm.walk, seqOf, bindS, bindT, Tg.is, wipeE, backE, unlock, Wk.ios, Mi.Tm.pureOk, ioPure, parT, evH, evHs, b__law_read_rule, ix0, h0, sg, e, nk, s1, s2]
        | cons j rest2 =>
          have hn : (List.range' (i + 1) (ws.length - (i + 1))).find? (badN ws) = some j := by
            rw [← List.head?_filter, ← hr, hrest]; rfl
          rw [hn]
          subst hrest
          have n2 : (1 : Int) < (rest2.length : Int) + 1 + 1 := by omega
          have n3 : ¬ ((rest2.length : Int) + 1 + 1 = 0) := by omega
          have g1 : evP .ix [.lst (.int (i : Int) :: .int (j : Int) :: rest2.map fun (j : Nat) => PV.int (j : Int)), .int 1] = some (.int (j : Int)) := ev_ix_lst (i := 1) (by simp)
          generalize SS ws = W at *
          generalize at' ws i = wi at *
          generalize at' ws 0 = w0 at *
          simp [D, lcnt, R.of_some, R.of_none, Wk.chk, evSs, evS, evE, evEs, evAnd, evOr, tst, Mi.Tm.args, Mi.Tm.arg, Mi.Tm.dn, mkTm, Pr.fresh, maskE, Cn.pv, Mi.Tm.pars, Mi.Tm.par, ioSlots, lendT, callT, ioFree, afterCall, Mi.Tm.lent, giveBack, evMu, Mu.recv, Pr.recv, PV.tag, canSet, Sl.free, List.range_succ, Mi.Tm.walk, seqOf, bindS, bindT, Tg.is, wipeE, backE, unlock, Wk.ios, Mi.Tm.pureOk, ioPure, parT, evH, evHs, b__law_read_rule, ix0, h0, sg, e, nk, n2, n3, g1]
      · simp only [hk, decide_false, Bool.not_false] at nk
        rw [if_neg hk]
        generalize SS ws = W at *
        generalize at' ws i = wi at *
        generalize at' ws 0 = w0 at *
        simp [D, lcnt, R.of_some, R.of_none, Wk.chk, evSs, evS, evE, evEs, evAnd, evOr, tst, Mi.Tm.args, Mi.Tm.arg, Mi.Tm.dn, mkTm, Pr.fresh, maskE, Cn.pv, Mi.Tm.pars, Mi.Tm.par, ioSlots, lendT, callT, ioFree, afterCall, Mi.Tm.lent, giveBack, evMu, Mu.recv, Pr.recv, PV.tag, canSet, Sl.free, List.range_succ, Mi.Tm.walk, seqOf, bindS, bindT, Tg.is, wipeE, backE, unlock, Wk.ios, Mi.Tm.pureOk, ioPure, parT, evH, evHs, b__law_read_rule, ix0, h0, sg, e, nk, n1]
end Lw

set_option Elab.async false
set_option linter.all false
set_option maxRecDepth 100000
set_option maxHeartbeats 400000
set_option pp.maxSteps 800
namespace Lw
open PySem Mi
/-! ### a text -/
abbrev WB (cols : List Str) (rs : List Rl) : PV := .tup [Mi.ST cols, .tup (rs.map Rl.pv)]
def lns (T : Str) : List Str := Txt.split T "\n"
def wl (T : Str) (k : Nat) : List Str := Txt.split (at' (lns T) k) " "
def rrL : Rl ⊕ Nat → Rl
  | .inl r => r
  | .inr _ => .jn []
def rrR : Rl ⊕ Nat → Nat
  | .inl _ => 0
  | .inr j => j
def badL (T : Str) (k : Nat) : Bool := (rr (wl T k)).isRight
def rls (T : Str) : List Rl := (JL (lns T)).map fun k => rrL (rr (wl T k))
def rd (T : Str) : (List Str × List Rl) ⊕ (Nat × Nat) := match headR (wl T 0) with
  | some j => .inr (0, j)
  | none => match (JL (lns T)).find? (badL T) with
    | some k => .inr (k, rrR (rr (wl T k)))
    | none => .inl ((wl T 0).drop 1, rls T)
theorem empty_len : (("" : Str)).length = 0 := by decide +kernel
theorem at_le {l : List Str} {m : Nat} (h : tsz l ≤ m + 1) (k : Nat) : (at' l k).length ≤ m := by
  unfold at'
  by_cases hk : k < l.length
  · rw [List.getD_eq_getElem?_getD, List.getElem?_eq_getElem hk, Option.getD_some]
    have := tsz_mem (List.getElem_mem hk)
    omega
  · rw [List.getD_eq_getElem?_getD, List.getElem?_eq_none (by omega), Option.getD_none]
    rw [empty_len]
    omega
theorem wl_sz {T : Str} (h : T.length ≤ 800000) (k : Nat) : Sz (wl T k) := by
  have := at_le (l := lns T) (m := T.length) (by unfold lns; rw [tsz_n]; omega) k
  unfold Sz wl
  rw [tsz_b]
  omega
theorem ln_le {T : Str} (h : T.length ≤ 800000) (k : Nat) : (at' (lns T) k).length ≤ 1000000 := by
  have := at_le (l := lns T) (m := T.length) (by unfold lns; rw [tsz_n]; omega) k
  omega
theorem lns_len {T : Str} (h : T.length ≤ 800000) : (lns T).length ≤ 900000 := by
  have := tsz_len (lns T)
  unfold lns at *
  rw [tsz_n] at this
  omega
theorem rw_g (n : Nat) (hn : 4 ≤ n) (T : Str) (hT : T.length ≤ 800000) : evF D n .read_written [.v (.str T)] = (match rd T with
      | .inl q => .ret (.v (WB q.1 q.2)) [.u]
      | .inr q => .ex "BadText" (BT q.1 q.2) [.u]) := by
  obtain ⟨n, rfl⟩ : ∃ m, n = m + 1 := ⟨n - 1, by omega⟩
  refine evF_s rfl ?_
  have e0 : evP .split [.str T, .str "\n"] = some (.lst (SS (lns T))) := nl_ev (by omega)
  have l1 := lns_len hT
  have ix0 := at0_lst (ws := lns T) (split_n T)
  have e1 : evP .split [.str (at' (lns T) 0), .str " "] = some (.lst (SS (wl T 0))) := sp_ev (ln_le hT 0)
  have hd := head_g n (by omega) 0 (wl T 0) (split_b _) (wl_sz hT 0)
  have lE : evP .len [.lst (SS (lns T))] = some (.int ((lns T).length : Int)) := by rw [ev_len_lst, SS, List.length_map]
  have er := rng (a := 1) (by omega) (b := (lns T).length) (by omega)
  have er : evP .range2 [.int 1, .int ((lns T).length : Int)] = some (.lst ((JL (lns T)).map fun (j : Nat) => PV.int (j : Int))) := er
  have ix := fun j (m : j ∈ JL (lns T)) => at_lst (jl_mem m)
  have sp : ∀ k, evP .split [.str (at' (lns T) k), .str " "] = some (.lst (SS (wl T k))) := fun k => sp_ev (ln_le hT k)
  have rw' := fun (k : Nat) => rrw_g n (by omega) (k : Int) (wl T k) (split_b _) (wl_sz hT k)
  unfold rd
  cases hh : headR (wl T 0) with
  | some j =>
    rw [hh] at hd
    generalize SS (lns T) = W at *
    generalize SS (wl T 0) = W0 at *
    simp [D, lcnt, R.of_some, R.of_none, Wk.chk, evSs, evS, evE, evEs, evAnd, evOr, tst, Mi.Tm.args, Mi.Tm.arg, Mi.Tm.dn, mkTm, Pr.fresh, maskE, Cn.pv, Mi.Tm.pars, Mi.Tm.par, ioSlots, lendT, callT, ioFree, afterCall, Mi.Tm.lent, giveBack, evMu, Mu.recv, Pr.recv, PV.tag, canSet, Sl.free, List.range_succ, Mi.Tm.walk, seqOf, bindS, bindT, Tg.is, wipeE, backE, unlock, Wk.ios, Mi.Tm.pureOk, ioPure, parT, evH, evHs, b_read_written, e0, ix0, e1, hd, BT]
  | none =>
    rw [hh] at hd
    have fin : (rls T) = (JL (lns T)).map fun k => rrL (rr (wl T k)) := rfl
    obtain ⟨C0, hC⟩ : ∃ C, C = SS ((wl T 0).drop 1) := ⟨_, rfl⟩
    simp only [Mi.ST] at hd
    rw [← hC] at hd
    obtain ⟨L, hL⟩ : ∃ L, L = JL (lns T) := ⟨_, rfl⟩
    have ll : L.length ≤ 900000 := by rw [hL, jl_len]; omega
    rw [← hL] at er ix fin ⊢
    rw [fin]
    generalize hW : SS (lns T) = W at *
    generalize hW0 : SS (wl T 0) = W0 at e1 hd
    simp [D, lcnt, R.of_some, R.of_none, Wk.chk, evSs, evS, evE, evEs, evAnd, evOr, tst, Mi.Tm.args, Mi.Tm.arg, Mi.Tm.dn, mkTm, Pr.fresh, maskE, Cn.pv, Mi.Tm.pars, Mi.Tm.par, ioSlots, lendT, callT, ioFree, afterCall, Mi.Tm.lent, giveBack, evMu, Mu.recv, Pr.recv, PV.tag, canSet, Sl.free, List.range_succ, Mi.Tm.walk, seqOf, bindS, bindT, Tg.is, wipeE, backE, unlock, Wk.ios, Mi.Tm.pureOk, ioPure, parT, evH, evHs, b_read_written, read_written_s1, e0, ix0, e1, hd, lE, er, -ev_len_lst]
    generalize hF : forL _ _ _ _ = F
    let ρs : Nat → Evn := fun i => [.v (.str T), .o 0 (.lst W), .v (.tup C0), .o 0 (.lst (((L.take i).map fun k => rrL (rr (wl T k))).map Rl.pv)), if i = 0 then .u else .v (.int ((L.getD (i - 1) 0 : Nat) : Int))]
    rcases forL_find' (badL T) ρs hF (fun _ _ => by simp [D, lcnt, R.of_some, R.of_none, Wk.chk, evSs, evS, evE, evEs, evAnd, evOr, tst, Mi.Tm.args, Mi.Tm.arg, Mi.Tm.dn, mkTm, Pr.fresh, maskE, Cn.pv, Mi.Tm.pars, Mi.Tm.par, ioSlots, lendT, callT, ioFree, afterCall, Mi.Tm.lent, giveBack, evMu, Mu.recv, Pr.recv, PV.tag, canSet, Sl.free, List.range_succ, Mi.Tm.walk, seqOf, bindS, bindT, Tg.is, wipeE, backE, unlock, Wk.ios, Mi.Tm.pureOk, ioPure, parT, evH, evHs, ]) (fun i hi hb => by
      have hx : L.getD i 0 = L[i] := by simp [List.getD_eq_getElem?_getD, hi]
      have ix := ix _ (List.getElem_mem hi)
      have sp := sp L[i]
      have rw' := rw' L[i]
      have fr := lastFr (fun i => PV.int ((L.getD i 0 : Nat) : Int)) i
      have tk : (((L.take (i + 1)).map fun k => rrL (rr (wl T k))).map Rl.pv) = (((L.take i).map fun k => rrL (rr (wl T k))).map Rl.pv) ++ [(rrL (rr (wl T L[i]))).pv] := by
        rw [List.take_succ_eq_append_getElem hi, List.map_append, List.map_append]; rfl
      have c1 : ((((L.take i).map fun k => rrL (rr (wl T k))).map Rl.pv)).length < lim := by have := lim_big; simp; omega
      unfold badL at hb
      simp only [ρs, Nat.add_sub_cancel, hx, tk]
      generalize (((L.take i).map fun k => rrL (rr (wl T k))).map Rl.pv) = acc at *
      generalize (if i = 0 then Sl.u else .v (.int ((L.getD (i - 1) 0 : Nat) : Int))) = sl at *
      generalize SS (wl T L[i]) = W1 at *
      generalize at' (lns T) L[i] = w at *
      cases hr : rr (wl T L[i]) with
      | inr j => rw [hr] at hb; cases hb
      | inl r =>
        rw [hr] at rw'
        simp only [rrL]
        rcases fr with rfl | ⟨_, rfl⟩ <;> simp [D, lcnt, R.of_some, R.of_none, Wk.chk, evSs, evS, evE, evEs, evAnd, evOr, tst, Mi.Tm.args, Mi.Tm.arg, Mi.Tm.dn, mkTm, Pr.fresh, maskE, Cn.pv, Mi.Tm.pars, Mi.Tm.par, ioSlots, lendT, callT, ioFree, afterCall, Mi.Tm.lent, giveBack, evMu, Mu.recv, Pr.recv, PV.tag, canSet, Sl.free, List.range_succ, Mi.Tm.walk, seqOf, bindS, bindT, Tg.is, wipeE, backE, unlock, Wk.ios, Mi.Tm.pureOk, ioPure, parT, evH, evHs, ix, sp, rw', c1]) (fun i hi hb => by
      have ix := ix _ (List.getElem_mem hi)
      have sp := sp L[i]
      have rw' := rw' L[i]
      have fr := lastFr (fun i => PV.int ((L.getD i 0 : Nat) : Int)) i
      unfold badL at hb
      simp only [ρs]
      generalize (((L.take i).map fun k => rrL (rr (wl T k))).map Rl.pv) = acc at *
      generalize (if i = 0 then Sl.u else .v (.int ((L.getD (i - 1) 0 : Nat) : Int))) = sl at *
      generalize SS (wl T L[i]) = W1 at *
      generalize at' (lns T) L[i] = w at *
      cases hr : rr (wl T L[i]) with
      | inl r => rw [hr] at hb; cases hb
      | inr j =>
        rw [hr] at rw'
        rcases fr with rfl | ⟨_, rfl⟩ <;> simp [D, lcnt, R.of_some, R.of_none, Wk.chk, evSs, evS, evE, evEs, evAnd, evOr, tst, Mi.Tm.args, Mi.Tm.arg, Mi.Tm.dn, mkTm, Pr.fresh, maskE, Cn.pv, Mi.Tm.pars, Mi.Tm.par, ioSlots, lendT, callT, ioFree, afterCall, Mi.Tm.lent, giveBack, evMu, Mu.recv, Pr.recv, PV.tag, canSet, Sl.free, List.range_succ, Mi.Tm.walk, seqOf, bindS, bindT, Tg.is, wipeE, backE, unlock, Wk.ios, Mi.Tm.pureOk, ioPure, parT, evH, evHs, ix, sp, rw', BT, Stop]) with ⟨hf, e⟩ | ⟨k, i, hi, hf, hx, hb, e⟩
    · rw [hf, e]
      simp only [ρs, List.take_length, WB, Mi.ST]
      generalize (if L.length = 0 then Sl.u else .v (.int ((L.getD (L.length - 1) 0 : Nat) : Int))) = sl
      simp [D, lcnt, R.of_some, R.of_none, Wk.chk, evSs, evS, evE, evEs, evAnd, evOr, tst, Mi.Tm.args, Mi.Tm.arg, Mi.Tm.dn, mkTm, Pr.fresh, maskE, Cn.pv, Mi.Tm.pars, Mi.Tm.par, ioSlots, lendT, callT, ioFree, afterCall, Mi.Tm.lent, giveBack, evMu, Mu.recv, Pr.recv, PV.tag, canSet, Sl.free, List.range_succ, Mi.Tm.walk, seqOf, bindS, bindT, Tg.is, wipeE, backE, unlock, Wk.ios, Mi.Tm.pureOk, ioPure, parT, evH, evHs, hC, SS, List.map_drop]
    · rw [hf, e]
      have ix := ix _ (List.getElem_mem hi)
      have sp := sp L[i]
      have rw' := rw' L[i]
      have fr := lastFr (fun i => PV.int ((L.getD i 0 : Nat) : Int)) i
      unfold badL at hb
      rw [hx] at ix sp rw'
      simp only [ρs]
      generalize (((L.take i).map fun k => rrL (rr (wl T k))).map Rl.pv) = acc at *
      generalize (if i = 0 then Sl.u else .v (.int ((L.getD (i - 1) 0 : Nat) : Int))) = sl at *
      generalize SS (wl T k) = W1 at *
      generalize at' (lns T) k = w at *
      cases hr : rr (wl T k) with
      | inl r => rw [hr] at hb; cases hb
      | inr j =>
        rw [hr] at rw'
        simp only [rrR]
        rcases fr with rfl | ⟨_, rfl⟩ <;> simp [D, lcnt, R.of_some, R.of_none, Wk.chk, evSs, evS, evE, evEs, evAnd, evOr, tst, Mi.Tm.args, Mi.Tm.arg, Mi.Tm.dn, mkTm, Pr.fresh, maskE, Cn.pv, Mi.Tm.pars, Mi.Tm.par, ioSlots, lendT, callT, ioFree, afterCall, Mi.Tm.lent, giveBack, evMu, Mu.recv, Pr.recv, PV.tag, canSet, Sl.free, List.range_succ, Mi.Tm.walk, seqOf, bindS, bindT, Tg.is, wipeE, backE, unlock, Wk.ios, Mi.Tm.pureOk, ioPure, parT, evH, evHs, ix, sp, rw', BT]
theorem cat_rule : catches "RuleError" "BadText" = true := by decide
theorem cat_text : catches "BadText" "BadText" = true := by decide
theorem lk_line (x y : PV) : List.lookup (Str.ofString "line") [(Str.ofString "word", x), (Str.ofString "line", y)] = some y := by
  have h : ((Str.ofString "line") == (Str.ofString "word")) = false := by decide
  simp [List.lookup, h]
def toldV (T : Str) : Mi.Tm := match rd T with
  | .inl q => .v (WB q.1 q.2)
  | .inr q => .o 0 (.lst [.int (q.1 : Int), .int (q.2 : Int)])
theorem told_g (n : Nat) (hn : 5 ≤ n) (T : Str) (hT : T.length ≤ 800000) : evF D n ._law_told [.v (.str T)] = .ret (toldV T) [.u] := by
  obtain ⟨n, rfl⟩ : ∃ m, n = m + 1 := ⟨n - 1, by omega⟩
  refine evF_s rfl ?_
  have e := rw_g n (by omega) T hT
  unfold toldV
  cases h : rd T with
  | inl q =>
    rw [h] at e
    obtain ⟨a, b⟩ := q
    simp only at e ⊢
    generalize b.map Rl.pv = B at *
    simp [D, lcnt, R.of_some, R.of_none, Wk.chk, evSs, evS, evE, evEs, evAnd, evOr, tst, Mi.Tm.args, Mi.Tm.arg, Mi.Tm.dn, mkTm, Pr.fresh, maskE, Cn.pv, Mi.Tm.pars, Mi.Tm.par, ioSlots, lendT, callT, ioFree, afterCall, Mi.Tm.lent, giveBack, evMu, Mu.recv, Pr.recv, PV.tag, canSet, Sl.free, List.range_succ, Mi.Tm.walk, seqOf, bindS, bindT, Tg.is, wipeE, backE, unlock, Wk.ios, Mi.Tm.pureOk, ioPure, parT, evH, evHs, b__law_told, e]
  | inr q =>
    rw [h] at e
    obtain ⟨a, b⟩ := q
    simp [D, lcnt, R.of_some, R.of_none, Wk.chk, evSs, evS, evE, evEs, evAnd, evOr, tst, Mi.Tm.args, Mi.Tm.arg, Mi.Tm.dn, mkTm, Pr.fresh, maskE, Cn.pv, Mi.Tm.pars, Mi.Tm.par, ioSlots, lendT, callT, ioFree, afterCall, Mi.Tm.lent, giveBack, evMu, Mu.recv, Pr.recv, PV.tag, canSet, Sl.free, List.range_succ, Mi.Tm.walk, seqOf, bindS, bindT, Tg.is, wipeE, backE, unlock, Wk.ios, Mi.Tm.pureOk, ioPure, parT, evH, evHs, b__law_told, e, BT, cat_rule, cat_text, lk_line]
end Lw

set_option Elab.async false
set_option linter.all false
set_option maxRecDepth 100000
set_option maxHeartbeats 400000
set_option pp.maxSteps 200
namespace Lw
open PySem Mi
/-! ### the law's own reading -/
def LW (T : Str) : List PV := (lns T).map fun l => PV.lst (SS (Txt.split l " "))
theorem lw_at {T : Str} {k : Nat} (h : k < (lns T).length) : evP .ix [.lst (LW T), .int (k : Int)] = some (.lst (SS (wl T k))) := by
  rw [ev_ix_lst (by simpa [LW] using h)]
  simp [LW, wl, at', List.getD_eq_getElem?_getD, h]
theorem lines_c (call : Fn → List Sl → CR) (T : Str) (hT : T.length ≤ 800000) (s1 s3 s4 s5 s6 : Sl) : evE call _law_read_c1 [.v (.str T), s1, .u, s3, s4, s5, s6] = .ok (.o 0 (.lst (LW T))) [.v (.str T), s1, .u, s3, s4, s5, s6] := by
  have e0 : evP .split [.str T, .str "\n"] = some (.lst (SS (lns T))) := nl_ev (by omega)
  have l1 := lns_len hT
  have tz : tsz (lns T) = T.length + 1 := tsz_n T
  simp [D, lcnt, R.of_some, R.of_none, Wk.chk, evSs, evS, evE, evEs, evAnd, evOr, tst, Mi.Tm.args, Mi.Tm.arg, Mi.Tm.dn, mkTm, Pr.fresh, maskE, Cn.pv, Mi.Tm.pars, Mi.Tm.par, ioSlots, lendT, callT, ioFree, afterCall, Mi.Tm.lent, giveBack, evMu, Mu.recv, Pr.recv, PV.tag, canSet, Sl.free, List.range_succ, Mi.Tm.walk, seqOf, bindS, bindT, Tg.is, wipeE, backE, unlock, Wk.ios, Mi.Tm.pureOk, ioPure, parT, evH, evHs, _law_read_c1, e0]
  rw [lcL_mapL (fun l => PV.lst (SS (Txt.split l " "))) (le_lim' (by omega)) (by simp [D, lcnt, R.of_some, R.of_none, Wk.chk, evSs, evS, evE, evEs, evAnd, evOr, tst, Mi.Tm.args, Mi.Tm.arg, Mi.Tm.dn, mkTm, Pr.fresh, maskE, Cn.pv, Mi.Tm.pars, Mi.Tm.par, ioSlots, lendT, callT, ioFree, afterCall, Mi.Tm.lent, giveBack, evMu, Mu.recv, Pr.recv, PV.tag, canSet, Sl.free, List.range_succ, Mi.Tm.walk, seqOf, bindS, bindT, Tg.is, wipeE, backE, unlock, Wk.ios, Mi.Tm.pureOk, ioPure, parT, evH, evHs, ]) (fun l m => by
    have e1 := sp_ev (x := l) (by have := tsz_mem m; omega)
    generalize SS (Txt.split l " ") = W at *
    simp [D, lcnt, R.of_some, R.of_none, Wk.chk, evSs, evS, evE, evEs, evAnd, evOr, tst, Mi.Tm.args, Mi.Tm.arg, Mi.Tm.dn, mkTm, Pr.fresh, maskE, Cn.pv, Mi.Tm.pars, Mi.Tm.par, ioSlots, lendT, callT, ioFree, afterCall, Mi.Tm.lent, giveBack, evMu, Mu.recv, Pr.recv, PV.tag, canSet, Sl.free, List.range_succ, Mi.Tm.walk, seqOf, bindS, bindT, Tg.is, wipeE, backE, unlock, Wk.ios, Mi.Tm.pureOk, ioPure, parT, evH, evHs, e1])]
  simp [D, lcnt, R.of_some, R.of_none, Wk.chk, evSs, evS, evE, evEs, evAnd, evOr, tst, Mi.Tm.args, Mi.Tm.arg, Mi.Tm.dn, mkTm, Pr.fresh, maskE, Cn.pv, Mi.Tm.pars, Mi.Tm.par, ioSlots, lendT, callT, ioFree, afterCall, Mi.Tm.lent, giveBack, evMu, Mu.recv, Pr.recv, PV.tag, canSet, Sl.free, List.range_succ, Mi.Tm.walk, seqOf, bindS, bindT, Tg.is, wipeE, backE, unlock, Wk.ios, Mi.Tm.pureOk, ioPure, parT, evH, evHs, LW]
theorem ti (a : Int) : isTy .tuple (.int a) = false := rfl
section
variable (n : Nat) (hn : 3 ≤ n) (T : Str) (hT : T.length ≤ 800000)
include hn hT
theorem law_head_s : ((JL (wl T 0)).find? (badN (wl T 0)) = none ∧ ∃ s, Fr s ∧ evS (evF D n) [] _law_read_s1 [.v (.str T), .o 0 (.lst (LW T)), .u, .u, .u, .u, .u] = .ok .nx [.v (.str T), .o 0 (.lst (LW T)), .u, s, .u, .u, .u]) ∨
    ∃ (j : Nat) (ρ : Evn), (JL (wl T 0)).find? (badN (wl T 0)) = some j ∧ evS (evF D n) [] _law_read_s1 [.v (.str T), .o 0 (.lst (LW T)), .u, .u, .u, .u, .u] = .ok (.rt (.o 0 (.lst [.int 0, .int (j : Int)]))) ρ := by
  have sz := wl_sz hT 0
  have l1 := sz.len
  have g0 : evP .ix [.lst (LW T), .int 0] = some (.lst (SS (wl T 0))) := lw_at (k := 0) (List.length_pos_iff.mpr (split_n T))
  have er := rng (a := 1) (by omega) (b := (wl T 0).length) (by omega)
  have er : evP .range2 [.int 1, .int ((wl T 0).length : Int)] = some (.lst ((JL (wl T 0)).map fun (j : Nat) => PV.int (j : Int))) := er
  have lE : evP .len [.lst (SS (wl T 0))] = some (.int ((wl T 0).length : Int)) := by rw [ev_len_lst, SS, List.length_map]
  have nm := fun j => law_name_g n (by omega) (at' (wl T 0) j) (sz.at j)
  have ix := fun j (m : j ∈ JL (wl T 0)) => at_lst (jl_mem m)
  generalize LW T = V at *
  generalize wl T 0 = ws at *
  obtain ⟨L, hL⟩ : ∃ L, L = JL ws := ⟨_, rfl⟩
  rw [← hL] at er ix ⊢
  generalize SS ws = W at *
  generalize hR : evS (evF D n) [] _law_read_s1 [.v (.str T), .o 0 (.lst V), .u, .u, .u, .u, .u] = R0
  simp [D, lcnt, R.of_some, R.of_none, Wk.chk, evSs, evS, evE, evEs, evAnd, evOr, tst, Mi.Tm.args, Mi.Tm.arg, Mi.Tm.dn, mkTm, Pr.fresh, maskE, Cn.pv, Mi.Tm.pars, Mi.Tm.par, ioSlots, lendT, callT, ioFree, afterCall, Mi.Tm.lent, giveBack, evMu, Mu.recv, Pr.recv, PV.tag, canSet, Sl.free, List.range_succ, Mi.Tm.walk, seqOf, bindS, bindT, Tg.is, wipeE, backE, unlock, Wk.ios, Mi.Tm.pureOk, ioPure, parT, evH, evHs, _law_read_s1, g0, lE, er, -ev_len_lst] at hR
  generalize hF : forL _ _ _ _ = F at hR
  let ρs : Nat → Evn := fun i => [.v (.str T), .o 0 (.lst V), .u, if i = 0 then .u else .v (.int ((L.getD (i - 1) 0 : Nat) : Int)), .u, .u, .u]
  rcases forL_find' (badN ws) ρs hF (fun _ _ => by simp [D, lcnt, R.of_some, R.of_none, Wk.chk, evSs, evS, evE, evEs, evAnd, evOr, tst, Mi.Tm.args, Mi.Tm.arg, Mi.Tm.dn, mkTm, Pr.fresh, maskE, Cn.pv, Mi.Tm.pars, Mi.Tm.par, ioSlots, lendT, callT, ioFree, afterCall, Mi.Tm.lent, giveBack, evMu, Mu.recv, Pr.recv, PV.tag, canSet, Sl.free, List.range_succ, Mi.Tm.walk, seqOf, bindS, bindT, Tg.is, wipeE, backE, unlock, Wk.ios, Mi.Tm.pureOk, ioPure, parT, evH, evHs, ]) (fun i hi hb => by
    have hx : L.getD i 0 = L[i] := by simp [List.getD_eq_getElem?_getD, hi]
    have ix := ix _ (List.getElem_mem hi)
    have nm := nm L[i]
    have fr := lastFr (fun i => PV.int ((L.getD i 0 : Nat) : Int)) i
    have hb : isN (at' ws L[i]) = true := by simpa [badN] using hb
    rw [hb] at nm
    simp only [ρs, Nat.add_sub_cancel, hx]
    generalize (if i = 0 then Sl.u else .v (.int ((L.getD (i - 1) 0 : Nat) : Int))) = sl at *
    generalize at' ws L[i] = w at *
    rcases fr with rfl | ⟨_, rfl⟩ <;> simp [D, lcnt, R.of_some, R.of_none, Wk.chk, evSs, evS, evE, evEs, evAnd, evOr, tst, Mi.Tm.args, Mi.Tm.arg, Mi.Tm.dn, mkTm, Pr.fresh, maskE, Cn.pv, Mi.Tm.pars, Mi.Tm.par, ioSlots, lendT, callT, ioFree, afterCall, Mi.Tm.lent, giveBack, evMu, Mu.recv, Pr.recv, PV.tag, canSet, Sl.free, List.range_succ, Mi.Tm.walk, seqOf, bindS, bindT, Tg.is, wipeE, backE, unlock, Wk.ios, Mi.Tm.pureOk, ioPure, parT, evH, evHs, g0, ix, nm]) (fun i hi hb => by
    have ix := ix _ (List.getElem_mem hi)
    have nm := nm L[i]
    have fr := lastFr (fun i => PV.int ((L.getD i 0 : Nat) : Int)) i
    have hb : isN (at' ws L[i]) = false := by simpa [badN] using hb
    rw [hb] at nm
    simp only [ρs]
    generalize (if i = 0 then Sl.u else .v (.int ((L.getD (i - 1) 0 : Nat) : Int))) = sl at *
    generalize at' ws L[i] = w at *
    rcases fr with rfl | ⟨_, rfl⟩ <;> simp [D, lcnt, R.of_some, R.of_none, Wk.chk, evSs, evS, evE, evEs, evAnd, evOr, tst, Mi.Tm.args, Mi.Tm.arg, Mi.Tm.dn, mkTm, Pr.fresh, maskE, Cn.pv, Mi.Tm.pars, Mi.Tm.par, ioSlots, lendT, callT, ioFree, afterCall, Mi.Tm.lent, giveBack, evMu, Mu.recv, Pr.recv, PV.tag, canSet, Sl.free, List.range_succ, Mi.Tm.walk, seqOf, bindS, bindT, Tg.is, wipeE, backE, unlock, Wk.ios, Mi.Tm.pureOk, ioPure, parT, evH, evHs, g0, ix, nm, Stop]) with ⟨hf, e⟩ | ⟨j, i, hi, hf, hx, hb, e⟩
  · left
    refine ⟨hf, if L.length = 0 then Sl.u else .v (.int ((L.getD (L.length - 1) 0 : Nat) : Int)), lastFr (fun i => PV.int ((L.getD i 0 : Nat) : Int)) _, ?_⟩
    rw [e] at hR
    simp only [ρs] at hR
    exact hR.symm
  · right
    rw [e] at hR
    have ix := ix _ (List.getElem_mem hi)
    have nm := nm L[i]
    have fr := lastFr (fun i => PV.int ((L.getD i 0 : Nat) : Int)) i
    have hb : isN (at' ws L[i]) = false := by rw [hx]; simpa [badN] using hb
    rw [hb] at nm
    rw [hx] at nm ix
    simp only [ρs] at hR
    generalize (if i = 0 then Sl.u else .v (.int ((L.getD (i - 1) 0 : Nat) : Int))) = sl at *
    generalize at' ws j = w at *
    refine ⟨j, [.v (.str T), .o 0 (.lst V), .u, .v (.int (j : Int)), .u, .u, .u], hf, ?_⟩
    rcases fr with rfl | ⟨_, rfl⟩ <;> (simp [D, lcnt, R.of_some, R.of_none, Wk.chk, evSs, evS, evE, evEs, evAnd, evOr, tst, Mi.Tm.args, Mi.Tm.arg, Mi.Tm.dn, mkTm, Pr.fresh, maskE, Cn.pv, Mi.Tm.pars, Mi.Tm.par, ioSlots, lendT, callT, ioFree, afterCall, Mi.Tm.lent, giveBack, evMu, Mu.recv, Pr.recv, PV.tag, canSet, Sl.free, List.range_succ, Mi.Tm.walk, seqOf, bindS, bindT, Tg.is, wipeE, backE, unlock, Wk.ios, Mi.Tm.pureOk, ioPure, parT, evH, evHs, g0, ix, nm] at hR; exact hR.symm)
theorem law_lines_s (s3 : Sl) (h3 : Fr s3) : ((JL (lns T)).find? (badL T) = none ∧ ∃ s t, Fr s ∧ Fr t ∧ evS (evF D n) [] _law_read_s2 [.v (.str T), .o 0 (.lst (LW T)), .u, s3, .o 0 (.lst []), .u, .u] = .ok .nx [.v (.str T), .o 0 (.lst (LW T)), .u, s3, .o 0 (.lst ((rls T).map Rl.pv)), s, t]) ∨
    ∃ (k : Nat) (ρ : Evn), (JL (lns T)).find? (badL T) = some k ∧ evS (evF D n) [] _law_read_s2 [.v (.str T), .o 0 (.lst (LW T)), .u, s3, .o 0 (.lst []), .u, .u] = .ok (.rt (.o 0 (.lst [.int (k : Int), .int (rrR (rr (wl T k)) : Int)]))) ρ := by
  have l1 := lns_len hT
  have lE : evP .len [.lst (LW T)] = some (.int ((lns T).length : Int)) := by rw [ev_len_lst, LW, List.length_map]
  have er := rng (a := 1) (by omega) (b := (lns T).length) (by omega)
  have er : evP .range2 [.int 1, .int ((lns T).length : Int)] = some (.lst ((JL (lns T)).map fun (j : Nat) => PV.int (j : Int))) := er
  have ix := fun j (m : j ∈ JL (lns T)) => lw_at (T := T) (jl_mem m)
  have rw' := fun (k : Nat) => law_rule_g n (by omega) (wl T k) (split_b _) (wl_sz hT k)
  have fin : (rls T) = (JL (lns T)).map fun k => rrL (rr (wl T k)) := rfl
  obtain ⟨L, hL⟩ : ∃ L, L = JL (lns T) := ⟨_, rfl⟩
  have ll : L.length ≤ 900000 := by rw [hL, jl_len]; omega
  rw [← hL] at er ix fin ⊢
  rw [fin]
  generalize LW T = V at *
  generalize hR : evS (evF D n) [] _law_read_s2 [.v (.str T), .o 0 (.lst V), .u, s3, .o 0 (.lst []), .u, .u] = R0
  simp [D, lcnt, R.of_some, R.of_none, Wk.chk, evSs, evS, evE, evEs, evAnd, evOr, tst, Mi.Tm.args, Mi.Tm.arg, Mi.Tm.dn, mkTm, Pr.fresh, maskE, Cn.pv, Mi.Tm.pars, Mi.Tm.par, ioSlots, lendT, callT, ioFree, afterCall, Mi.Tm.lent, giveBack, evMu, Mu.recv, Pr.recv, PV.tag, canSet, Sl.free, List.range_succ, Mi.Tm.walk, seqOf, bindS, bindT, Tg.is, wipeE, backE, unlock, Wk.ios, Mi.Tm.pureOk, ioPure, parT, evH, evHs, _law_read_s2, lE, er, -ev_len_lst] at hR
  generalize hF : forL _ _ _ _ = F at hR
  let ρs : Nat → Evn := fun i => [.v (.str T), .o 0 (.lst V), .u, s3, .o 0 (.lst (((L.take i).map fun k => rrL (rr (wl T k))).map Rl.pv)), if i = 0 then .u else .v (.int ((L.getD (i - 1) 0 : Nat) : Int)), if i = 0 then .u else .v (rrV (wl T (L.getD (i - 1) 0)))]
  rcases forL_find' (badL T) ρs hF (fun _ _ => by simp [D, lcnt, R.of_some, R.of_none, Wk.chk, evSs, evS, evE, evEs, evAnd, evOr, tst, Mi.Tm.args, Mi.Tm.arg, Mi.Tm.dn, mkTm, Pr.fresh, maskE, Cn.pv, Mi.Tm.pars, Mi.Tm.par, ioSlots, lendT, callT, ioFree, afterCall, Mi.Tm.lent, giveBack, evMu, Mu.recv, Pr.recv, PV.tag, canSet, Sl.free, List.range_succ, Mi.Tm.walk, seqOf, bindS, bindT, Tg.is, wipeE, backE, unlock, Wk.ios, Mi.Tm.pureOk, ioPure, parT, evH, evHs, ]) (fun i hi hb => by
    have hx : L.getD i 0 = L[i] := by simp [List.getD_eq_getElem?_getD, hi]
    have ix := ix _ (List.getElem_mem hi)
    have rw' := rw' L[i]
    have fr := lastFr (fun i => PV.int ((L.getD i 0 : Nat) : Int)) i
    have fr2 := lastFr (fun i => rrV (wl T (L.getD i 0))) i
    have tk : (((L.take (i + 1)).map fun k => rrL (rr (wl T k))).map Rl.pv) = (((L.take i).map fun k => rrL (rr (wl T k))).map Rl.pv) ++ [(rrL (rr (wl T L[i]))).pv] := by
      rw [List.take_succ_eq_append_getElem hi, List.map_append, List.map_append]; rfl
    have c1 : ((((L.take i).map fun k => rrL (rr (wl T k))).map Rl.pv)).length < lim := by have := lim_big; simp; omega
    unfold badL at hb
    simp only [ρs, Nat.add_sub_cancel, hx, tk]
    generalize (((L.take i).map fun k => rrL (rr (wl T k))).map Rl.pv) = acc at *
    generalize (if i = 0 then Sl.u else .v (.int ((L.getD (i - 1) 0 : Nat) : Int))) = sl at *
    generalize (if i = 0 then Sl.u else .v (rrV (wl T (L.getD (i - 1) 0)))) = sl2 at *
    generalize SS (wl T L[i]) = W1 at *
    unfold rrV at rw' ⊢
    cases hr : rr (wl T L[i]) with
    | inr j => rw [hr] at hb; cases hb
    | inl r =>
      rw [hr] at rw'
      simp only [rrL] at rw' ⊢
      obtain ⟨us, hu⟩ : ∃ us, r.pv = .tup us := by cases r <;> exact ⟨_, rfl⟩
      rw [hu] at rw' ⊢
      rcases fr with rfl | ⟨_, rfl⟩ <;> rcases fr2 with rfl | ⟨_, rfl⟩ <;> simp [D, lcnt, R.of_some, R.of_none, Wk.chk, evSs, evS, evE, evEs, evAnd, evOr, tst, Mi.Tm.args, Mi.Tm.arg, Mi.Tm.dn, mkTm, Pr.fresh, maskE, Cn.pv, Mi.Tm.pars, Mi.Tm.par, ioSlots, lendT, callT, ioFree, afterCall, Mi.Tm.lent, giveBack, evMu, Mu.recv, Pr.recv, PV.tag, canSet, Sl.free, List.range_succ, Mi.Tm.walk, seqOf, bindS, bindT, Tg.is, wipeE, backE, unlock, Wk.ios, Mi.Tm.pureOk, ioPure, parT, evH, evHs, ix, rw', c1]) (fun i hi hb => by
    have ix := ix _ (List.getElem_mem hi)
    have rw' := rw' L[i]
    have fr := lastFr (fun i => PV.int ((L.getD i 0 : Nat) : Int)) i
    have fr2 := lastFr (fun i => rrV (wl T (L.getD i 0))) i
    unfold badL at hb
    simp only [ρs]
    generalize (((L.take i).map fun k => rrL (rr (wl T k))).map Rl.pv) = acc at *
    generalize (if i = 0 then Sl.u else .v (.int ((L.getD (i - 1) 0 : Nat) : Int))) = sl at *
    generalize (if i = 0 then Sl.u else .v (rrV (wl T (L.getD (i - 1) 0)))) = sl2 at *
    generalize SS (wl T L[i]) = W1 at *
    unfold rrV at rw'
    cases hr : rr (wl T L[i]) with
    | inl r => rw [hr] at hb; cases hb
    | inr j =>
      rw [hr] at rw'
      simp only at rw'
      rcases fr with rfl | ⟨_, rfl⟩ <;> rcases fr2 with rfl | ⟨_, rfl⟩ <;> simp [D, lcnt, R.of_some, R.of_none, Wk.chk, evSs, evS, evE, evEs, evAnd, evOr, tst, Mi.Tm.args, Mi.Tm.arg, Mi.Tm.dn, mkTm, Pr.fresh, maskE, Cn.pv, Mi.Tm.pars, Mi.Tm.par, ioSlots, lendT, callT, ioFree, afterCall, Mi.Tm.lent, giveBack, evMu, Mu.recv, Pr.recv, PV.tag, canSet, Sl.free, List.range_succ, Mi.Tm.walk, seqOf, bindS, bindT, Tg.is, wipeE, backE, unlock, Wk.ios, Mi.Tm.pureOk, ioPure, parT, evH, evHs, ix, rw', ti, Stop]) with ⟨hf, e⟩ | ⟨k, i, hi, hf, hx, hb, e⟩
  · left
    refine ⟨hf, if L.length = 0 then Sl.u else .v (.int ((L.getD (L.length - 1) 0 : Nat) : Int)), if L.length = 0 then Sl.u else .v (rrV (wl T (L.getD (L.length - 1) 0))), lastFr (fun i => PV.int ((L.getD i 0 : Nat) : Int)) _, lastFr (fun i => rrV (wl T (L.getD i 0))) _, ?_⟩
    rw [e] at hR
    simp only [ρs, List.take_length] at hR
    exact hR.symm
  · right
    rw [e] at hR
    have ix := ix _ (List.getElem_mem hi)
    have rw' := rw' L[i]
    have fr := lastFr (fun i => PV.int ((L.getD i 0 : Nat) : Int)) i
    have fr2 := lastFr (fun i => rrV (wl T (L.getD i 0))) i
    unfold badL at hb
    rw [hx] at ix rw'
    simp only [ρs] at hR
    generalize (((L.take i).map fun k => rrL (rr (wl T k))).map Rl.pv) = acc at *
    generalize (if i = 0 then Sl.u else .v (.int ((L.getD (i - 1) 0 : Nat) : Int))) = sl at *
    generalize (if i = 0 then Sl.u else .v (rrV (wl T (L.getD (i - 1) 0)))) = sl2 at *
    generalize SS (wl T k) = W1 at *
    unfold rrV at rw'
    cases hr : rr (wl T k) with
    | inl r => rw [hr] at hb; cases hb
    | inr j =>
      rw [hr] at rw'
      simp only at rw'
      refine ⟨k, [.v (.str T), .o 0 (.lst V), .u, s3, .o 0 (.lst acc), .v (.int (k : Int)), .v (.int (j : Int))], hf, ?_⟩
      rcases fr with rfl | ⟨_, rfl⟩ <;> rcases fr2 with rfl | ⟨_, rfl⟩ <;> (rw [hr]; simp [D, lcnt, R.of_some, R.of_none, Wk.chk, evSs, evS, evE, evEs, evAnd, evOr, tst, Mi.Tm.args, Mi.Tm.arg, Mi.Tm.dn, mkTm, Pr.fresh, maskE, Cn.pv, Mi.Tm.pars, Mi.Tm.par, ioSlots, lendT, callT, ioFree, afterCall, Mi.Tm.lent, giveBack, evMu, Mu.recv, Pr.recv, PV.tag, canSet, Sl.free, List.range_succ, Mi.Tm.walk, seqOf, bindS, bindT, Tg.is, wipeE, backE, unlock, Wk.ios, Mi.Tm.pureOk, ioPure, parT, evH, evHs, ix, rw', ti, rrR] at hR ⊢; exact hR.symm)
end
theorem law_read_g (n : Nat) (hn : 4 ≤ n) (T : Str) (hT : T.length ≤ 800000) : evF D n ._law_read [.v (.str T)] = .ret (toldV T) [.u] := by
  obtain ⟨n, rfl⟩ : ∃ m, n = m + 1 := ⟨n - 1, by omega⟩
  refine evF_s rfl ?_
  have c := lines_c (evF D n) T hT .u .u .u .u .u
  have g0 : evP .ix [.lst (LW T), .int 0] = some (.lst (SS (wl T 0))) := lw_at (k := 0) (List.length_pos_iff.mpr (split_n T))
  have ix0 := at0_lst (ws := wl T 0) (split_b _)
  have sd : evP (.slc true false) [.lst (SS (wl T 0)), .int 1] = some (.lst (SS ((wl T 0).drop 1))) := by rw [ev_slcL_lst1]; simp [SS, List.map_drop]
  unfold toldV rd headR
  have jl : List.range' 1 ((wl T 0).length - 1) = JL (wl T 0) := rfl
  rw [jl]
  by_cases h0 : at' (wl T 0) 0 = "columns"
  · rw [if_pos h0]
    rw [h0] at ix0
    rcases law_head_s n (by omega) T hT with ⟨hf, s3, h3, e⟩ | ⟨j, ρ, hf, e⟩
    · rw [hf]
      rcases law_lines_s n (by omega) T hT s3 h3 with ⟨hf2, s, t, f1, f2, e2⟩ | ⟨k, ρ, hf2, e2⟩
      · rw [hf2]
        simp only [WB, Mi.ST]
        generalize SS ((wl T 0).drop 1) = C0 at *
        generalize SS (wl T 0) = W0 at *
        generalize (rls T).map Rl.pv = A at *
        generalize LW T = V at *
        simp [D, lcnt, R.of_some, R.of_none, Wk.chk, evSs, evS, evE, evEs, evAnd, evOr, tst, Mi.Tm.args, Mi.Tm.arg, Mi.Tm.dn, mkTm, Pr.fresh, maskE, Cn.pv, Mi.Tm.pars, Mi.Tm.par, ioSlots, lendT, callT, ioFree, afterCall, Mi.Tm.lent, giveBack, evMu, Mu.recv, Pr.recv, PV.tag, canSet, Sl.free, List.range_succ, Mi.Tm.walk, seqOf, bindS, bindT, Tg.is, wipeE, backE, unlock, Wk.ios, Mi.Tm.pureOk, ioPure, parT, evH, evHs, b__law_read, c, g0, ix0, e, e2, sd, -ev_slcL_lst1]
      · rw [hf2]
        simp only
        generalize rrR (rr (wl T k)) = r at *
        generalize SS (wl T 0) = W0 at *
        generalize LW T = V at *
        simp [D, lcnt, R.of_some, R.of_none, Wk.chk, evSs, evS, evE, evEs, evAnd, evOr, tst, Mi.Tm.args, Mi.Tm.arg, Mi.Tm.dn, mkTm, Pr.fresh, maskE, Cn.pv, Mi.Tm.pars, Mi.Tm.par, ioSlots, lendT, callT, ioFree, afterCall, Mi.Tm.lent, giveBack, evMu, Mu.recv, Pr.recv, PV.tag, canSet, Sl.free, List.range_succ, Mi.Tm.walk, seqOf, bindS, bindT, Tg.is, wipeE, backE, unlock, Wk.ios, Mi.Tm.pureOk, ioPure, parT, evH, evHs, b__law_read, c, g0, ix0, e, e2]
    · rw [hf]
      generalize SS (wl T 0) = W0 at *
      generalize LW T = V at *
      simp [D, lcnt, R.of_some, R.of_none, Wk.chk, evSs, evS, evE, evEs, evAnd, evOr, tst, Mi.Tm.args, Mi.Tm.arg, Mi.Tm.dn, mkTm, Pr.fresh, maskE, Cn.pv, Mi.Tm.pars, Mi.Tm.par, ioSlots, lendT, callT, ioFree, afterCall, Mi.Tm.lent, giveBack, evMu, Mu.recv, Pr.recv, PV.tag, canSet, Sl.free, List.range_succ, Mi.Tm.walk, seqOf, bindS, bindT, Tg.is, wipeE, backE, unlock, Wk.ios, Mi.Tm.pureOk, ioPure, parT, evH, evHs, b__law_read, c, g0, ix0, e]
  · rw [if_neg h0]
    generalize SS (wl T 0) = W0 at *
    generalize LW T = V at *
    generalize at' (wl T 0) 0 = w at *
    simp [D, lcnt, R.of_some, R.of_none, Wk.chk, evSs, evS, evE, evEs, evAnd, evOr, tst, Mi.Tm.args, Mi.Tm.arg, Mi.Tm.dn, mkTm, Pr.fresh, maskE, Cn.pv, Mi.Tm.pars, Mi.Tm.par, ioSlots, lendT, callT, ioFree, afterCall, Mi.Tm.lent, giveBack, evMu, Mu.recv, Pr.recv, PV.tag, canSet, Sl.free, List.range_succ, Mi.Tm.walk, seqOf, bindS, bindT, Tg.is, wipeE, backE, unlock, Wk.ios, Mi.Tm.pureOk, ioPure, parT, evH, evHs, b__law_read, c, g0, ix0, h0]
end Lw

set_option Elab.async false
set_option linter.all false
set_option maxRecDepth 100000
set_option maxHeartbeats 400000
set_option pp.maxSteps 800
namespace Lw
open PySem Mi
/-! ### what is read leads back to its text -/
def jw : List (List Str) → List Str
  | [] => []
  | [p] => p
  | p :: q :: r => p ++ (("/" : Str) :: jw (q :: r))
theorem jw_cons (p : List Str) {ps : List (List Str)} (h : ps ≠ []) : jw (p :: ps) = p ++ (("/" : Str) :: jw ps) := by
  cases ps with
  | nil => exact absurd rfl h
  | cons q r => rfl
theorem jw_word (w : Str) : ∀ (ps : List (List Str)) (p : List Str), jw (ps ++ [p ++ [w]]) = jw (ps ++ [p]) ++ [w]
  | [], p => rfl
  | q :: ps, p => by
    rw [List.cons_append, List.cons_append, jw_cons q (by simp), jw_cons q (by simp), jw_word w ps p]
    simp
theorem jw_slash : ∀ (ps : List (List Str)) (p : List Str), jw (ps ++ [p] ++ [[]]) = jw (ps ++ [p]) ++ [("/" : Str)]
  | [], p => by simp [jw]
  | q :: ps, p => by
    rw [List.cons_append, List.cons_append, jw_cons q (by simp), jw_cons q (by simp), jw_slash ps p]
    simp
theorem jw_stp (a : List (List Str) × List Str) (w : Str) : jw (prs (stp a w)) = jw (prs a) ++ [w] := by
  unfold stp prs
  by_cases h : w = "/"
  · rw [if_pos h, h]
    exact jw_slash a.1 a.2
  · rw [if_neg h]
    exact jw_word w a.1 a.2
theorem jw_fold : ∀ (l : List Str) (a : List (List Str) × List Str), jw (prs (l.foldl stp a)) = jw (prs a) ++ l
  | [], a => by simp
  | w :: l, a => by
    rw [List.foldl_cons, jw_fold l, jw_stp]
    simp
theorem jP_jw (ws : List Str) : jw (jP ws) = ws.drop 1 := by
  unfold jP
  rw [jw_fold]
  rfl
theorem jw_size : ∀ ps : List (List Str), (ps.map tsz).sum ≤ tsz (jw ps) ∧ ps.length ≤ (jw ps).length + 1
  | [] => by simp [jw]
  | [p] => by simp [jw]
  | p :: q :: r => by
    have := jw_size (q :: r)
    rw [jw_cons p (by simp), tsz_append, tsz_cons]
    simp only [List.map_cons, List.sum_cons, List.length_cons, List.length_append] at *
    omega
theorem joinL_append {S : List Nat} : ∀ {a b : List (List Nat)}, a ≠ [] → b ≠ [] → TL.joinL S (a ++ b) = TL.joinL S a ++ (S ++ TL.joinL S b)
  | [], _, h, _ => absurd rfl h
  | [p], b, _, hb => by
    cases b with
    | nil => exact absurd rfl hb
    | cons q r => rfl
  | p :: q :: r, b, _, hb => by
    have := @joinL_append S (q :: r) b (by simp) hb
    show p ++ (S ++ TL.joinL S (q :: r ++ b)) = p ++ (S ++ TL.joinL S (q :: r)) ++ (S ++ TL.joinL S b)
    rw [this]
    simp only [List.append_assoc]
theorem jw_ne : ∀ {ps : List (List Str)}, ps ≠ [] → (∀ p ∈ ps, p ≠ []) → jw ps ≠ []
  | [], h, _ => absurd rfl h
  | [p], _, hp => hp p List.mem_cons_self
  | p :: q :: r, _, _ => by simp [jw]
theorem jw_text : ∀ {ps : List (List Str)}, ps ≠ [] → (∀ p ∈ ps, p ≠ []) → TL.joinL [32, 47, 32] (ps.map fun p => TL.joinL [32] (p.map TL.tl)) = TL.joinL [32] ((jw ps).map TL.tl)
  | [], h, _ => absurd rfl h
  | [p], _, _ => rfl
  | p :: q :: r, _, hp => by
    have ih := jw_text (ps := q :: r) (by simp) (fun p m => hp p (List.mem_cons_of_mem _ m))
    have hne : p.map TL.tl ≠ [] := fun e => hp p List.mem_cons_self (List.map_eq_nil_iff.mp e)
    have hj : (jw (q :: r)).map TL.tl ≠ [] := fun e => jw_ne (ps := q :: r) (by simp) (fun p m => hp p (List.mem_cons_of_mem _ m)) (List.map_eq_nil_iff.mp e)
    show TL.joinL [32] (p.map TL.tl) ++ ([32, 47, 32] ++ TL.joinL [32, 47, 32] ((q :: r).map fun p => TL.joinL [32] (p.map TL.tl))) = TL.joinL [32] ((p ++ (("/" : Str) :: jw (q :: r))).map TL.tl)
    rw [ih, List.map_append, List.map_cons, joinL_append hne (by simp)]
    have e : TL.tl (Str.ofString "/") = [47] := by decide +kernel
    rw [e]
    have e2 : TL.joinL [32] ([47] :: (jw (q :: r)).map TL.tl) = [47] ++ ([32] ++ TL.joinL [32] ((jw (q :: r)).map TL.tl)) := joinL_append (a := [[47]]) (by simp) hj
    rw [e2]
    simp only [List.append_assoc, List.cons_append, List.nil_append]
def noNil : Rl → Bool
  | .jn ps => decide ([] ∉ ps)
  | _ => true
theorem jn_words {ps : List (List Str)} (h1 : ps ≠ []) (h2 : ∀ p ∈ ps, p ≠ []) : rtext (.jn ps) = Txt.join " " ("join" :: jw ps) := by
  apply TL.ext_tl
  show TL.tl (Str.ofString "join " ++ Txt.join " / " (ps.map (Txt.join " "))) = TL.tl (Txt.join " " ("join" :: jw ps))
  rw [TL.tl_append, tl_jn, tl_jn, List.map_map, List.map_cons]
  have e1 : TL.tl (Str.ofString "join ") = [106, 111, 105, 110] ++ [32] := by decide +kernel
  have e2 : TL.tl (Str.ofString " / ") = [32, 47, 32] := by decide +kernel
  have e3 : TL.tl (Str.ofString " ") = [32] := by decide +kernel
  have e4 : TL.tl (Str.ofString "join") = [106, 111, 105, 110] := by decide +kernel
  rw [e1, e2, e3, e4]
  have e5 := jw_text h1 h2
  have e6 : ps.map (TL.tl ∘ Txt.join (Str.ofString " ")) = ps.map fun p => TL.joinL [32] (p.map TL.tl) := by
    apply List.map_congr_left
    intro p _
    show TL.tl (Txt.join (Str.ofString " ") p) = _
    rw [tl_jn, e3]
  rw [e6, e5]
  have hj : (jw ps).map TL.tl ≠ [] := fun e => jw_ne h1 h2 (List.map_eq_nil_iff.mp e)
  have e7 : TL.joinL [32] ([106, 111, 105, 110] :: (jw ps).map TL.tl) = [106, 111, 105, 110] ++ ([32] ++ TL.joinL [32] ((jw ps).map TL.tl)) := joinL_append (a := [[106, 111, 105, 110]]) (by simp) hj
  rw [e7, List.append_assoc]
theorem at0_cons {ws : List Str} (h : ws ≠ []) : at' ws 0 :: ws.drop 1 = ws := by
  cases ws with
  | nil => exact absurd rfl h
  | cons a r => rfl
theorem rr_tm {ws : List Str} {m : Bool} {x y : List Str} (h : rr ws = .inl (.tm m x y)) : x ++ [kindS m] ++ y = ws := by
  unfold rr at h
  split at h
  · split at h <;> cases h
  · split at h
    · cases h
    · rename_i i hf
      obtain ⟨hi, _, _⟩ := find_range hf
      split at h
      · rename_i hk
        split at h
        · injection h with h
          injection h with h1 h2 h3
          rw [← h1, ← h2, ← h3, kind_of hk]
          have : at' ws i = ws[i] := by simp [at', List.getD_eq_getElem?_getD, hi]
          rw [this, List.append_assoc, List.singleton_append, List.getElem_cons_drop, List.take_append_drop]
        · cases h
      · cases h
theorem rr_jn {ws : List Str} {ps : List (List Str)} (h : rr ws = .inl (.jn ps)) : at' ws 0 = "join" ∧ ps = jP ws := by
  unfold rr at h
  split at h
  · rename_i h0
    split at h
    · injection h with h
      injection h with h
      exact ⟨h0, h.symm⟩
    · cases h
  · split at h
    · cases h
    · split at h
      · split at h <;> cases h
      · cases h
theorem rr_text {ws : List Str} (hw : ws ≠ []) {r : Rl} (h : rr ws = .inl r) (hn : noNil r = true) : rtext r = Txt.join " " ws := by
  cases r with
  | tm m x y =>
    show Txt.join " " (x ++ [kindS m] ++ y) = _
    rw [rr_tm h]
  | jn ps =>
    obtain ⟨h0, rfl⟩ := rr_jn h
    have hn : [] ∉ jP ws := of_decide_eq_true hn
    rw [jn_words (by unfold jP prs; simp) (fun p m e => hn (e ▸ m)), jP_jw, ← h0, at0_cons hw]
theorem rr_fits {ws : List Str} (hw : ws ≠ []) (hs : Sz ws) {r : Rl} (h : rr ws = .inl r) : r.fits ∧ r.mid := by
  have l1 := hs.len
  have hs : tsz ws ≤ 900000 := hs
  cases r with
  | tm m x y =>
    have e := rr_tm h
    refine ⟨by show tsz (x ++ [kindS m] ++ y) ≤ _; rw [e]; omega, ?_⟩
    have := congrArg List.length e
    simp only [List.length_append] at this
    exact ⟨by omega, by omega⟩
  | jn ps =>
    obtain ⟨h0, rfl⟩ := rr_jn h
    have e := jw_size (jP ws)
    rw [jP_jw] at e
    have t := tsz_take ws 1
    have d : (ws.drop 1).length ≤ 899999 := by
      rw [List.length_drop]; omega
    refine ⟨⟨by omega, by omega⟩, by omega, fun p m => ?_⟩
    have := mem_sum tsz m
    have := tsz_len p
    omega
theorem rls_of {T : Str} (h : (JL (lns T)).find? (badL T) = none) : ∀ k ∈ JL (lns T), rr (wl T k) = .inl (rrL (rr (wl T k))) := by
  intro k m
  have := List.find?_eq_none.mp h k m
  unfold badL at this
  cases e : rr (wl T k) with
  | inl r => rfl
  | inr j => rw [e] at this; simp at this
theorem rd_inl {T : Str} {cols : List Str} {rs : List Rl} (h : rd T = .inl (cols, rs)) : wl T 0 = ("columns" : Str) :: cols ∧ rs = rls T ∧ (JL (lns T)).find? (badL T) = none := by
  unfold rd at h
  split at h
  · cases h
  · rename_i hh
    split at h
    · cases h
    · rename_i hf
      injection h with h
      injection h with h1 h2
      refine ⟨?_, h2.symm, hf⟩
      unfold headR at hh
      split at hh
      · rename_i h0
        rw [← h1, ← h0]
        exact (at0_cons (split_b _)).symm
      · cases hh
theorem rd_text {T : Str} {cols : List Str} {rs : List Rl} (h : rd T = .inl (cols, rs)) (hn : ∀ r ∈ rs, noNil r = true) : btext cols rs = T := by
  obtain ⟨h1, h2, h3⟩ := rd_inl h
  have e0 : Txt.join " " (("columns" : Str) :: cols) = at' (lns T) 0 := by
    rw [← h1]; exact join_split _ _
  have e1 : rs.map rtext = (lns T).drop 1 := by
    rw [← jl_map (lns T), h2]
    unfold rls
    rw [List.map_map]
    apply List.map_congr_left
    intro k m
    have q := rls_of h3 k m
    have hm : rrL (rr (wl T k)) ∈ rs := by rw [h2]; exact List.mem_map.mpr ⟨k, m, rfl⟩
    show rtext (rrL (rr (wl T k))) = _
    rw [rr_text (split_b _) q (hn _ hm)]
    exact join_split _ _
  unfold btext
  rw [e0, e1, at0_cons (show lns T ≠ [] from split_n T)]
  exact join_split T "\n"
theorem rd_fits {T : Str} (hT : T.length ≤ 800000) {cols : List Str} {rs : List Rl} (h : rd T = .inl (cols, rs)) (hn : ∀ r ∈ rs, noNil r = true) : Fits cols rs := by
  obtain ⟨h1, h2, h3⟩ := rd_inl h
  refine ⟨?_, ?_, ?_⟩
  · rw [← h1]
    have : tsz (wl T 0) ≤ 900000 := wl_sz hT 0
    omega
  · intro r m
    rw [h2] at m
    obtain ⟨k, mk, rfl⟩ := List.mem_map.mp m
    exact (rr_fits (split_b _) (wl_sz hT k) (rls_of h3 k mk)).1
  · have e0 : Txt.join " " (("columns" : Str) :: cols) = at' (lns T) 0 := by
      rw [← h1]; exact join_split _ _
    have e1 : rs.map rtext = (lns T).drop 1 := by
      rw [← jl_map (lns T), h2]
      unfold rls
      rw [List.map_map]
      apply List.map_congr_left
      intro k m
      have q := rls_of h3 k m
      have hm : rrL (rr (wl T k)) ∈ rs := by rw [h2]; exact List.mem_map.mpr ⟨k, m, rfl⟩
      show rtext (rrL (rr (wl T k))) = _
      rw [rr_text (split_b _) q (hn _ hm)]
      exact join_split _ _
    rw [e0, e1, at0_cons (show lns T ≠ [] from split_n T)]
    have : tsz (lns T) = T.length + 1 := tsz_n T
    omega
theorem rd_mid {T : Str} (hT : T.length ≤ 800000) {cols : List Str} {rs : List Rl} (h : rd T = .inl (cols, rs)) : cols.length ≤ 900000 ∧ rs.length ≤ 900000 ∧ ∀ r ∈ rs, r.mid := by
  obtain ⟨h1, h2, h3⟩ := rd_inl h
  have l0 := (wl_sz hT 0).len
  rw [h1, List.length_cons] at l0
  have l1 := lns_len hT
  refine ⟨by omega, ?_, ?_⟩
  · rw [h2]; unfold rls; rw [List.length_map, jl_len]; omega
  · intro r m
    rw [h2] at m
    obtain ⟨k, mk, rfl⟩ := List.mem_map.mp m
    exact (rr_fits (split_b _) (wl_sz hT k) (rls_of h3 k mk)).2
end Lw

set_option Elab.async false
set_option linter.all false
set_option maxRecDepth 100000
set_option maxHeartbeats 400000
set_option pp.maxSteps 600
namespace Lw
open PySem Mi
/-! ### changed texts -/
def NEW : List Str := ["", "tells", "many", "join", "/", "a", "zz", "columns", "A", "a-b", "abcdefg", "9a", "c d", "lies"]
abbrev LL (ws : List Str) : PV := .lst (SS ws)
def LS (ls : List (List Str)) : Nat := (ls.map fun l => tsz l + 1).sum
theorem LS_append (a b : List (List Str)) : LS (a ++ b) = LS a + LS b := by simp [LS]
theorem LS_cons (a : List Str) (b : List (List Str)) : LS (a :: b) = tsz a + 1 + LS b := by simp [LS]
theorem LS_len : ∀ ls : List (List Str), ls.length ≤ LS ls
  | [] => by simp [LS]
  | a :: l => by have := LS_len l; rw [LS_cons, List.length_cons]; omega
theorem LS_take (ls : List (List Str)) (k : Nat) : LS (ls.take k) + LS (ls.drop k) = LS ls := by rw [← LS_append, List.take_append_drop]
theorem LS_mem : ∀ {ls : List (List Str)} {l : List Str}, l ∈ ls → tsz l + 1 ≤ LS ls
  | b :: ls, l, m => by
    rw [LS_cons]
    rcases List.mem_cons.mp m with rfl | m
    · omega
    · have := LS_mem m; omega
theorem LS_drop1 {ls : List (List Str)} {a : Nat} (h : a < ls.length) : LS (ls.drop a) = tsz ls[a] + 1 + LS (ls.drop (a + 1)) := by
  rw [List.drop_eq_getElem_cons h, LS_cons]
theorem set_eq {α : Type} {ls : List α} {a : Nat} (h : a < ls.length) (x : α) : ls.set a x = ls.take a ++ x :: ls.drop (a + 1) := by
  rw [List.set_eq_take_append_cons_drop, if_pos h]
theorem LS_set {ls : List (List Str)} {a : Nat} (h : a < ls.length) (x : List Str) : LS (ls.set a x) + tsz ls[a] = LS ls + tsz x := by
  have h1 := LS_take ls a
  have h2 := LS_drop1 h
  rw [set_eq h, LS_append, LS_cons]
  omega
def lines0 (T : Str) : List (List Str) := (lns T).map fun l => Txt.split l " "
theorem LS_lines0 (T : Str) : LS (lines0 T) ≤ 2 * (T.length + 1) := by
  have e : tsz (lns T) = T.length + 1 := tsz_n T
  rw [← e]
  unfold lines0 LS
  rw [List.map_map]
  generalize lns T = l
  induction l with
  | nil => simp [tsz]
  | cons a l ih =>
    rw [tsz_cons]
    simp only [List.map_cons, List.sum_cons, Function.comp_def] at ih ⊢
    rw [tsz_b]
    omega
def TX (ls : List (List Str)) : Str := Txt.join "\n" (ls.map (Txt.join " "))
theorem tx_size (ls : List (List Str)) : tsz (ls.map (Txt.join " ")) ≤ LS ls := by
  unfold tsz LS
  rw [List.map_map]
  exact sum_mono _ _ fun l _ => by
    have := join1_le one_len l
    simp only [Function.comp_def]
    unfold tsz at this ⊢
    omega
theorem tx_len (ls : List (List Str)) : (TX ls).length ≤ LS ls := Nat.le_trans (join1_le nl_len _) (tx_size ls)
def cs (i : Nat) : Sm Fn := b__law_changed.getD i .nev
theorem c_eq : (D ._law_changed).body = [cs 0, cs 1, cs 2, cs 3, cs 4, cs 5, cs 6, cs 7] := rfl
theorem cs7 : cs 7 = b__law_changed.getD 7 .nev := rfl
theorem cs6 : cs 6 = b__law_changed.getD 6 .nev := rfl
theorem cs_c2 (call : Fn → List Sl → CR) (S P s4 s5 s6 s7 : Sl) (p : PV) (ls : List (List Str)) (h : LS ls ≤ 900000) : evE call _law_changed_c2 [S, P, .o 0 (.lst (ls.map LL)), .v p, s4, s5, s6, s7] = .ok (.o 0 (.lst (SS (ls.map (Txt.join " "))))) [S, P, .o 0 (.lst (ls.map LL)), .v p, s4, s5, s6, s7] := by
  have l1 := LS_len ls
  simp [D, lcnt, R.of_some, R.of_none, Wk.chk, evSs, evS, evE, evEs, evAnd, evOr, tst, Mi.Tm.args, Mi.Tm.arg, Mi.Tm.dn, mkTm, Pr.fresh, maskE, Cn.pv, Mi.Tm.pars, Mi.Tm.par, ioSlots, lendT, callT, ioFree, afterCall, Mi.Tm.lent, giveBack, evMu, Mu.recv, Pr.recv, PV.tag, canSet, Sl.free, List.range_succ, Mi.Tm.walk, seqOf, bindS, bindT, Tg.is, wipeE, backE, unlock, Wk.ios, Mi.Tm.pureOk, ioPure, parT, evH, evHs, _law_changed_c2]
  rw [lcL_mapL (fun l => PV.str (Txt.join " " l)) (le_lim' (by omega)) (by simp [D, lcnt, R.of_some, R.of_none, Wk.chk, evSs, evS, evE, evEs, evAnd, evOr, tst, Mi.Tm.args, Mi.Tm.arg, Mi.Tm.dn, mkTm, Pr.fresh, maskE, Cn.pv, Mi.Tm.pars, Mi.Tm.par, ioSlots, lendT, callT, ioFree, afterCall, Mi.Tm.lent, giveBack, evMu, Mu.recv, Pr.recv, PV.tag, canSet, Sl.free, List.range_succ, Mi.Tm.walk, seqOf, bindS, bindT, Tg.is, wipeE, backE, unlock, Wk.ios, Mi.Tm.pureOk, ioPure, parT, evH, evHs, ]) (fun l m => by
    have e : evP .join [.str " ", LL l] = _ := ev_join_lst (join1_ev one_len (xs := l) (by have := LS_mem m; omega))
    obtain ⟨W, hW⟩ : ∃ W, LL l = .lst W := ⟨_, rfl⟩
    rw [hW] at e ⊢
    generalize Txt.join " " l = t at *
    simp [D, lcnt, R.of_some, R.of_none, Wk.chk, evSs, evS, evE, evEs, evAnd, evOr, tst, Mi.Tm.args, Mi.Tm.arg, Mi.Tm.dn, mkTm, Pr.fresh, maskE, Cn.pv, Mi.Tm.pars, Mi.Tm.par, ioSlots, lendT, callT, ioFree, afterCall, Mi.Tm.lent, giveBack, evMu, Mu.recv, Pr.recv, PV.tag, canSet, Sl.free, List.range_succ, Mi.Tm.walk, seqOf, bindS, bindT, Tg.is, wipeE, backE, unlock, Wk.ios, Mi.Tm.pureOk, ioPure, parT, evH, evHs, e])]
  simp [D, lcnt, R.of_some, R.of_none, Wk.chk, evSs, evS, evE, evEs, evAnd, evOr, tst, Mi.Tm.args, Mi.Tm.arg, Mi.Tm.dn, mkTm, Pr.fresh, maskE, Cn.pv, Mi.Tm.pars, Mi.Tm.par, ioSlots, lendT, callT, ioFree, afterCall, Mi.Tm.lent, giveBack, evMu, Mu.recv, Pr.recv, PV.tag, canSet, Sl.free, List.range_succ, Mi.Tm.walk, seqOf, bindS, bindT, Tg.is, wipeE, backE, unlock, Wk.ios, Mi.Tm.pureOk, ioPure, parT, evH, evHs, SS, Function.comp_def]
theorem ch_end (call : Fn → List Sl → CR) (S P s4 s5 s6 s7 : Sl) (p : PV) (ls : List (List Str)) (h : LS ls ≤ 900000) : ∃ ρ, evS call [1] (cs 7) [S, P, .o 0 (.lst (ls.map LL)), .v p, s4, s5, s6, s7] = .ok (.rt (.v (.str (TX ls)))) ρ ∧ maskE [1] 2 ρ = [.u, P] := by
  have e := cs_c2 call S P s4 s5 s6 s7 p ls h
  have e2 := ev_join_lst (join1_ev nl_len (xs := ls.map (Txt.join " ")) (by have := tx_size ls; omega))
  unfold TX
  refine ⟨[S, P, .o 0 (.lst (ls.map LL)), .v p, s4, s5, s6, s7], ?_, by simp [maskE, List.range_succ]⟩
  generalize SS (ls.map (Txt.join " ")) = W at *
  generalize Txt.join "\n" (ls.map (Txt.join " ")) = t at *
  simp [D, lcnt, R.of_some, R.of_none, Wk.chk, evSs, evS, evE, evEs, evAnd, evOr, tst, Mi.Tm.args, Mi.Tm.arg, Mi.Tm.dn, mkTm, Pr.fresh, maskE, Cn.pv, Mi.Tm.pars, Mi.Tm.par, ioSlots, lendT, callT, ioFree, afterCall, Mi.Tm.lent, giveBack, evMu, Mu.recv, Pr.recv, PV.tag, canSet, Sl.free, List.range_succ, Mi.Tm.walk, seqOf, bindS, bindT, Tg.is, wipeE, backE, unlock, Wk.ios, Mi.Tm.pureOk, ioPure, parT, evH, evHs, cs7, b__law_changed, e, e2]
end Lw

set_option Elab.async false
set_option linter.all false
set_option maxRecDepth 100000
set_option maxHeartbeats 400000
set_option pp.maxSteps 600
namespace Lw
open PySem Mi
theorem up_nat (j : Nat) : ((j : Int) + 1) = (((j + 1 : Nat)) : Int) := by omega
theorem putI_at {xs : List PV} {a : Nat} (h : a < xs.length) (y : PV) : putI 0 (.lst xs) (.v (.int (a : Int))) (.v y) = some (.lst (xs.set a y)) := by
  have px : L2.ixN xs.length (a : Int) = some a := by unfold L2.ixN; simp [h]
  simp [putI, px, Mi.Tm.dn]
theorem addL {x y : List Str} (h : x.length + y.length ≤ 1000000) : evP .add [LL x, LL y] = some (LL (x ++ y)) := by
  rw [ev_add_lst (le_lim' (by simpa using h)), ← SS_append]
theorem addLL {x y : List (List Str)} (h : x.length + y.length ≤ 1000000) : evP .add [.lst (x.map LL), .lst (y.map LL)] = some (.lst ((x ++ y).map LL)) := by
  rw [ev_add_lst (le_lim' (by simpa using h)), ← List.map_append]
theorem slH (x : List Str) (j : Nat) : evP (.slc false true) [LL x, .int (j : Int)] = some (LL (x.take j)) := by rw [ev_slcH_lst]; simp [SS, List.map_take]
theorem slL (x : List Str) (j : Nat) : evP (.slc true false) [LL x, .int (j : Int)] = some (LL (x.drop j)) := by rw [ev_slcL_lst]; simp [SS, List.map_drop]
theorem slHH (x : List (List Str)) (j : Nat) : evP (.slc false true) [.lst (x.map LL), .int (j : Int)] = some (.lst ((x.take j).map LL)) := by rw [ev_slcH_lst]; simp [List.map_take]
theorem slLL (x : List (List Str)) (j : Nat) : evP (.slc true false) [.lst (x.map LL), .int (j : Int)] = some (.lst ((x.drop j).map LL)) := by rw [ev_slcL_lst]; simp [List.map_drop]
section
variable (call : Fn → List Sl → CR) (S P : Sl) (ls : List (List Str)) (hs : LS ls ≤ 400000) (a : Nat) (ha : a < ls.length) (j : Nat) (w : Str) (hw : w.length ≤ 7)
include hs ha hw
theorem mid_lo (q : Nat) (hq : q < 4) : ∃ ls', LS ls' ≤ 2 * LS ls + 20 ∧ evS call [1] (cs 6) [S, P, .o 0 (.lst (ls.map LL)), .v (LL ls[a]), .v (.int (a : Int)), .v (.int (j : Int)), .v (.str w), .v (.int (q : Int))] = .ok .nx [S, P, .o 0 (.lst (ls'.map LL)), .v (LL ls[a]), .v (.int (a : Int)), .v (.int (j : Int)), .v (.str w), .v (.int (q : Int))] := by
  have hq4 : (q : Int) < 4 := by omega
  have hm := LS_mem (List.getElem_mem ha)
  have st := fun x => LS_set ha x
  have ha' : a < (ls.map LL).length := by simpa using ha
  have gd1 := slL ls[a] (j + 1)
  rw [← up_nat] at gd1
  have gd := slL ls[a] j
  have gt := slH ls[a] j
  have tl := tsz_len ls[a]
  have t1 := tsz_take ls[a] j
  have t2 := tsz_take ls[a] (j + 1)
  generalize ls[a] = line at *
  have L1 := List.length_take (i := j) (l := line)
  have L2 := List.length_drop (i := j) (l := line)
  have L3 := List.length_drop (i := j + 1) (l := line)
  have A0 := addL (x := line.take j) (y := [w]) (by simp; omega)
  have A1 := addL (x := line.take j ++ [w]) (y := line.drop (j + 1)) (by simp; omega)
  have A2 := addL (x := line.take j) (y := line.drop (j + 1)) (by simp; omega)
  have A3 := addL (x := line.take j ++ [w]) (y := line.drop j) (by simp; omega)
  have A4 := addL (x := line) (y := line.drop j) (by omega)
  have z : ∀ x : List Str, tsz x ≤ 2 * tsz line + 10 → ∃ ls', LS ls' ≤ 2 * LS ls + 20 ∧ (ls.map LL).set a (LL x) = ls'.map LL := fun x hx => ⟨ls.set a x, by have := st x; omega, by rw [List.map_set]⟩
  have pt := fun y => putI_at ha' y
  obtain ⟨F, hF⟩ : ∃ F : List (List Str), F = [line.take j ++ [w] ++ line.drop (j + 1), line.take j ++ line.drop (j + 1), line.take j ++ [w] ++ line.drop j, line ++ line.drop j] := ⟨_, rfl⟩
  have hx : ∃ x, tsz x ≤ 2 * tsz line + 10 ∧ evP .ix [.lst [LL (line.take j ++ [w] ++ line.drop (j + 1)), LL (line.take j ++ line.drop (j + 1)), LL (line.take j ++ [w] ++ line.drop j), LL (line ++ line.drop j)], .int (q : Int)] = some (LL x) := by
    have w1 : tsz [w] ≤ 8 := by rw [tsz_cons, tsz_nil]; omega
    have : q = 0 ∨ q = 1 ∨ q = 2 ∨ q = 3 := by omega
    rcases this with rfl | rfl | rfl | rfl
    · exact ⟨_, by rw [tsz_append, tsz_append]; omega, ev_ix_lst (i := 0) (by simp)⟩
    · exact ⟨_, by rw [tsz_append]; omega, ev_ix_lst (i := 1) (by simp)⟩
    · exact ⟨_, by rw [tsz_append, tsz_append]; omega, ev_ix_lst (i := 2) (by simp)⟩
    · exact ⟨_, by rw [tsz_append]; omega, ev_ix_lst (i := 3) (by simp)⟩
  obtain ⟨x, x1, x2⟩ := hx
  obtain ⟨ls', l1, l2⟩ := z x x1
  have pt := pt (LL x)
  rw [l2] at pt
  refine ⟨ls', l1, ?_⟩
  have lw : LL [w] = .lst [.str w] := rfl
  rw [lw] at A0
  generalize ls'.map LL = V' at *
  generalize ls.map LL = V at *
  have un : ∀ x : List Str, ∃ X, LL x = .lst X := fun x => ⟨_, rfl⟩
  obtain ⟨X0, h0⟩ := un line
  obtain ⟨X1, h1⟩ := un (line.take j)
  obtain ⟨X2, h2⟩ := un (line.drop j)
  obtain ⟨X3, h3⟩ := un (line.drop (j + 1))
  obtain ⟨X4, h4⟩ := un (line.take j ++ [w])
  obtain ⟨X5, h5⟩ := un (line.take j ++ [w] ++ line.drop (j + 1))
  obtain ⟨X6, h6⟩ := un (line.take j ++ line.drop (j + 1))
  obtain ⟨X7, h7⟩ := un (line.take j ++ [w] ++ line.drop j)
  obtain ⟨X8, h8⟩ := un (line ++ line.drop j)
  obtain ⟨X9, h9⟩ := un x
  rw [h5, h6, h7, h8, h9] at x2
  rw [h1, h4] at A0
  rw [h4, h3, h5] at A1
  rw [h1, h3, h6] at A2
  rw [h4, h2, h7] at A3
  rw [h0, h2, h8] at A4
  rw [h9] at pt
  rw [h0, h1] at gt
  rw [h0, h2] at gd
  rw [h0, h3] at gd1
  rw [h0]
  clear hF h0 h1 h2 h3 h4 h5 h6 h7 h8 h9 z st
  simp [D, lcnt, R.of_some, R.of_none, Wk.chk, evSs, evS, evE, evEs, evAnd, evOr, tst, Mi.Tm.args, Mi.Tm.arg, Mi.Tm.dn, mkTm, Pr.fresh, maskE, Cn.pv, Mi.Tm.pars, Mi.Tm.par, ioSlots, lendT, callT, ioFree, afterCall, Mi.Tm.lent, giveBack, evMu, Mu.recv, Pr.recv, PV.tag, canSet, Sl.free, List.range_succ, Mi.Tm.walk, seqOf, bindS, bindT, Tg.is, wipeE, backE, unlock, Wk.ios, Mi.Tm.pureOk, ioPure, parT, evH, evHs, cs6, b__law_changed, hq4, gt, gd, gd1, A0, A1, A2, A3, A4, x2, pt]
theorem mid_hi (q : Nat) (hq : q = 4 ∨ q = 5) : ∃ ls', LS ls' ≤ 2 * LS ls + 20 ∧ evS call [1] (cs 6) [S, P, .o 0 (.lst (ls.map LL)), .v (LL ls[a]), .v (.int (a : Int)), .v (.int (j : Int)), .v (.str w), .v (.int (q : Int))] = .ok .nx [S, P, .o 0 (.lst (ls'.map LL)), .v (LL ls[a]), .v (.int (a : Int)), .v (.int (j : Int)), .v (.str w), .v (.int (q : Int))] := by
  have l1 := LS_len ls
  have gt := slHH ls a
  have gd := slLL ls a
  have gd1 := slLL ls (a + 1)
  rw [← up_nat] at gd1
  have t1 := LS_take ls a
  have t2 := LS_take ls (a + 1)
  have t3 := LS_drop1 ha
  have hm := LS_mem (List.getElem_mem ha)
  have L1 := List.length_take (i := a) (l := ls)
  have L2 := List.length_drop (i := a) (l := ls)
  have L3 := List.length_drop (i := a + 1) (l := ls)
  have w1 : tsz [w] ≤ 8 := by rw [tsz_cons, tsz_nil]; omega
  have w2 : tsz [("" : Str)] = 1 := by decide +kernel
  generalize ls[a] = line at *
  rcases hq with rfl | rfl
  · have A1 := addLL (x := ls.take a) (y := [[w]]) (by simp; omega)
    have A2 := addLL (x := ls.take a ++ [[w]]) (y := ls.drop a) (by simp; omega)
    refine ⟨ls.take a ++ [[w]] ++ ls.drop a, by rw [LS_append, LS_append, LS_cons]; simp only [LS, List.map_nil, List.sum_nil] at *; omega, ?_⟩
    have lw : [[w]].map LL = [.lst [.str w]] := rfl
    rw [lw] at A1
    generalize (ls.take a ++ [[w]] ++ ls.drop a).map LL = V' at *
    generalize (ls.take a ++ [[w]]).map LL = V2 at *
    generalize (ls.take a).map LL = V3 at *
    generalize (ls.drop a).map LL = V4 at *
    generalize ls.map LL = V at *
    obtain ⟨X0, h0⟩ : ∃ X, LL line = .lst X := ⟨_, rfl⟩
    rw [h0]
    simp [D, lcnt, R.of_some, R.of_none, Wk.chk, evSs, evS, evE, evEs, evAnd, evOr, tst, Mi.Tm.args, Mi.Tm.arg, Mi.Tm.dn, mkTm, Pr.fresh, maskE, Cn.pv, Mi.Tm.pars, Mi.Tm.par, ioSlots, lendT, callT, ioFree, afterCall, Mi.Tm.lent, giveBack, evMu, Mu.recv, Pr.recv, PV.tag, canSet, Sl.free, List.range_succ, Mi.Tm.walk, seqOf, bindS, bindT, Tg.is, wipeE, backE, unlock, Wk.ios, Mi.Tm.pureOk, ioPure, parT, evH, evHs, cs6, b__law_changed, gt, gd, A1, A2]
  · have A1 := addLL (x := ls.take a) (y := [line, [""]]) (by simp; omega)
    have A2 := addLL (x := ls.take a ++ [line, [""]]) (y := ls.drop (a + 1)) (by simp; omega)
    refine ⟨ls.take a ++ [line, [""]] ++ ls.drop (a + 1), by rw [LS_append, LS_append, LS_cons, LS_cons]; simp only [LS, List.map_nil, List.sum_nil] at *; omega, ?_⟩
    have lw : [line, [""]].map LL = [LL line, .lst [.str ""]] := rfl
    rw [lw] at A1
    generalize (ls.take a ++ [line, [""]] ++ ls.drop (a + 1)).map LL = V' at *
    generalize (ls.take a ++ [line, [""]]).map LL = V2 at *
    generalize (ls.take a).map LL = V3 at *
    generalize (ls.drop (a + 1)).map LL = V4 at *
    generalize ls.map LL = V at *
    obtain ⟨X0, h0⟩ : ∃ X, LL line = .lst X := ⟨_, rfl⟩
    rw [h0] at A1 ⊢
    simp [D, lcnt, R.of_some, R.of_none, Wk.chk, evSs, evS, evE, evEs, evAnd, evOr, tst, Mi.Tm.args, Mi.Tm.arg, Mi.Tm.dn, mkTm, Pr.fresh, maskE, Cn.pv, Mi.Tm.pars, Mi.Tm.par, ioSlots, lendT, callT, ioFree, afterCall, Mi.Tm.lent, giveBack, evMu, Mu.recv, Pr.recv, PV.tag, canSet, Sl.free, List.range_succ, Mi.Tm.walk, seqOf, bindS, bindT, Tg.is, wipeE, backE, unlock, Wk.ios, Mi.Tm.pureOk, ioPure, parT, evH, evHs, cs6, b__law_changed, gt, gd1, A1, A2]
end
end Lw

set_option Elab.async false
set_option linter.all false
set_option maxRecDepth 100000
set_option maxHeartbeats 400000
set_option pp.maxSteps 600
namespace Lw
open PySem Mi
theorem ch_lines (call : Fn → List Sl → CR) (T : Str) (hT : T.length ≤ 800000) (P s2 s4 s5 s6 s7 : Sl) : evE call _law_changed_c1 [.v (.str T), P, s2, .u, s4, s5, s6, s7] = .ok (.o 0 (.lst ((lines0 T).map LL))) [.v (.str T), P, s2, .u, s4, s5, s6, s7] := by
  have e0 : evP .split [.str T, .str "\n"] = some (.lst (SS (lns T))) := nl_ev (by omega)
  have l1 := lns_len hT
  have tz : tsz (lns T) = T.length + 1 := tsz_n T
  simp [D, lcnt, R.of_some, R.of_none, Wk.chk, evSs, evS, evE, evEs, evAnd, evOr, tst, Mi.Tm.args, Mi.Tm.arg, Mi.Tm.dn, mkTm, Pr.fresh, maskE, Cn.pv, Mi.Tm.pars, Mi.Tm.par, ioSlots, lendT, callT, ioFree, afterCall, Mi.Tm.lent, giveBack, evMu, Mu.recv, Pr.recv, PV.tag, canSet, Sl.free, List.range_succ, Mi.Tm.walk, seqOf, bindS, bindT, Tg.is, wipeE, backE, unlock, Wk.ios, Mi.Tm.pureOk, ioPure, parT, evH, evHs, _law_changed_c1, e0]
  rw [lcL_mapL (fun l => PV.lst (SS (Txt.split l " "))) (le_lim' (by omega)) (by simp [D, lcnt, R.of_some, R.of_none, Wk.chk, evSs, evS, evE, evEs, evAnd, evOr, tst, Mi.Tm.args, Mi.Tm.arg, Mi.Tm.dn, mkTm, Pr.fresh, maskE, Cn.pv, Mi.Tm.pars, Mi.Tm.par, ioSlots, lendT, callT, ioFree, afterCall, Mi.Tm.lent, giveBack, evMu, Mu.recv, Pr.recv, PV.tag, canSet, Sl.free, List.range_succ, Mi.Tm.walk, seqOf, bindS, bindT, Tg.is, wipeE, backE, unlock, Wk.ios, Mi.Tm.pureOk, ioPure, parT, evH, evHs, ]) (fun l m => by
    have e1 := sp_ev (x := l) (by have := tsz_mem m; omega)
    generalize SS (Txt.split l " ") = W at *
    simp [D, lcnt, R.of_some, R.of_none, Wk.chk, evSs, evS, evE, evEs, evAnd, evOr, tst, Mi.Tm.args, Mi.Tm.arg, Mi.Tm.dn, mkTm, Pr.fresh, maskE, Cn.pv, Mi.Tm.pars, Mi.Tm.par, ioSlots, lendT, callT, ioFree, afterCall, Mi.Tm.lent, giveBack, evMu, Mu.recv, Pr.recv, PV.tag, canSet, Sl.free, List.range_succ, Mi.Tm.walk, seqOf, bindS, bindT, Tg.is, wipeE, backE, unlock, Wk.ios, Mi.Tm.pureOk, ioPure, parT, evH, evHs, e1])]
  simp [D, lcnt, R.of_some, R.of_none, Wk.chk, evSs, evS, evE, evEs, evAnd, evOr, tst, Mi.Tm.args, Mi.Tm.arg, Mi.Tm.dn, mkTm, Pr.fresh, maskE, Cn.pv, Mi.Tm.pars, Mi.Tm.par, ioSlots, lendT, callT, ioFree, afterCall, Mi.Tm.lent, giveBack, evMu, Mu.recv, Pr.recv, PV.tag, canSet, Sl.free, List.range_succ, Mi.Tm.walk, seqOf, bindS, bindT, Tg.is, wipeE, backE, unlock, Wk.ios, Mi.Tm.pureOk, ioPure, parT, evH, evHs, lines0, Function.comp_def]
theorem new_len : ∀ w ∈ NEW, w.length ≤ 7 := by decide +kernel
theorem new_ix (i : Nat) (h : i < 14) : ∃ w, w.length ≤ 7 ∧ evP .ix [.lst (SS NEW), .int (i : Int)] = some (.str w) := by
  have hl : i < (SS NEW).length := by simpa [NEW] using h
  refine ⟨NEW[i]'(by simpa [NEW] using h), new_len _ (List.getElem_mem _), ?_⟩
  rw [ev_ix_lst hl]
  simp [SS]
theorem mod_pos (r : Int) {m : Nat} (hm : 0 < m) : ∃ i : Nat, i < m ∧ evP .mod [.int r, .int (m : Int)] = some (.int (i : Int)) := by
  have i0 := Int.emod_nonneg r (b := (m : Int)) (by omega)
  have i1 := Int.emod_lt_of_pos r (b := (m : Int)) (by omega)
  refine ⟨(r % (m : Int)).toNat, by omega, ?_⟩
  rw [ev_mod_int (by omega), Int.toNat_of_nonneg i0]
theorem changed_ok (n : Nat) (hn : 2 ≤ n) (xs : List Int) (h : NN xs) (T : Str) (hT : T.length ≤ 100000) : ∃ (T' : Str) (ys : List Int), T'.length ≤ 4 * T.length + 30 ∧ NN ys ∧ evF D n ._law_changed [.v (.str T), PK xs] = .ret (.v (.str T')) [.u, PK ys] := by
  obtain ⟨n, rfl⟩ : ∃ m, n = m + 1 := ⟨n - 1, by omega⟩
  have hs := LS_lines0 T
  have hne : ∀ l ∈ lines0 T, l ≠ [] := fun l m => by
    obtain ⟨k, _, rfl⟩ := List.mem_map.mp m
    exact split_b k
  have h0 : 0 < (lines0 T).length := by unfold lines0; rw [List.length_map]; exact List.length_pos_iff.mpr (split_n T)
  have c := fun P s2 => ch_lines (evF D n) T (by omega) P s2 .u .u .u .u
  generalize lines0 T = ls at *
  obtain ⟨r1, y1, a1, b1, e1⟩ := pick_ok n (by omega) xs h
  obtain ⟨r2, y2, a2, b2, e2⟩ := pick_ok n (by omega) y1 b1
  obtain ⟨r3, y3, a3, b3, e3⟩ := pick_ok n (by omega) y2 b2
  obtain ⟨r4, y4, a4, b4, e4⟩ := pick_ok n (by omega) y3 b3
  obtain ⟨a, ha, m1⟩ := mod_pos r1 h0
  have hl0 : 0 < ls[a].length := List.length_pos_iff.mpr (hne _ (List.getElem_mem ha))
  obtain ⟨j, hj, m2⟩ := mod_pos r2 hl0
  obtain ⟨i, hi, m3⟩ := mod_pos r3 (show 0 < 14 by decide)
  obtain ⟨q, hq, m4⟩ := mod_pos r4 (show 0 < 6 by decide)
  have m3 : evP .mod [.int r3, .int 14] = some (.int (i : Int)) := m3
  have m4 : evP .mod [.int r4, .int 6] = some (.int (q : Int)) := m4
  obtain ⟨w, hw, ew⟩ := new_ix i hi
  have l14 : 14 ≤ lim := le_lim' (by omega)
  have gl : evP .len [.lst (ls.map LL)] = some (.int (ls.length : Int)) := by rw [ev_len_lst, List.length_map]
  have ga : evP .ix [.lst (ls.map LL), .int (a : Int)] = some (LL ls[a]) := by rw [ev_ix_lst (by simpa using ha)]; simp
  have gll : evP .len [LL ls[a]] = some (.int (ls[a].length : Int)) := by rw [ev_len_lst, List.length_map]
  obtain ⟨ls', s1, em⟩ : ∃ ls', LS ls' ≤ 2 * LS ls + 20 ∧ evS (evF D n) [1] (cs 6) [.v (.str T), PK y4, .o 0 (.lst (ls.map LL)), .v (LL ls[a]), .v (.int (a : Int)), .v (.int (j : Int)), .v (.str w), .v (.int (q : Int))] = .ok .nx [.v (.str T), PK y4, .o 0 (.lst (ls'.map LL)), .v (LL ls[a]), .v (.int (a : Int)), .v (.int (j : Int)), .v (.str w), .v (.int (q : Int))] := by
    by_cases h4 : q < 4
    · exact mid_lo (evF D n) (.v (.str T)) (PK y4) ls (by omega) a ha j w hw q h4
    · exact mid_hi (evF D n) (.v (.str T)) (PK y4) ls (by omega) a ha j w hw q (by omega)
  obtain ⟨ρ, ee, em2⟩ := ch_end (evF D n) (.v (.str T)) (PK y4) (.v (.int (a : Int))) (.v (.int (j : Int))) (.v (.str w)) (.v (.int (q : Int))) (LL ls[a]) ls' (by omega)
  refine ⟨TX ls', y4, by have := tx_len ls'; omega, b4, ?_⟩
  refine evF_s rfl ?_
  rw [c_eq]
  have cc : cs 0 = .asg 2 _law_changed_c1 := rfl
  have f0 : evS (evF D n) [1] (cs 0) [.v (.str T), PK xs, .u, .u, .u, .u, .u, .u] = .ok .nx [.v (.str T), PK xs, .o 0 (.lst (ls.map LL)), .u, .u, .u, .u, .u] := by
    rw [cc]
    have c := c (PK xs) .u
    generalize ls.map LL = V at *
    simp [D, lcnt, R.of_some, R.of_none, Wk.chk, evSs, evS, evE, evEs, evAnd, evOr, tst, Mi.Tm.args, Mi.Tm.arg, Mi.Tm.dn, mkTm, Pr.fresh, maskE, Cn.pv, Mi.Tm.pars, Mi.Tm.par, ioSlots, lendT, callT, ioFree, afterCall, Mi.Tm.lent, giveBack, evMu, Mu.recv, Pr.recv, PV.tag, canSet, Sl.free, List.range_succ, Mi.Tm.walk, seqOf, bindS, bindT, Tg.is, wipeE, backE, unlock, Wk.ios, Mi.Tm.pureOk, ioPure, parT, evH, evHs, c]
  have c1 : cs 1 = .asg 4 (.pr .mod [(.call ._law_pick [(.io 1)]), (.pr .len [(.var 2)])]) := rfl
  have f1 : evS (evF D n) [1] (cs 1) [.v (.str T), PK xs, .o 0 (.lst (ls.map LL)), .u, .u, .u, .u, .u] = .ok .nx [.v (.str T), PK y1, .o 0 (.lst (ls.map LL)), .u, .v (.int (a : Int)), .u, .u, .u] := by
    rw [c1]
    generalize ls.map LL = V at *
    simp [D, lcnt, R.of_some, R.of_none, Wk.chk, evSs, evS, evE, evEs, evAnd, evOr, tst, Mi.Tm.args, Mi.Tm.arg, Mi.Tm.dn, mkTm, Pr.fresh, maskE, Cn.pv, Mi.Tm.pars, Mi.Tm.par, ioSlots, lendT, callT, ioFree, afterCall, Mi.Tm.lent, giveBack, evMu, Mu.recv, Pr.recv, PV.tag, canSet, Sl.free, List.range_succ, Mi.Tm.walk, seqOf, bindS, bindT, Tg.is, wipeE, backE, unlock, Wk.ios, Mi.Tm.pureOk, ioPure, parT, evH, evHs, e1, gl, m1, -ev_len_lst]
  have c2 : cs 2 = .asg 3 (.pr .ix [(.var 2), (.var 4)]) := rfl
  have f2 : evS (evF D n) [1] (cs 2) [.v (.str T), PK y1, .o 0 (.lst (ls.map LL)), .u, .v (.int (a : Int)), .u, .u, .u] = .ok .nx [.v (.str T), PK y1, .o 0 (.lst (ls.map LL)), .v (LL ls[a]), .v (.int (a : Int)), .u, .u, .u] := by
    rw [c2]
    generalize ls.map LL = V at *
    obtain ⟨X, hX⟩ : ∃ X, LL ls[a] = .lst X := ⟨_, rfl⟩
    rw [hX] at ga ⊢
    simp [D, lcnt, R.of_some, R.of_none, Wk.chk, evSs, evS, evE, evEs, evAnd, evOr, tst, Mi.Tm.args, Mi.Tm.arg, Mi.Tm.dn, mkTm, Pr.fresh, maskE, Cn.pv, Mi.Tm.pars, Mi.Tm.par, ioSlots, lendT, callT, ioFree, afterCall, Mi.Tm.lent, giveBack, evMu, Mu.recv, Pr.recv, PV.tag, canSet, Sl.free, List.range_succ, Mi.Tm.walk, seqOf, bindS, bindT, Tg.is, wipeE, backE, unlock, Wk.ios, Mi.Tm.pureOk, ioPure, parT, evH, evHs, ga]
  have c3 : cs 3 = .asg 5 (.pr .mod [(.call ._law_pick [(.io 1)]), (.pr .len [(.var 3)])]) := rfl
  have f3 : evS (evF D n) [1] (cs 3) [.v (.str T), PK y1, .o 0 (.lst (ls.map LL)), .v (LL ls[a]), .v (.int (a : Int)), .u, .u, .u] = .ok .nx [.v (.str T), PK y2, .o 0 (.lst (ls.map LL)), .v (LL ls[a]), .v (.int (a : Int)), .v (.int (j : Int)), .u, .u] := by
    rw [c3]
    generalize ls.map LL = V at *
    obtain ⟨X, hX⟩ : ∃ X, LL ls[a] = .lst X := ⟨_, rfl⟩
    rw [hX] at gll ⊢
    simp [D, lcnt, R.of_some, R.of_none, Wk.chk, evSs, evS, evE, evEs, evAnd, evOr, tst, Mi.Tm.args, Mi.Tm.arg, Mi.Tm.dn, mkTm, Pr.fresh, maskE, Cn.pv, Mi.Tm.pars, Mi.Tm.par, ioSlots, lendT, callT, ioFree, afterCall, Mi.Tm.lent, giveBack, evMu, Mu.recv, Pr.recv, PV.tag, canSet, Sl.free, List.range_succ, Mi.Tm.walk, seqOf, bindS, bindT, Tg.is, wipeE, backE, unlock, Wk.ios, Mi.Tm.pureOk, ioPure, parT, evH, evHs, e2, gll, m2, -ev_len_lst]
  have f4 : evS (evF D n) [1] (cs 4) [.v (.str T), PK y2, .o 0 (.lst (ls.map LL)), .v (LL ls[a]), .v (.int (a : Int)), .v (.int (j : Int)), .u, .u] = .ok .nx [.v (.str T), PK y3, .o 0 (.lst (ls.map LL)), .v (LL ls[a]), .v (.int (a : Int)), .v (.int (j : Int)), .v (.str w), .u] := by
    have cc : cs 4 = b__law_changed.getD 4 .nev := rfl
    generalize ls.map LL = V at *
    obtain ⟨X, hX⟩ : ∃ X, LL ls[a] = .lst X := ⟨_, rfl⟩
    rw [hX]
    simp only [NEW, SS, List.map_cons, List.map_nil] at ew
    simp [D, lcnt, R.of_some, R.of_none, Wk.chk, evSs, evS, evE, evEs, evAnd, evOr, tst, Mi.Tm.args, Mi.Tm.arg, Mi.Tm.dn, mkTm, Pr.fresh, maskE, Cn.pv, Mi.Tm.pars, Mi.Tm.par, ioSlots, lendT, callT, ioFree, afterCall, Mi.Tm.lent, giveBack, evMu, Mu.recv, Pr.recv, PV.tag, canSet, Sl.free, List.range_succ, Mi.Tm.walk, seqOf, bindS, bindT, Tg.is, wipeE, backE, unlock, Wk.ios, Mi.Tm.pureOk, ioPure, parT, evH, evHs, cc, b__law_changed, e3, m3, ew, l14]
  have c5 : cs 5 = .asg 7 (.pr .mod [(.call ._law_pick [(.io 1)]), (.c (.int 6))]) := rfl
  have f5 : evS (evF D n) [1] (cs 5) [.v (.str T), PK y3, .o 0 (.lst (ls.map LL)), .v (LL ls[a]), .v (.int (a : Int)), .v (.int (j : Int)), .v (.str w), .u] = .ok .nx [.v (.str T), PK y4, .o 0 (.lst (ls.map LL)), .v (LL ls[a]), .v (.int (a : Int)), .v (.int (j : Int)), .v (.str w), .v (.int (q : Int))] := by
    rw [c5]
    generalize ls.map LL = V at *
    obtain ⟨X, hX⟩ : ∃ X, LL ls[a] = .lst X := ⟨_, rfl⟩
    rw [hX]
    simp [D, lcnt, R.of_some, R.of_none, Wk.chk, evSs, evS, evE, evEs, evAnd, evOr, tst, Mi.Tm.args, Mi.Tm.arg, Mi.Tm.dn, mkTm, Pr.fresh, maskE, Cn.pv, Mi.Tm.pars, Mi.Tm.par, ioSlots, lendT, callT, ioFree, afterCall, Mi.Tm.lent, giveBack, evMu, Mu.recv, Pr.recv, PV.tag, canSet, Sl.free, List.range_succ, Mi.Tm.walk, seqOf, bindS, bindT, Tg.is, wipeE, backE, unlock, Wk.ios, Mi.Tm.pureOk, ioPure, parT, evH, evHs, e4, m4]
  have ios : (D ._law_changed).ios = [1] := rfl
  have np : (D ._law_changed).np = 2 := rfl
  have nl : (D ._law_changed).nl = 6 := rfl
  rw [ios, np, nl]
  have ini : ([.v (.str T), PK xs] ++ List.replicate 6 Sl.u : List Sl) = [.v (.str T), PK xs, .u, .u, .u, .u, .u, .u] := rfl
  rw [ini]
  simp only [evSs, f0, f1, f2, f3, f4, f5, em, ee, R.bd_ok]
  rw [em2]
end Lw

set_option Elab.async false
set_option linter.all false
set_option maxRecDepth 100000
set_option maxHeartbeats 400000
set_option pp.maxSteps 600
namespace Lw
open PySem Mi
/-! ### one text -/
def B3 : List (Sm Fn) := match law_s3 with | .for _ _ b => b | _ => []
def tb (i : Nat) : Sm Fn := B3.getD i .nev
theorem b3_eq : B3 = [tb 0, tb 1, tb 2, tb 3] := rfl
def nilB : Rl → Bool
  | .jn ps => decide ([] ∈ ps)
  | _ => false
theorem STs_ok (ps : List (List Str)) : (ps.map Mi.ST).all PV.eqOk = true := by
  rw [List.all_eq_true]
  intro p m
  obtain ⟨q, _, rfl⟩ := List.mem_map.mp m
  exact sim_eqOk (sim_ST q)
theorem nil_ok : (PV.tup []).eqOk = true := sim_eqOk (sim_ST [])
theorem any_nil (ps : List (List Str)) : (ps.map Mi.ST).any (fun y => pvEq y (.tup [])) = decide ([] ∈ ps) := by
  induction ps with
  | nil => rfl
  | cons p ps ih =>
    have e0 : pvEq (Mi.ST p) (.tup []) = decide (Mi.ST p = PV.tup []) := pvEq_sim (sim_ST p) (sim_ST [])
    rw [List.map_cons, List.any_cons, ih, e0]
    have : decide (Mi.ST p = PV.tup []) = decide (p = []) := by cases p <;> simp [Mi.ST, SS]
    rw [this]
    by_cases h : p = []
    · simp [h]
    · simp [h, Ne.symm h]
theorem ev_nil_lst (ps : List (List Str)) : evP .isIn [.tup [], .lst (ps.map Mi.ST)] = some (.bl (decide ([] ∈ ps))) := by
  have e : pIn (.tup []) (.lst (ps.map Mi.ST)) = some (decide ([] ∈ ps)) := by
    simp only [pIn, STs_ok, Bool.and_true]
    rw [if_pos nil_ok, any_nil]
  simp only [evP, two, e, Option.map_some]
theorem ev_nil_tup (ps : List (List Str)) : evP .isIn [.tup [], .tup (ps.map Mi.ST)] = some (.bl (decide ([] ∈ ps))) := by
  have e : pIn (.tup []) (.tup (ps.map Mi.ST)) = some (decide ([] ∈ ps)) := by
    simp only [pIn, STs_ok, Bool.and_true]
    rw [if_pos nil_ok, any_nil]
  simp only [evP, two, e, Option.map_some]
theorem bare_ok (call : Fn → List Sl → CR) (S s1 s2 s3 s4 s5 s6 s7 s8 s10 : Sl) (cols : List Str) (rs : List Rl) (hr : rs.length ≤ lim) : evE call law_c1 [S, s1, s2, s3, s4, s5, s6, s7, s8, .v (WB cols rs), s10, .u] = .ok (.o 0 (.lst ((rs.filter nilB).map Rl.pv))) [S, s1, s2, s3, s4, s5, s6, s7, s8, .v (WB cols rs), s10, .u] := by
  unfold WB
  simp [D, lcnt, R.of_some, R.of_none, Wk.chk, evSs, evS, evE, evEs, evAnd, evOr, tst, Mi.Tm.args, Mi.Tm.arg, Mi.Tm.dn, mkTm, Pr.fresh, maskE, Cn.pv, Mi.Tm.pars, Mi.Tm.par, ioSlots, lendT, callT, ioFree, afterCall, Mi.Tm.lent, giveBack, evMu, Mu.recv, Pr.recv, PV.tag, canSet, Sl.free, List.range_succ, Mi.Tm.walk, seqOf, bindS, bindT, Tg.is, wipeE, backE, unlock, Wk.ios, Mi.Tm.pureOk, ioPure, parT, evH, evHs, law_c1]
  rw [lcL_filtL nilB Rl.pv hr (by simp [D, lcnt, R.of_some, R.of_none, Wk.chk, evSs, evS, evE, evEs, evAnd, evOr, tst, Mi.Tm.args, Mi.Tm.arg, Mi.Tm.dn, mkTm, Pr.fresh, maskE, Cn.pv, Mi.Tm.pars, Mi.Tm.par, ioSlots, lendT, callT, ioFree, afterCall, Mi.Tm.lent, giveBack, evMu, Mu.recv, Pr.recv, PV.tag, canSet, Sl.free, List.range_succ, Mi.Tm.walk, seqOf, bindS, bindT, Tg.is, wipeE, backE, unlock, Wk.ios, Mi.Tm.pureOk, ioPure, parT, evH, evHs, ]) (fun r m => by
    cases r with
    | tm mm x y =>
      simp only [Rl.pv, nilB]
      simp [D, lcnt, R.of_some, R.of_none, Wk.chk, evSs, evS, evE, evEs, evAnd, evOr, tst, Mi.Tm.args, Mi.Tm.arg, Mi.Tm.dn, mkTm, Pr.fresh, maskE, Cn.pv, Mi.Tm.pars, Mi.Tm.par, ioSlots, lendT, callT, ioFree, afterCall, Mi.Tm.lent, giveBack, evMu, Mu.recv, Pr.recv, PV.tag, canSet, Sl.free, List.range_succ, Mi.Tm.walk, seqOf, bindS, bindT, Tg.is, wipeE, backE, unlock, Wk.ios, Mi.Tm.pureOk, ioPure, parT, evH, evHs, kind_ne mm]
    | jn ps =>
      have e := ev_nil_tup ps
      obtain ⟨b, hb⟩ : ∃ b, decide ([] ∈ ps) = b := ⟨_, rfl⟩
      have hn : nilB (.jn ps) = b := hb
      rw [hb] at e
      simp only [hn]
      simp only [Rl.pv]
      generalize ps.map Mi.ST = PS at *
      cases b <;> simp [D, lcnt, R.of_some, R.of_none, Wk.chk, evSs, evS, evE, evEs, evAnd, evOr, tst, Mi.Tm.args, Mi.Tm.arg, Mi.Tm.dn, mkTm, Pr.fresh, maskE, Cn.pv, Mi.Tm.pars, Mi.Tm.par, ioSlots, lendT, callT, ioFree, afterCall, Mi.Tm.lent, giveBack, evMu, Mu.recv, Pr.recv, PV.tag, canSet, Sl.free, List.range_succ, Mi.Tm.walk, seqOf, bindS, bindT, Tg.is, wipeE, backE, unlock, Wk.ios, Mi.Tm.pureOk, ioPure, parT, evH, evHs, e])]
  simp [D, lcnt, R.of_some, R.of_none, Wk.chk, evSs, evS, evE, evEs, evAnd, evOr, tst, Mi.Tm.args, Mi.Tm.arg, Mi.Tm.dn, mkTm, Pr.fresh, maskE, Cn.pv, Mi.Tm.pars, Mi.Tm.par, ioSlots, lendT, callT, ioFree, afterCall, Mi.Tm.lent, giveBack, evMu, Mu.recv, Pr.recv, PV.tag, canSet, Sl.free, List.range_succ, Mi.Tm.walk, seqOf, bindS, bindT, Tg.is, wipeE, backE, unlock, Wk.ios, Mi.Tm.pureOk, ioPure, parT, evH, evHs, ]
def slOf : Mi.Tm → Sl
  | .v p => .v p
  | .o d p => .o d p
  | _ => .u
def rdS (T : Str) : Sl := slOf (toldV T)
theorem rdS_any (T : Str) : Any (rdS T) := by
  unfold rdS toldV
  cases rd T with
  | inl q => exact .inl (fr_v _)
  | inr q => exact .inr (.inr ⟨_, _, rfl⟩)
def isL : Mi.Tm → Prop
  | .v (.tup _) => True
  | .o 0 (.lst _) => True
  | _ => False
theorem toldV_cases (T : Str) : (∃ zs, toldV T = .v (.tup zs)) ∨ ∃ zs, toldV T = .o 0 (.lst zs) := by
  unfold toldV
  cases rd T with
  | inl q => exact .inl ⟨_, rfl⟩
  | inr q => exact .inr ⟨_, rfl⟩
section
variable (n : Nat) (hn : 8 ≤ n) (S s1 s2 s3 s4 s5 s6 s7 s9 s10 : Sl) (T : Str) (hT : T.length ≤ 100000)
include hn hT
theorem t0 (h9 : Any s9) : evS (evF D n) [4] (tb 0) [S, s1, s2, s3, s4, s5, s6, s7, .v (.str T), s9, s10, .u] = .ok .nx [S, s1, s2, s3, s4, s5, s6, s7, .v (.str T), rdS T, s10, .u] := by
  have e1 := law_read_g n (by omega) T (by omega)
  unfold rdS
  have cc : tb 0 = .asg 9 (.call ._law_read [(.var 8)]) := rfl
  rw [cc]
  rcases toldV_cases T with ⟨zs, h⟩ | ⟨zs, h⟩ <;> (rw [h] at e1 ⊢; rcases any_cases h9 with rfl | ⟨_, rfl⟩ | ⟨_, _, rfl⟩ <;> simp [D, lcnt, R.of_some, R.of_none, Wk.chk, evSs, evS, evE, evEs, evAnd, evOr, tst, Mi.Tm.args, Mi.Tm.arg, Mi.Tm.dn, mkTm, Pr.fresh, maskE, Cn.pv, Mi.Tm.pars, Mi.Tm.par, ioSlots, lendT, callT, ioFree, afterCall, Mi.Tm.lent, giveBack, evMu, Mu.recv, Pr.recv, PV.tag, canSet, Sl.free, List.range_succ, Mi.Tm.walk, seqOf, bindS, bindT, Tg.is, wipeE, backE, unlock, Wk.ios, Mi.Tm.pureOk, ioPure, parT, evH, evHs, e1, slOf])
theorem t1 (h10 : Any s10) : evS (evF D n) [4] (tb 1) [S, s1, s2, s3, s4, s5, s6, s7, .v (.str T), s9, s10, .u] = .ok .nx [S, s1, s2, s3, s4, s5, s6, s7, .v (.str T), s9, rdS T, .u] := by
  have e2 := told_g n (by omega) T (by omega)
  unfold rdS
  have cc : tb 1 = .asg 10 (.call ._law_told [(.var 8)]) := rfl
  rw [cc]
  rcases toldV_cases T with ⟨zs, h⟩ | ⟨zs, h⟩ <;> (rw [h] at e2 ⊢; rcases any_cases h10 with rfl | ⟨_, rfl⟩ | ⟨_, _, rfl⟩ <;> simp [D, lcnt, R.of_some, R.of_none, Wk.chk, evSs, evS, evE, evEs, evAnd, evOr, tst, Mi.Tm.args, Mi.Tm.arg, Mi.Tm.dn, mkTm, Pr.fresh, maskE, Cn.pv, Mi.Tm.pars, Mi.Tm.par, ioSlots, lendT, callT, ioFree, afterCall, Mi.Tm.lent, giveBack, evMu, Mu.recv, Pr.recv, PV.tag, canSet, Sl.free, List.range_succ, Mi.Tm.walk, seqOf, bindS, bindT, Tg.is, wipeE, backE, unlock, Wk.ios, Mi.Tm.pureOk, ioPure, parT, evH, evHs, e2, slOf])
theorem t2 : evS (evF D n) [4] (tb 2) [S, s1, s2, s3, s4, s5, s6, s7, .v (.str T), rdS T, rdS T, .u] = .ok .nx [S, s1, s2, s3, s4, s5, s6, s7, .v (.str T), rdS T, rdS T, .u] := by
  unfold rdS toldV
  have cc : tb 2 = .ite (.not (.call ._law_same [(.var 10), (.var 9)])) [.ret (.c (.bl false))] [] := rfl
  rw [cc]
  cases h : rd T with
  | inr q =>
    obtain ⟨a, b⟩ := q
    have sm := same_ok 1 n (.lst [.int (a : Int), .int (b : Int)]) (by simp [PV.dep, deps]) (by simp [okV, okVs]) (by omega) (.v (.lst [.int (a : Int), .int (b : Int)])) (.v (.lst [.int (a : Int), .int (b : Int)])) (.inl rfl) (.inl rfl)
    simp [D, lcnt, R.of_some, R.of_none, Wk.chk, evSs, evS, evE, evEs, evAnd, evOr, tst, Mi.Tm.args, Mi.Tm.arg, Mi.Tm.dn, mkTm, Pr.fresh, maskE, Cn.pv, Mi.Tm.pars, Mi.Tm.par, ioSlots, lendT, callT, ioFree, afterCall, Mi.Tm.lent, giveBack, evMu, Mu.recv, Pr.recv, PV.tag, canSet, Sl.free, List.range_succ, Mi.Tm.walk, seqOf, bindS, bindT, Tg.is, wipeE, backE, unlock, Wk.ios, Mi.Tm.pureOk, ioPure, parT, evH, evHs, sm, slOf, PV.pure]
  | inl q =>
    obtain ⟨cols, rs⟩ := q
    obtain ⟨m1, m2, m3⟩ := rd_mid (by omega) h
    have sm := same_ok 5 n (WB cols rs) (dep_book _ _) (ok_book m1 m2 m3) (by omega) (.v (WB cols rs)) (.v (WB cols rs)) (.inl rfl) (.inl rfl)
    unfold WB at *
    simp only [slOf]
    generalize rs.map Rl.pv = RS at *
    simp [D, lcnt, R.of_some, R.of_none, Wk.chk, evSs, evS, evE, evEs, evAnd, evOr, tst, Mi.Tm.args, Mi.Tm.arg, Mi.Tm.dn, mkTm, Pr.fresh, maskE, Cn.pv, Mi.Tm.pars, Mi.Tm.par, ioSlots, lendT, callT, ioFree, afterCall, Mi.Tm.lent, giveBack, evMu, Mu.recv, Pr.recv, PV.tag, canSet, Sl.free, List.range_succ, Mi.Tm.walk, seqOf, bindS, bindT, Tg.is, wipeE, backE, unlock, Wk.ios, Mi.Tm.pureOk, ioPure, parT, evH, evHs, sm]
theorem t3 : evS (evF D n) [4] (tb 3) [S, s1, s2, s3, s4, s5, s6, s7, .v (.str T), rdS T, rdS T, .u] = .ok .nx [S, s1, s2, s3, s4, s5, s6, s7, .v (.str T), rdS T, rdS T, .u] := by
  have e2 := told_g n (by omega) T (by omega)
  have cc : tb 3 = .ite (.and [(.pr (.isi .tuple) [(.var 9)]), (.pr .eq [(.pr .len [law_c1]), (.c (.int 0))])]) [.ite (.not (.call ._law_same [(.call ._law_told [(.call .book_text [(.pr .ix [(.var 10), (.c (.int 0))]), (.pr .ix [(.var 10), (.c (.int 1))])])]), (.var 9)])) [.ret (.c (.bl false))] []] [] := rfl
  rw [cc]
  unfold rdS
  unfold toldV at *
  cases h : rd T with
  | inr q =>
    obtain ⟨a, b⟩ := q
    simp [D, lcnt, R.of_some, R.of_none, Wk.chk, evSs, evS, evE, evEs, evAnd, evOr, tst, Mi.Tm.args, Mi.Tm.arg, Mi.Tm.dn, mkTm, Pr.fresh, maskE, Cn.pv, Mi.Tm.pars, Mi.Tm.par, ioSlots, lendT, callT, ioFree, afterCall, Mi.Tm.lent, giveBack, evMu, Mu.recv, Pr.recv, PV.tag, canSet, Sl.free, List.range_succ, Mi.Tm.walk, seqOf, bindS, bindT, Tg.is, wipeE, backE, unlock, Wk.ios, Mi.Tm.pureOk, ioPure, parT, evH, evHs, slOf]
  | inl q =>
    obtain ⟨cols, rs⟩ := q
    rw [h] at e2
    simp only at e2 ⊢
    obtain ⟨m1, m2, m3⟩ := rd_mid (by omega) h
    have sm := same_ok 5 n (WB cols rs) (dep_book _ _) (ok_book m1 m2 m3) (by omega) (.v (WB cols rs)) (.v (WB cols rs)) (.inl rfl) (.inl rfl)
    have bo := bare_ok (evF D n) S s1 s2 s3 s4 s5 s6 s7 (.v (.str T)) (.v (WB cols rs)) cols rs (le_lim' (by omega))
    have el : evP .len [.lst ((rs.filter nilB).map Rl.pv)] = some (.int ((rs.filter nilB).length : Int)) := by rw [ev_len_lst, List.length_map]
    have tx : rs.filter nilB = [] → evF D n .book_text [.v (Mi.ST cols), .v (.tup (rs.map Rl.pv))] = .ret (.v (.str T)) [.u, .u] := fun h0 => by
      have hnil : ∀ r ∈ rs, noNil r = true := by
        intro r m
        have := List.filter_eq_nil_iff.mp h0 r m
        cases r with
        | tm => rfl
        | jn ps => simpa [nilB, noNil] using this
      have := book_text_b n (by omega) cols rs (rd_fits (by omega) h hnil)
      rw [rd_text h hnil] at this
      exact this
    have hl : rs.filter nilB ≠ [] → (rs.filter nilB).length ≠ 0 := fun h0 e => h0 (List.length_eq_zero_iff.mp e)
    unfold WB at *
    by_cases h0 : rs.filter nilB = []
    · have tx := tx h0
      rw [h0] at bo
      simp only [slOf]
      generalize rs.map Rl.pv = RS at *
      simp [D, lcnt, R.of_some, R.of_none, Wk.chk, evSs, evS, evE, evEs, evAnd, evOr, tst, Mi.Tm.args, Mi.Tm.arg, Mi.Tm.dn, mkTm, Pr.fresh, maskE, Cn.pv, Mi.Tm.pars, Mi.Tm.par, ioSlots, lendT, callT, ioFree, afterCall, Mi.Tm.lent, giveBack, evMu, Mu.recv, Pr.recv, PV.tag, canSet, Sl.free, List.range_succ, Mi.Tm.walk, seqOf, bindS, bindT, Tg.is, wipeE, backE, unlock, Wk.ios, Mi.Tm.pureOk, ioPure, parT, evH, evHs, e2, sm, bo, tx]
    · have hl := hl h0
      simp only [slOf]
      generalize (rs.filter nilB).length = L at *
      generalize (rs.filter nilB).map Rl.pv = R2 at *
      generalize rs.map Rl.pv = RS at *
      simp [D, lcnt, R.of_some, R.of_none, Wk.chk, evSs, evS, evE, evEs, evAnd, evOr, tst, Mi.Tm.args, Mi.Tm.arg, Mi.Tm.dn, mkTm, Pr.fresh, maskE, Cn.pv, Mi.Tm.pars, Mi.Tm.par, ioSlots, lendT, callT, ioFree, afterCall, Mi.Tm.lent, giveBack, evMu, Mu.recv, Pr.recv, PV.tag, canSet, Sl.free, List.range_succ, Mi.Tm.walk, seqOf, bindS, bindT, Tg.is, wipeE, backE, unlock, Wk.ios, Mi.Tm.pureOk, ioPure, parT, evH, evHs, e2, sm, bo, el, hl, -ev_len_lst]
theorem one_ok (h9 : Any s9) (h10 : Any s10) : evSs (evF D n) [4] B3 [S, s1, s2, s3, s4, s5, s6, s7, .v (.str T), s9, s10, .u] = .ok .nx [S, s1, s2, s3, s4, s5, s6, s7, .v (.str T), rdS T, rdS T, .u] := by
  rw [b3_eq]
  simp only [evSs, t0 n hn S s1 s2 s3 s4 s5 s6 s7 s9 s10 T hT h9, t1 n hn S s1 s2 s3 s4 s5 s6 s7 (rdS T) s10 T hT h10, t2 n hn S s1 s2 s3 s4 s5 s6 s7 T hT, t3 n hn S s1 s2 s3 s4 s5 s6 s7 T hT, R.bd_ok]
end
end Lw

set_option Elab.async false
set_option linter.all false
set_option maxRecDepth 100000
set_option maxHeartbeats 1000000
set_option pp.maxSteps 600
namespace Lw
open PySem Mi
/-! ### the law -/
def Le (B : Nat) (ts : List Str) : Prop := ∀ t ∈ ts, t.length ≤ B
theorem s3_ok (n : Nat) (hn : 8 ≤ n) (S s1 s2 s3 s5 s6 s7 : Sl) (ts : List Str) (ht : Le 100000 ts) : ∃ ρ, evS (evF D n) [] law_s3 [S, s1, s2, s3, .o 0 (.lst (SS ts)), s5, s6, s7, .u, .u, .u, .u] = .ok .nx ρ ∧ ∃ s4 s8 s9 s10, ρ = [S, s1, s2, s3, s4, s5, s6, s7, s8, s9, s10, .u] := by
  have hs : law_s3 = .for (.n 8) (.var 4) B3 := rfl
  rw [hs]
  obtain ⟨bd, hbd⟩ : ∃ b, b = B3 := ⟨_, rfl⟩
  rw [← hbd]
  simp [D, lcnt, R.of_some, R.of_none, Wk.chk, evSs, evS, evE, evEs, evAnd, evOr, tst, Mi.Tm.args, Mi.Tm.arg, Mi.Tm.dn, mkTm, Pr.fresh, maskE, Cn.pv, Mi.Tm.pars, Mi.Tm.par, ioSlots, lendT, callT, ioFree, afterCall, Mi.Tm.lent, giveBack, evMu, Mu.recv, Pr.recv, PV.tag, canSet, Sl.free, List.range_succ, Mi.Tm.walk, seqOf, bindS, bindT, Tg.is, wipeE, backE, unlock, Wk.ios, Mi.Tm.pureOk, ioPure, parT, evH, evHs, ]
  generalize hF : forL _ _ _ _ = F
  obtain ⟨ρ', rfl, s8, s9, s10, h8, h9, h10, rfl⟩ : ∃ ρ', F = .ok .nx ρ' ∧ ∃ s8 s9 s10, Fr s8 ∧ Any s9 ∧ Any s10 ∧ ρ' = [S, s1, s2, s3, .l 0 (.lst (SS ts)), s5, s6, s7, s8, s9, s10, .u] := by
    rw [← hF]
    refine forL_inv (fun ρ => ∃ s8 s9 s10, Fr s8 ∧ Any s9 ∧ Any s10 ∧ ρ = [S, s1, s2, s3, .l 0 (.lst (SS ts)), s5, s6, s7, s8, s9, s10, .u]) ⟨_, _, _, fr_u, .inl fr_u, .inl fr_u, rfl⟩ (fun ρ ⟨s8, s9, s10, _, _, _, e⟩ => by subst e; simp [D, lcnt, R.of_some, R.of_none, Wk.chk, evSs, evS, evE, evEs, evAnd, evOr, tst, Mi.Tm.args, Mi.Tm.arg, Mi.Tm.dn, mkTm, Pr.fresh, maskE, Cn.pv, Mi.Tm.pars, Mi.Tm.par, ioSlots, lendT, callT, ioFree, afterCall, Mi.Tm.lent, giveBack, evMu, Mu.recv, Pr.recv, PV.tag, canSet, Sl.free, List.range_succ, Mi.Tm.walk, seqOf, bindS, bindT, Tg.is, wipeE, backE, unlock, Wk.ios, Mi.Tm.pureOk, ioPure, parT, evH, evHs, ]) fun T m ρ ⟨s8, s9, s10, h8, h9, h10, e⟩ => ?_
    subst e
    have e := one_ok n hn S s1 s2 s3 (.l 0 (.lst (SS ts))) s5 s6 s7 s9 s10 T (ht T m) h9 h10
    rw [← hbd] at e
    generalize SS ts = W at *
    refine ⟨_, ?_, .v (.str T), rdS T, rdS T, fr_v _, rdS_any T, rdS_any T, rfl⟩
    rcases h8 with rfl | ⟨_, rfl⟩ <;> simp [D, lcnt, R.of_some, R.of_none, Wk.chk, evSs, evS, evE, evEs, evAnd, evOr, tst, Mi.Tm.args, Mi.Tm.arg, Mi.Tm.dn, mkTm, Pr.fresh, maskE, Cn.pv, Mi.Tm.pars, Mi.Tm.par, ioSlots, lendT, callT, ioFree, afterCall, Mi.Tm.lent, giveBack, evMu, Mu.recv, Pr.recv, PV.tag, canSet, Sl.free, List.range_succ, Mi.Tm.walk, seqOf, bindS, bindT, Tg.is, wipeE, backE, unlock, Wk.ios, Mi.Tm.pureOk, ioPure, parT, evH, evHs, e]
  exact ⟨[S, s1, s2, s3, .o 0 (.lst (SS ts)), s5, s6, s7, s8, s9, s10, .u], by simp [D, lcnt, R.of_some, R.of_none, Wk.chk, evSs, evS, evE, evEs, evAnd, evOr, tst, Mi.Tm.args, Mi.Tm.arg, Mi.Tm.dn, mkTm, Pr.fresh, maskE, Cn.pv, Mi.Tm.pars, Mi.Tm.par, ioSlots, lendT, callT, ioFree, afterCall, Mi.Tm.lent, giveBack, evMu, Mu.recv, Pr.recv, PV.tag, canSet, Sl.free, List.range_succ, Mi.Tm.walk, seqOf, bindS, bindT, Tg.is, wipeE, backE, unlock, Wk.ios, Mi.Tm.pureOk, ioPure, parT, evH, evHs, ], _, _, _, _, rfl⟩
theorem s1_ok (n : Nat) (hn : 2 ≤ n) (S s1 s2 s4 s7 s8 s9 s10 s11 : Sl) (k : Nat) (xs : List Int) (hx : NN xs) (T : Str) (hT : T.length ≤ 1300) (h7 : Fr s7) :
    ∃ (T' : Str) (ys : List Int) (s : Sl), T'.length ≤ 25000 ∧ NN ys ∧ Fr s ∧ evS (evF D n) [] law_s1 [S, s1, s2, PK xs, s4, .v (.int (k : Int)), .v (.str T), s7, s8, s9, s10, s11] = .ok .nx [S, s1, s2, PK ys, s4, .v (.int (k : Int)), .v (.str T'), s, s8, s9, s10, s11] := by
  obtain ⟨m, hm, em⟩ := mod_pos (k : Int) (show 0 < 3 by decide)
  have em : evP .mod [.int (k : Int), .int 3] = some (.int (m : Int)) := em
  have er := range_from0 (n := m) (by omega)
  obtain ⟨I, hI⟩ : ∃ I : List PV → Evn → Prop, I = fun pre ρ => ∃ (T' : Str) (ys : List Int) (s : Sl), (pre.length = 0 → T'.length ≤ 1300) ∧ (pre.length = 1 → T'.length ≤ 5300) ∧ T'.length ≤ 25000 ∧ NN ys ∧ Fr s ∧ ρ = [S, s1, s2, PK ys, s4, .v (.int (k : Int)), .v (.str T'), s, s8, s9, s10, s11] := ⟨_, rfl⟩
  have key : ∃ ρ', evS (evF D n) [] law_s1 [S, s1, s2, PK xs, s4, .v (.int (k : Int)), .v (.str T), s7, s8, s9, s10, s11] = .ok .nx ρ' ∧ I ((List.range m).map fun (i : Nat) => PV.int (i : Int)) ρ' := by
    simp [D, lcnt, R.of_some, R.of_none, Wk.chk, evSs, evS, evE, evEs, evAnd, evOr, tst, Mi.Tm.args, Mi.Tm.arg, Mi.Tm.dn, mkTm, Pr.fresh, maskE, Cn.pv, Mi.Tm.pars, Mi.Tm.par, ioSlots, lendT, callT, ioFree, afterCall, Mi.Tm.lent, giveBack, evMu, Mu.recv, Pr.recv, PV.tag, canSet, Sl.free, List.range_succ, Mi.Tm.walk, seqOf, bindS, bindT, Tg.is, wipeE, backE, unlock, Wk.ios, Mi.Tm.pureOk, ioPure, parT, evH, evHs, law_s1, em, er]
    refine forL_ind I ?_ (fun pre x suf ρ hx hi => ?_) (fun ρ _ => by simp [D, lcnt, R.of_some, R.of_none, Wk.chk, evSs, evS, evE, evEs, evAnd, evOr, tst, Mi.Tm.args, Mi.Tm.arg, Mi.Tm.dn, mkTm, Pr.fresh, maskE, Cn.pv, Mi.Tm.pars, Mi.Tm.par, ioSlots, lendT, callT, ioFree, afterCall, Mi.Tm.lent, giveBack, evMu, Mu.recv, Pr.recv, PV.tag, canSet, Sl.free, List.range_succ, Mi.Tm.walk, seqOf, bindS, bindT, Tg.is, wipeE, backE, unlock, Wk.ios, Mi.Tm.pureOk, ioPure, parT, evH, evHs, ])
    · rw [hI]; exact ⟨T, xs, s7, fun _ => hT, fun _ => by omega, by omega, hx, h7, rfl⟩
    · rw [hI] at hi ⊢
      obtain ⟨T1, y1, s, b0, b1, b2, n1, f1, rfl⟩ := hi
      have lp : pre.length < m := by
        have := congrArg List.length hx
        simp at this
        omega
      have hp : pre.length = 0 ∨ pre.length = 1 := by omega
      obtain ⟨T2, y2, l2, n2, e⟩ := changed_ok n hn y1 n1 T1 (by omega)
      refine ⟨by simp [D, lcnt, R.of_some, R.of_none, Wk.chk, evSs, evS, evE, evEs, evAnd, evOr, tst, Mi.Tm.args, Mi.Tm.arg, Mi.Tm.dn, mkTm, Pr.fresh, maskE, Cn.pv, Mi.Tm.pars, Mi.Tm.par, ioSlots, lendT, callT, ioFree, afterCall, Mi.Tm.lent, giveBack, evMu, Mu.recv, Pr.recv, PV.tag, canSet, Sl.free, List.range_succ, Mi.Tm.walk, seqOf, bindS, bindT, Tg.is, wipeE, backE, unlock, Wk.ios, Mi.Tm.pureOk, ioPure, parT, evH, evHs, ], [S, s1, s2, PK y2, s4, .v (.int (k : Int)), .v (.str T2), .v x, s8, s9, s10, s11], ?_, T2, y2, .v x, (fun q => by simp at q), (fun q => ?_), ?_, n2, fr_v _, rfl⟩
      · rcases f1 with rfl | ⟨_, rfl⟩ <;> simp [D, lcnt, R.of_some, R.of_none, Wk.chk, evSs, evS, evE, evEs, evAnd, evOr, tst, Mi.Tm.args, Mi.Tm.arg, Mi.Tm.dn, mkTm, Pr.fresh, maskE, Cn.pv, Mi.Tm.pars, Mi.Tm.par, ioSlots, lendT, callT, ioFree, afterCall, Mi.Tm.lent, giveBack, evMu, Mu.recv, Pr.recv, PV.tag, canSet, Sl.free, List.range_succ, Mi.Tm.walk, seqOf, bindS, bindT, Tg.is, wipeE, backE, unlock, Wk.ios, Mi.Tm.pureOk, ioPure, parT, evH, evHs, e]
      · have : pre.length = 0 := by simpa using q
        have := b0 this
        omega
      · rcases hp with hp | hp
        · have := b0 hp; omega
        · have := b1 hp; omega
  rw [hI] at key
  obtain ⟨ρ', e, T', ys, s, _, _, b2, n2, f2, rfl⟩ := key
  exact ⟨T', ys, s, b2, n2, f2, e⟩
def B2 : List (Sm Fn) := match law_s2 with | .for _ _ b => b | _ => []
theorem s2_ok (n : Nat) (hn : 2 ≤ n) (S s1 s8 s9 s10 s11 : Sl) (xs : List Int) (hx : NN xs) (T : Str) (hT : T.length ≤ 310) (ts : List Str) (ht : Le 25000 ts) (hl : ts.length ≤ 100) :
    ∃ (ts' : List Str) (ys : List Int) (s5 s6 s7 : Sl), Le 25000 ts' ∧ NN ys ∧ evS (evF D n) [] law_s2 [S, s1, .v (.str T), PK xs, .o 0 (.lst (SS ts)), .u, .u, .u, s8, s9, s10, s11] = .ok .nx [S, s1, .v (.str T), PK ys, .o 0 (.lst (SS ts')), s5, s6, s7, s8, s9, s10, s11] := by
  have er : evP .range1 [.int 8] = some (.lst ((List.range 8).map fun (i : Nat) => PV.int (i : Int))) := range_from0 (n := 8) (by omega)
  obtain ⟨I, hI⟩ : ∃ I : List PV → Evn → Prop, I = fun pre ρ => ∃ (ts' : List Str) (ys : List Int) (s5 s6 s7 : Sl), Le 25000 ts' ∧ ts'.length ≤ 100 + pre.length ∧ NN ys ∧ Fr s5 ∧ Fr s6 ∧ Fr s7 ∧ ρ = [S, s1, .v (.str T), PK ys, .o 0 (.lst (SS ts')), s5, s6, s7, s8, s9, s10, s11] := ⟨_, rfl⟩
  have hs : law_s2 = .for (.n 5) (.pr .range1 [(.c (.int 8))]) [.asg 6 (.call ._law_changed [(.var 2), (.io 3)]), law_s1, .ex (.mu .append 4 [(.fz 6)])] := rfl
  rw [hs]
  have key : ∃ ρ', evS (evF D n) [] (.for (.n 5) (.pr .range1 [(.c (.int 8))]) [.asg 6 (.call ._law_changed [(.var 2), (.io 3)]), law_s1, .ex (.mu .append 4 [(.fz 6)])]) [S, s1, .v (.str T), PK xs, .o 0 (.lst (SS ts)), .u, .u, .u, s8, s9, s10, s11] = .ok .nx ρ' ∧ I ((List.range 8).map fun (i : Nat) => PV.int (i : Int)) ρ' := by
    generalize hR : (List.range 8).map (fun (i : Nat) => PV.int (i : Int)) = R8 at er
    simp [D, lcnt, R.of_some, R.of_none, Wk.chk, evSs, evS, evE, evEs, evAnd, evOr, tst, Mi.Tm.args, Mi.Tm.arg, Mi.Tm.dn, mkTm, Pr.fresh, maskE, Cn.pv, Mi.Tm.pars, Mi.Tm.par, ioSlots, lendT, callT, ioFree, afterCall, Mi.Tm.lent, giveBack, evMu, Mu.recv, Pr.recv, PV.tag, canSet, Sl.free, List.range_succ, Mi.Tm.walk, seqOf, bindS, bindT, Tg.is, wipeE, backE, unlock, Wk.ios, Mi.Tm.pureOk, ioPure, parT, evH, evHs, er]
    rw [← hR]
    refine forL_ind I ?_ (fun pre x suf ρ hx2 hi => ?_) (fun ρ _ => by simp [D, lcnt, R.of_some, R.of_none, Wk.chk, evSs, evS, evE, evEs, evAnd, evOr, tst, Mi.Tm.args, Mi.Tm.arg, Mi.Tm.dn, mkTm, Pr.fresh, maskE, Cn.pv, Mi.Tm.pars, Mi.Tm.par, ioSlots, lendT, callT, ioFree, afterCall, Mi.Tm.lent, giveBack, evMu, Mu.recv, Pr.recv, PV.tag, canSet, Sl.free, List.range_succ, Mi.Tm.walk, seqOf, bindS, bindT, Tg.is, wipeE, backE, unlock, Wk.ios, Mi.Tm.pureOk, ioPure, parT, evH, evHs, ])
    · rw [hI]; exact ⟨ts, xs, .u, .u, .u, ht, by simpa using hl, hx, fr_u, fr_u, fr_u, rfl⟩
    · rw [hI] at hi ⊢
      obtain ⟨ts1, y1, s5, s6, s7, b0, b1, n1, f5, f6, f7, rfl⟩ := hi
      obtain ⟨i, ex⟩ : ∃ i : Nat, x = .int (i : Int) := by
        have : x ∈ (List.range 8).map fun (i : Nat) => PV.int (i : Int) := by rw [hx2]; simp
        obtain ⟨i, _, e⟩ := List.mem_map.mp this
        exact ⟨_, e.symm⟩
      subst ex
      have lp : pre.length < 8 := by
        have := congrArg List.length hx2
        simp at this
        omega
      obtain ⟨T1, y2, l2, n2, e⟩ := changed_ok n hn y1 n1 T (by omega)
      obtain ⟨T2, y3, s, l3, n3, fs, e2⟩ := s1_ok n hn S s1 (.v (.str T)) (.o 0 (.lst (SS ts1))) s7 s8 s9 s10 s11 i y2 n2 T1 (by omega) f7
      have c1 : ts1.length < lim := by have := lim_big; omega
      refine ⟨by simp [D, lcnt, R.of_some, R.of_none, Wk.chk, evSs, evS, evE, evEs, evAnd, evOr, tst, Mi.Tm.args, Mi.Tm.arg, Mi.Tm.dn, mkTm, Pr.fresh, maskE, Cn.pv, Mi.Tm.pars, Mi.Tm.par, ioSlots, lendT, callT, ioFree, afterCall, Mi.Tm.lent, giveBack, evMu, Mu.recv, Pr.recv, PV.tag, canSet, Sl.free, List.range_succ, Mi.Tm.walk, seqOf, bindS, bindT, Tg.is, wipeE, backE, unlock, Wk.ios, Mi.Tm.pureOk, ioPure, parT, evH, evHs, ], [S, s1, .v (.str T), PK y3, .o 0 (.lst (SS (ts1 ++ [T2]))), .v (.int (i : Int)), .v (.str T2), s, s8, s9, s10, s11], ?_, ts1 ++ [T2], y3, .v (.int (i : Int)), .v (.str T2), s, ?_, by simp; omega, n3, fr_v _, fr_v _, fs, rfl⟩
      · rw [SS_append]
        rcases f5 with rfl | ⟨_, rfl⟩ <;> rcases f6 with rfl | ⟨_, rfl⟩ <;> simp [D, lcnt, R.of_some, R.of_none, Wk.chk, evSs, evS, evE, evEs, evAnd, evOr, tst, Mi.Tm.args, Mi.Tm.arg, Mi.Tm.dn, mkTm, Pr.fresh, maskE, Cn.pv, Mi.Tm.pars, Mi.Tm.par, ioSlots, lendT, callT, ioFree, afterCall, Mi.Tm.lent, giveBack, evMu, Mu.recv, Pr.recv, PV.tag, canSet, Sl.free, List.range_succ, Mi.Tm.walk, seqOf, bindS, bindT, Tg.is, wipeE, backE, unlock, Wk.ios, Mi.Tm.pureOk, ioPure, parT, evH, evHs, e, e2, c1]
      · intro t m
        rcases List.mem_append.mp m with m | m
        · exact b0 t m
        · rw [List.mem_singleton.mp m]; exact l3
  rw [hI] at key
  obtain ⟨ρ', e, ts', ys, s5, s6, s7, h1, _, h2, _, _, _, rfl⟩ := key
  exact ⟨ts', ys, s5, s6, s7, h1, h2, e⟩
/-! ### the drawn text -/
theorem nodup_le : ∀ {xs ys : List Str}, xs.Nodup → (∀ a ∈ xs, a ∈ ys) → xs.length ≤ ys.length
  | [], _, _, _ => by simp
  | x :: xs, ys, h, hs => by
    rw [List.nodup_cons] at h
    have m := hs x List.mem_cons_self
    have := nodup_le (xs := xs) (ys := ys.erase x) h.2 fun a ha => (List.mem_erase_of_ne (by rintro rfl; exact h.1 ha)).mpr (hs a (List.mem_cons_of_mem _ ha))
    rw [List.length_erase_of_mem m] at this
    have := List.length_pos_of_mem m
    simp only [List.length_cons]
    omega
theorem lt_len : ∀ a ∈ LT, a.length = 1 := by decide +kernel
theorem lt_tsz : ∀ {x : List Str}, (∀ a ∈ x, a ∈ LT) → tsz x = 2 * x.length
  | [], _ => rfl
  | a :: x, h => by
    rw [tsz_cons, lt_tsz fun b m => h b (List.mem_cons_of_mem _ m), lt_len a (h a List.mem_cons_self), List.length_cons]
    omega
theorem inc_tsz {x : List Str} (hi : Inc x) (h : ∀ a ∈ x, a ∈ LT) : tsz x ≤ 12 := by
  have := nodup_le hi.nodup h
  rw [lt_tsz h]
  have e : LT.length = 6 := rfl
  omega
theorem kind_tsz (m : Bool) : tsz [kindS m] ≤ 6 := by cases m <;> decide +kernel
theorem Good.fits {cols : List Str} (hc : ∀ a ∈ cols, a ∈ LT) {r : Rl} (h : Good cols r) : r.fits ∧ (rtext r).length ≤ 60 := by
  cases r with
  | tm m x y =>
    obtain ⟨⟨h1, h2⟩, ⟨h3, h4⟩, _⟩ := h
    have a1 := inc_tsz h1 fun a m => hc a (h2 a m)
    have a2 := inc_tsz h3 fun a m => hc a (h4 a m)
    have a3 := kind_tsz m
    have t : tsz (x ++ [kindS m] ++ y) ≤ 30 := by rw [tsz_append, tsz_append]; omega
    exact ⟨by show tsz _ ≤ _; omega, Nat.le_trans (join1_le one_len _) (by omega)⟩
  | jn ps =>
    obtain ⟨h1, h2, _⟩ := h
    have a1 : ∀ p ∈ ps, tsz p ≤ 12 := fun p m => inc_tsz (h2 p m).1 fun a ma => hc a ((h2 p m).2.2 a ma)
    have sm : ∀ qs : List (List Str), (∀ p ∈ qs, tsz p ≤ 12) → (qs.map tsz).sum ≤ 12 * qs.length := by
      intro qs
      induction qs with
      | nil => intro _; simp
      | cons p qs ih =>
        intro h
        have := ih fun q m => h q (List.mem_cons_of_mem _ m)
        have := h p List.mem_cons_self
        simp only [List.map_cons, List.sum_cons, List.length_cons]
        omega
    have s := sm ps a1
    have hl : ps.length ≤ 3 := by omega
    refine ⟨⟨by omega, by omega⟩, ?_⟩
    have b1 := join_le " / " (ps.map (Txt.join " "))
    have b2 := sum_mono (fun p => (Txt.join " " p).length) tsz (xs := ps) fun p _ => join1_le one_len p
    rw [three_len, List.map_map, List.length_map] at b1
    simp only [Function.comp_def] at b1
    have e : (Str.ofString "join ").length = 5 := by decide +kernel
    show (Str.ofString "join " ++ Txt.join " / " (ps.map (Txt.join " "))).length ≤ _
    have q : (Str.ofString "join " ++ Txt.join " / " (ps.map (Txt.join " "))).length = (Str.ofString "join ").length + (Txt.join " / " (ps.map (Txt.join " "))).length := by
      rw [TL.len_tl, TL.tl_append, List.length_append, ← TL.len_tl, ← TL.len_tl]
    omega
theorem drawn_fits {cols : List Str} {rs : List Rl} (hc : ∀ a ∈ cols, a ∈ LT) (hl : cols.length ≤ 6) (hr : rs.length ≤ 4) (h : ∀ r ∈ rs, Good cols r) : Fits cols rs ∧ (btext cols rs).length ≤ 300 := by
  have e7 : (("columns" : Str)).length = 7 := by decide +kernel
  have c : tsz (("columns" : Str) :: cols) ≤ 20 := by rw [tsz_cons, lt_tsz hc, e7]; omega
  have b : ∀ qs : List Rl, (∀ r ∈ qs, Good cols r) → tsz (qs.map rtext) ≤ 61 * qs.length := by
    intro qs
    induction qs with
    | nil => intro _; simp [tsz]
    | cons r qs ih =>
      intro h
      have := ih fun q m => h q (List.mem_cons_of_mem _ m)
      have := ((h r List.mem_cons_self).fits hc).2
      rw [List.map_cons, tsz_cons, List.length_cons]
      omega
  have b := b rs h
  have l0 := join1_le one_len (("columns" : Str) :: cols)
  have t : tsz (Txt.join " " (("columns" : Str) :: cols) :: rs.map rtext) ≤ 290 := by rw [tsz_cons]; omega
  exact ⟨⟨by omega, fun r m => ((h r m).fits hc).1, by omega⟩, Nat.le_trans (join1_le nl_len _) (by omega)⟩
theorem fixed_le : Le 25000 ["", "columns", "columns a\n", "columns a\njoin", "columns a b\na tells", "columns a\ntells a"] := by
  intro t m
  have : ∀ t ∈ (["", "columns", "columns a\n", "columns a\njoin", "columns a b\na tells", "columns a\ntells a"] : List Str), t.length ≤ 30 := by decide +kernel
  have := this t m
  omega
theorem law_ok (n : Nat) (hn : 10 ≤ n) (ns : List Int) : ∃ fin, evF D n .law [.v (.scr ns)] = .ret (.v (.bl true)) fin := by
  obtain ⟨n, rfl⟩ : ∃ m, n = m + 1 := ⟨n - 1, by omega⟩
  refine ⟨[.u], ?_⟩
  refine evF_s rfl ?_
  obtain ⟨xs, lx, dx, e1⟩ := draws_ok n (by omega) ns 0 2 720 (by decide) (by omega)
  obtain ⟨x0, x1, rfl⟩ : ∃ x0 x1, xs = [x0, x1] := by
    match xs, lx with
    | [a, b], _ => exact ⟨a, b, rfl⟩
  have m5 : evP .mod [.int x0, .int 5] = some (.int (x0 % 5)) := ev_mod_int (by decide)
  have i0 := Int.emod_nonneg x0 (b := 5) (by decide)
  have i1 := Int.emod_lt_of_pos x0 (b := 5) (by decide)
  obtain ⟨rs, lr, gr, e2⟩ := book_ok n (by omega) ns 1 (1 + (x0 % 5).toNat) (by omega) (by omega)
  have ec : ((1 + (x0 % 5).toNat : Nat) : Int) = 1 + x0 % 5 := by omega
  rw [ec] at e2
  have hc : (LT.take (1 + (x0 % 5).toNat)).length ≤ 6 := by rw [List.length_take]; exact Nat.le_trans (Nat.min_le_right _ _) (Nat.le_refl 6)
  have hl : ∀ a ∈ LT.take (1 + (x0 % 5).toNat), a ∈ LT := fun a m => List.mem_of_mem_take m
  generalize LT.take (1 + (x0 % 5).toNat) = cols at *
  obtain ⟨ft, bl⟩ := drawn_fits hl hc lr gr
  have e3 := law_text_b n (by omega) cols rs ft
  obtain ⟨ps, np, e4⟩ := picks_ok n (by omega) ns 2 80 (by omega)
  have e4 : evF D n ._law_picks [.v (.scr ns), .v (.int 2), .v (.int 80)] = .ret (.o 0 (.lst (IL ps))) [.u, .u, .u] := e4
  simp only [IL, List.map_cons, List.map_nil] at e1
  have e1 : evF D n ._law_draws [.v (.scr ns), .v (.int 0), .v (.int 2), .v (.int 720)] = .ret (.o 0 (.lst [.int x0, .int x1])) [.u, .u, .u, .u] := e1
  have e2 : evF D n ._law_book [.v (.scr ns), .v (.int 1), .v (.int (1 + x0 % 5)), .o 0 (.lst [.str "tells", .str "many", .str "join"]), .v (.int 4)] = .ret (.v (.tup [Mi.ST cols, .tup (rs.map Rl.pv)])) [.u, .u, .u, .u, .u] := e2
  generalize btext cols rs = T at *
  have sp1 : ((" " : Str)).length = 1 := one_len
  have a1 : evP .add [.str T, .str " "] = some (.str (T ++ " ")) := ev_add_str (le_lim' (by rw [one_len]; omega))
  have a2 : evP .add [.str T, .str "\n"] = some (.str (T ++ "\n")) := ev_add_str (le_lim' (by rw [nl_len]; omega))
  have q : ∀ z : Str, z.length = 1 → (T ++ z).length ≤ 25000 := fun z hz => by
    have : (T ++ z).length = T.length + z.length := by rw [TL.len_tl, TL.tl_append, List.length_append, ← TL.len_tl, ← TL.len_tl]
    omega
  have tle : Le 25000 (["", "columns", "columns a\n", "columns a\njoin", "columns a b\na tells", "columns a\ntells a", T ++ " ", T ++ "\n"] : List Str) := by
    intro t m
    simp only [List.mem_cons, List.not_mem_nil, or_false] at m
    rcases m with m | m | m | m | m | m | m | m
    · exact fixed_le t (by simp [m])
    · exact fixed_le t (by simp [m])
    · exact fixed_le t (by simp [m])
    · exact fixed_le t (by simp [m])
    · exact fixed_le t (by simp [m])
    · exact fixed_le t (by simp [m])
    · rw [m]; exact q _ one_len
    · rw [m]; exact q _ nl_len
  obtain ⟨ts, ys, s5, s6, s7, tl, ny, e5⟩ := s2_ok n (by omega) (.v (.scr ns)) (.o 0 (.lst [.int x0, .int x1])) .u .u .u .u ps np T (by omega) _ tle (by simp)
  obtain ⟨ρ, e6, s4, s8, s9, s10, rfl⟩ := s3_ok n (by omega) (.v (.scr ns)) (.o 0 (.lst [.int x0, .int x1])) (.v (.str T)) (PK ys) s5 s6 s7 ts fun t m => by have := tl t m; omega
  simp only [SS, List.map_cons, List.map_nil] at e5 e6
  have l8 : 8 ≤ lim := le_lim' (by omega)
  generalize T ++ " " = Ta at *
  generalize T ++ "\n" = Tb at *
  generalize rs.map Rl.pv = RS at *
  simp [D, lcnt, R.of_some, R.of_none, Wk.chk, evSs, evS, evE, evEs, evAnd, evOr, tst, Mi.Tm.args, Mi.Tm.arg, Mi.Tm.dn, mkTm, Pr.fresh, maskE, Cn.pv, Mi.Tm.pars, Mi.Tm.par, ioSlots, lendT, callT, ioFree, afterCall, Mi.Tm.lent, giveBack, evMu, Mu.recv, Pr.recv, PV.tag, canSet, Sl.free, List.range_succ, Mi.Tm.walk, seqOf, bindS, bindT, Tg.is, wipeE, backE, unlock, Wk.ios, Mi.Tm.pureOk, ioPure, parT, evH, evHs, b_law, e1, m5, e2, e3, e4, a1, a2, l8, e5, e6]
theorem law_true (ns : List Int) (_ : ns.length ≤ 63) : ∃ fin, evF D 60 .law [.v (.scr ns)] = .ret (.v (.bl true)) fin := law_ok 60 (by decide) ns
end Lw

set_option Elab.async false
set_option linter.all false
set_option maxRecDepth 100000
set_option maxHeartbeats 0
namespace Lw
open PySem PySem.Spec PyProof.Rows L2 Mi
def top (i : Nat) : Stmt := PySem.Challenge.pw_columnlaws_k03_texts_refused.main.body.getD i (.Pass ⟨0, 0, 0, 0⟩)
def d_is_name : He.DefD := ⟨("is_name", none), "is_name", "is_name", defArgs (top 8), defBody (top 8), defScope (top 8), [], []⟩
def d_check_names : He.DefD := ⟨("check_names", none), "check_names", "check_names", defArgs (top 9), defBody (top 9), defScope (top 9), [], []⟩
def d_head_names : He.DefD := ⟨("head_names", none), "head_names", "head_names", defArgs (top 10), defBody (top 10), defScope (top 10), [], []⟩
def d_read_parts : He.DefD := ⟨("read_parts", none), "read_parts", "read_parts", defArgs (top 11), defBody (top 11), defScope (top 11), [], []⟩
def d_read_rule_words : He.DefD := ⟨("read_rule_words", none), "read_rule_words", "read_rule_words", defArgs (top 12), defBody (top 12), defScope (top 12), [], []⟩
def d_read_written : He.DefD := ⟨("read_written", none), "read_written", "read_written", defArgs (top 13), defBody (top 13), defScope (top 13), [], []⟩
def d_rule_text : He.DefD := ⟨("rule_text", none), "rule_text", "rule_text", defArgs (top 14), defBody (top 14), defScope (top 14), [], []⟩
def d_book_text : He.DefD := ⟨("book_text", none), "book_text", "book_text", defArgs (top 15), defBody (top 15), defScope (top 15), [], []⟩
def d__law_same : He.DefD := ⟨("_law_same", none), "_law_same", "_law_same", defArgs (top 17), defBody (top 17), defScope (top 17), [], []⟩
def d__law_number : He.DefD := ⟨("_law_number", none), "_law_number", "_law_number", defArgs (top 18), defBody (top 18), defScope (top 18), [], []⟩
def d__law_draws : He.DefD := ⟨("_law_draws", none), "_law_draws", "_law_draws", defArgs (top 19), defBody (top 19), defScope (top 19), [], []⟩
def d__law_pick : He.DefD := ⟨("_law_pick", none), "_law_pick", "_law_pick", defArgs (top 20), defBody (top 20), defScope (top 20), [], []⟩
def d__law_picks : He.DefD := ⟨("_law_picks", none), "_law_picks", "_law_picks", defArgs (top 21), defBody (top 21), defScope (top 21), [], []⟩
def d__law_set : He.DefD := ⟨("_law_set", none), "_law_set", "_law_set", defArgs (top 22), defBody (top 22), defScope (top 22), [], []⟩
def d__law_share : He.DefD := ⟨("_law_share", none), "_law_share", "_law_share", defArgs (top 23), defBody (top 23), defScope (top 23), [], []⟩
def d__law_some : He.DefD := ⟨("_law_some", none), "_law_some", "_law_some", defArgs (top 24), defBody (top 24), defScope (top 24), [], []⟩
def d__law_parts : He.DefD := ⟨("_law_parts", none), "_law_parts", "_law_parts", defArgs (top 25), defBody (top 25), defScope (top 25), [], []⟩
def d__law_rule : He.DefD := ⟨("_law_rule", none), "_law_rule", "_law_rule", defArgs (top 26), defBody (top 26), defScope (top 26), [], []⟩
def d__law_book : He.DefD := ⟨("_law_book", none), "_law_book", "_law_book", defArgs (top 27), defBody (top 27), defScope (top 27), [], []⟩
def d__law_rule_text : He.DefD := ⟨("_law_rule_text", none), "_law_rule_text", "_law_rule_text", defArgs (top 28), defBody (top 28), defScope (top 28), [], []⟩
def d__law_text : He.DefD := ⟨("_law_text", none), "_law_text", "_law_text", defArgs (top 29), defBody (top 29), defScope (top 29), [], []⟩
def d__law_name : He.DefD := ⟨("_law_name", none), "_law_name", "_law_name", defArgs (top 30), defBody (top 30), defScope (top 30), [], []⟩
def d__law_read_rule : He.DefD := ⟨("_law_read_rule", none), "_law_read_rule", "_law_read_rule", defArgs (top 31), defBody (top 31), defScope (top 31), [], []⟩
def d__law_read : He.DefD := ⟨("_law_read", none), "_law_read", "_law_read", defArgs (top 32), defBody (top 32), defScope (top 32), [], []⟩
def d__law_told : He.DefD := ⟨("_law_told", none), "_law_told", "_law_told", defArgs (top 33), defBody (top 33), defScope (top 33), [], []⟩
def d__law_changed : He.DefD := ⟨("_law_changed", none), "_law_changed", "_law_changed", defArgs (top 34), defBody (top 34), defScope (top 34), [], []⟩
def d_law : He.DefD := ⟨("law", none), "law", "law", defArgs (top 35), defBody (top 35), defScope (top 35), [], []⟩
def info : Fn → DefI
  | .is_name => ⟨d_is_name, ["word", "sign"]⟩
  | .check_names => ⟨d_check_names, ["line", "words", "start", "at"]⟩
  | .head_names => ⟨d_head_names, ["line", "words", "head"]⟩
  | .read_parts => ⟨d_read_parts, ["line", "words", "parts", "at"]⟩
  | .read_rule_words => ⟨d_read_rule_words, ["line", "words", "at"]⟩
  | .read_written => ⟨d_read_written, ["text", "lines", "columns", "rules", "at"]⟩
  | .rule_text => ⟨d_rule_text, ["rule", "part"]⟩
  | .book_text => ⟨d_book_text, ["columns", "rules", "rule"]⟩
  | ._law_same => ⟨d__law_same, ["told", "due", "k"]⟩
  | ._law_number => ⟨d__law_number, ["script", "k", "number"]⟩
  | ._law_draws => ⟨d__law_draws, ["script", "k", "count", "many", "number", "found", "at", "state", "other"]⟩
  | ._law_pick => ⟨d__law_pick, ["picks"]⟩
  | ._law_picks => ⟨d__law_picks, ["script", "k", "count", "picks"]⟩
  | ._law_set => ⟨d__law_set, ["names", "name"]⟩
  | ._law_share => ⟨d__law_share, ["one", "other", "name"]⟩
  | ._law_some => ⟨d__law_some, ["picks", "columns", "bits", "j"]⟩
  | ._law_parts => ⟨d__law_parts, ["picks", "columns", "count", "found", "j", "part", "lacking", "name"]⟩
  | ._law_rule => ⟨d__law_rule, ["picks", "columns", "kinds", "kind", "x", "y"]⟩
  | ._law_book => ⟨d__law_book, ["script", "k", "count", "kinds", "most", "picks", "columns", "rules", "j"]⟩
  | ._law_rule_text => ⟨d__law_rule_text, ["rule", "part"]⟩
  | ._law_text => ⟨d__law_text, ["book", "rule"]⟩
  | ._law_name => ⟨d__law_name, ["word", "closed", "x"]⟩
  | ._law_read_rule => ⟨d__law_read_rule, ["words", "parts", "j", "signs"]⟩
  | ._law_read => ⟨d__law_read, ["text", "lines", "line", "j", "rules", "at", "rule"]⟩
  | ._law_told => ⟨d__law_told, ["text", "error"]⟩
  | ._law_changed => ⟨d__law_changed, ["text", "picks", "lines", "line", "at", "j", "new", "kind"]⟩
  | .law => ⟨d_law, ["script", "shape", "text", "picks", "tried", "k", "bent", "turn", "one", "due", "told", "rule"]⟩
def tab : List (Str × Fn) := ([("is_name", .is_name), ("check_names", .check_names), ("head_names", .head_names), ("read_parts", .read_parts), ("read_rule_words", .read_rule_words), ("read_written", .read_written), ("rule_text", .rule_text), ("book_text", .book_text), ("_law_same", ._law_same), ("_law_number", ._law_number), ("_law_draws", ._law_draws), ("_law_pick", ._law_pick), ("_law_picks", ._law_picks), ("_law_set", ._law_set), ("_law_share", ._law_share), ("_law_some", ._law_some), ("_law_parts", ._law_parts), ("_law_rule", ._law_rule), ("_law_book", ._law_book), ("_law_rule_text", ._law_rule_text), ("_law_text", ._law_text), ("_law_name", ._law_name), ("_law_read_rule", ._law_read_rule), ("_law_read", ._law_read), ("_law_told", ._law_told), ("_law_changed", ._law_changed), ("law", .law)] : List (Str × Fn))
def cst : List (Str × PV) := ([("CLOSED_WORDS", c_CLOSED_WORDS), ("FIGURES", c_FIGURES), ("MOST_NAME", c_MOST_NAME), ("SMALL", c_SMALL)] : List (Str × PV))
def m_BadText : Stmt := (clsBody (top 2)).getD 0 (.Pass ⟨0, 0, 0, 0⟩)
def x_BadText : ExcD := ⟨"BadText", ["line", "word"], "BadText.__init__", defArgs m_BadText, defBody m_BadText, defScope m_BadText⟩
def m_RuleError : Stmt := .Pass ⟨0, 0, 0, 0⟩
def x_RuleError : ExcD := ⟨"RuleError", [], "RuleError.__init__", defArgs m_RuleError, defBody m_RuleError, defScope m_RuleError⟩
def xt : Xtra := { cst := cst, exs := [x_BadText, x_RuleError], file := PySem.Challenge.pw_columnlaws_k03_texts_refused.main.file }
theorem bndx : ∀ d ∈ xt.exs, d.flds ≠ [] → ∀ (kV doc pm : Value) (an : Option Addr) (cdv ct : Value) (cc : Addr) (us : List Value), us.length = ((("self" : Str)) :: d.flds).length → bindArgs (PySem.W.ksFn "__init__" d.qual d.params d.body d.scope .none kV doc pm an cdv ct cc) ⟨us, []⟩ = pure ((("self" : Str) :: d.flds).zip us) := by
  intro d m
  simp only [xt, List.mem_cons, List.not_mem_nil, or_false] at m
  rcases m with rfl | rfl
  · exact fun hne _ _ _ _ _ _ _ us hl => match us, hl with | [_, _, _], _ => rfl
  · exact fun hne _ _ _ _ _ _ _ us hl => absurd rfl hne
theorem k_is_name : okDef (D .is_name) (info .is_name) tab cst (tabX xt.exs) = true := by kernel_rfl
theorem k_check_names : okDef (D .check_names) (info .check_names) tab cst (tabX xt.exs) = true := by kernel_rfl
theorem k_head_names : okDef (D .head_names) (info .head_names) tab cst (tabX xt.exs) = true := by kernel_rfl
theorem k_read_parts : okDef (D .read_parts) (info .read_parts) tab cst (tabX xt.exs) = true := by kernel_rfl
theorem k_read_rule_words : okDef (D .read_rule_words) (info .read_rule_words) tab cst (tabX xt.exs) = true := by kernel_rfl
theorem k_read_written : okDef (D .read_written) (info .read_written) tab cst (tabX xt.exs) = true := by kernel_rfl
theorem k_rule_text : okDef (D .rule_text) (info .rule_text) tab cst (tabX xt.exs) = true := by kernel_rfl
theorem k_book_text : okDef (D .book_text) (info .book_text) tab cst (tabX xt.exs) = true := by kernel_rfl
theorem k__law_same : okDef (D ._law_same) (info ._law_same) tab cst (tabX xt.exs) = true := by kernel_rfl
theorem k__law_number : okDef (D ._law_number) (info ._law_number) tab cst (tabX xt.exs) = true := by kernel_rfl
theorem k__law_draws : okDef (D ._law_draws) (info ._law_draws) tab cst (tabX xt.exs) = true := by kernel_rfl
theorem k__law_pick : okDef (D ._law_pick) (info ._law_pick) tab cst (tabX xt.exs) = true := by kernel_rfl
theorem k__law_picks : okDef (D ._law_picks) (info ._law_picks) tab cst (tabX xt.exs) = true := by kernel_rfl
theorem k__law_set : okDef (D ._law_set) (info ._law_set) tab cst (tabX xt.exs) = true := by kernel_rfl
theorem k__law_share : okDef (D ._law_share) (info ._law_share) tab cst (tabX xt.exs) = true := by kernel_rfl
theorem k__law_some : okDef (D ._law_some) (info ._law_some) tab cst (tabX xt.exs) = true := by kernel_rfl
theorem k__law_parts : okDef (D ._law_parts) (info ._law_parts) tab cst (tabX xt.exs) = true := by kernel_rfl
theorem k__law_rule : okDef (D ._law_rule) (info ._law_rule) tab cst (tabX xt.exs) = true := by kernel_rfl
theorem k__law_book : okDef (D ._law_book) (info ._law_book) tab cst (tabX xt.exs) = true := by kernel_rfl
theorem k__law_rule_text : okDef (D ._law_rule_text) (info ._law_rule_text) tab cst (tabX xt.exs) = true := by kernel_rfl
theorem k__law_text : okDef (D ._law_text) (info ._law_text) tab cst (tabX xt.exs) = true := by kernel_rfl
theorem k__law_name : okDef (D ._law_name) (info ._law_name) tab cst (tabX xt.exs) = true := by kernel_rfl
theorem k__law_read_rule : okDef (D ._law_read_rule) (info ._law_read_rule) tab cst (tabX xt.exs) = true := by kernel_rfl
theorem k__law_read : okDef (D ._law_read) (info ._law_read) tab cst (tabX xt.exs) = true := by kernel_rfl
theorem k__law_told : okDef (D ._law_told) (info ._law_told) tab cst (tabX xt.exs) = true := by kernel_rfl
theorem k__law_changed : okDef (D ._law_changed) (info ._law_changed) tab cst (tabX xt.exs) = true := by kernel_rfl
theorem k_law : okDef (D .law) (info .law) tab cst (tabX xt.exs) = true := by kernel_rfl
theorem chk : ∀ f, okDef (D f) (info f) tab cst (tabX xt.exs) = true
  | .is_name => k_is_name
  | .check_names => k_check_names
  | .head_names => k_head_names
  | .read_parts => k_read_parts
  | .read_rule_words => k_read_rule_words
  | .read_written => k_read_written
  | .rule_text => k_rule_text
  | .book_text => k_book_text
  | ._law_same => k__law_same
  | ._law_number => k__law_number
  | ._law_draws => k__law_draws
  | ._law_pick => k__law_pick
  | ._law_picks => k__law_picks
  | ._law_set => k__law_set
  | ._law_share => k__law_share
  | ._law_some => k__law_some
  | ._law_parts => k__law_parts
  | ._law_rule => k__law_rule
  | ._law_book => k__law_book
  | ._law_rule_text => k__law_rule_text
  | ._law_text => k__law_text
  | ._law_name => k__law_name
  | ._law_read_rule => k__law_read_rule
  | ._law_read => k__law_read
  | ._law_told => k__law_told
  | ._law_changed => k__law_changed
  | .law => k_law
theorem bnd : ∀ f (kV doc pm : Value) (an : Option Addr) (cdv ct : Value) (us : List Value), us.length = ((info f).N.take (D f).np).length → bindArgs (PySem.W.fnOf (info f).d.name (info f).d.qual (info f).d.params (info f).d.body (info f).d.scope .none kV doc pm an cdv ct) ⟨us, []⟩ = pure (((info f).N.take (D f).np).zip us)
  | .is_name, _, _, _, _, _, _, us, hl => match us, hl with | [_], _ => rfl
  | .check_names, _, _, _, _, _, _, us, hl => match us, hl with | [_, _, _], _ => rfl
  | .head_names, _, _, _, _, _, _, us, hl => match us, hl with | [_, _, _], _ => rfl
  | .read_parts, _, _, _, _, _, _, us, hl => match us, hl with | [_, _], _ => rfl
  | .read_rule_words, _, _, _, _, _, _, us, hl => match us, hl with | [_, _], _ => rfl
  | .read_written, _, _, _, _, _, _, us, hl => match us, hl with | [_], _ => rfl
  | .rule_text, _, _, _, _, _, _, us, hl => match us, hl with | [_], _ => rfl
  | .book_text, _, _, _, _, _, _, us, hl => match us, hl with | [_, _], _ => rfl
  | ._law_same, _, _, _, _, _, _, us, hl => match us, hl with | [_, _], _ => rfl
  | ._law_number, _, _, _, _, _, _, us, hl => match us, hl with | [_, _], _ => rfl
  | ._law_draws, _, _, _, _, _, _, us, hl => match us, hl with | [_, _, _, _], _ => rfl
  | ._law_pick, _, _, _, _, _, _, us, hl => match us, hl with | [_], _ => rfl
  | ._law_picks, _, _, _, _, _, _, us, hl => match us, hl with | [_, _, _], _ => rfl
  | ._law_set, _, _, _, _, _, _, us, hl => match us, hl with | [_], _ => rfl
  | ._law_share, _, _, _, _, _, _, us, hl => match us, hl with | [_, _], _ => rfl
  | ._law_some, _, _, _, _, _, _, us, hl => match us, hl with | [_, _], _ => rfl
  | ._law_parts, _, _, _, _, _, _, us, hl => match us, hl with | [_, _, _], _ => rfl
  | ._law_rule, _, _, _, _, _, _, us, hl => match us, hl with | [_, _, _], _ => rfl
  | ._law_book, _, _, _, _, _, _, us, hl => match us, hl with | [_, _, _, _, _], _ => rfl
  | ._law_rule_text, _, _, _, _, _, _, us, hl => match us, hl with | [_], _ => rfl
  | ._law_text, _, _, _, _, _, _, us, hl => match us, hl with | [_], _ => rfl
  | ._law_name, _, _, _, _, _, _, us, hl => match us, hl with | [_], _ => rfl
  | ._law_read_rule, _, _, _, _, _, _, us, hl => match us, hl with | [_], _ => rfl
  | ._law_read, _, _, _, _, _, _, us, hl => match us, hl with | [_], _ => rfl
  | ._law_told, _, _, _, _, _, _, us, hl => match us, hl with | [_], _ => rfl
  | ._law_changed, _, _, _, _, _, _, us, hl => match us, hl with | [_, _], _ => rfl
  | .law, _, _, _, _, _, _, us, hl => match us, hl with | [_], _ => rfl
def fn : List He.DefD := ([d_is_name, d_check_names, d_head_names, d_read_parts, d_read_rule_words, d_read_written, d_rule_text, d_book_text, d__law_same, d__law_number, d__law_draws, d__law_pick, d__law_picks, d__law_set, d__law_share, d__law_some, d__law_parts, d__law_rule, d__law_book, d__law_rule_text, d__law_text, d__law_name, d__law_read_rule, d__law_read, d__law_told, d__law_changed, d_law] : List He.DefD)
def fa : List He.Fa := ([.glo "is_name", .glo "check_names", .glo "head_names", .glo "read_parts", .glo "read_rule_words", .glo "read_written", .glo "rule_text", .glo "book_text", .glo "_law_same", .glo "_law_number", .glo "_law_draws", .glo "_law_pick", .glo "_law_picks", .glo "_law_set", .glo "_law_share", .glo "_law_some", .glo "_law_parts", .glo "_law_rule", .glo "_law_book", .glo "_law_rule_text", .glo "_law_text", .glo "_law_name", .glo "_law_read_rule", .glo "_law_read", .glo "_law_told", .glo "_law_changed", .glo "law", .free "len", .free "tuple", .free "list"] : List He.Fa) ++ (([.free "sorted", .free "sum", .free "abs", .free "str", .free "int", .free "min", .free "max", .free "range", .free "dict", .free "isinstance", .free "bool"] : List He.Fa))
abbrev R : PySem.W.OpenRow := PySem.W.OpenLaw.row PySem.Challenge.rw_columnlaws_k03_texts_refused
abbrev hk : PySem.W.Hook := hookM 6 fa fn xt
def ob (s : PySem.W.SharedT) : AlM := obsM 6 fa fn xt (HandSHeadRun.getT s)
theorem ob_eq (s : PySem.W.SharedT) : ob s = hk.obs s.abs := obsM_eq (HandSHeadRun.getT_eq s)
def loose : List PySem.Str := (["RuleError", "BadText", "CLOSED_WORDS", "SMALL", "FIGURES", "MOST_NAME", "is_name", "check_names", "head_names", "read_parts", "read_rule_words", "read_written", "rule_text", "book_text", "_law_same", "_law_number", "_law_draws", "_law_pick", "_law_picks", "_law_set", "_law_share", "_law_some", "_law_parts", "_law_rule", "_law_book", "_law_rule_text", "_law_text", "_law_name", "_law_read_rule", "_law_read"] : List PySem.Str) ++ ((["_law_told", "_law_changed"] : List PySem.Str))
theorem run (w : World) : HandSHeadRun.RunEq R (PySem.W.view R.prog [35]) hk ob 3000 loose w := by
  intro os
  kernel_rfl
section
variable {K : PySem.W.Frag} {h : Heap} {mg : Str → Option Value}
theorem hd (c : He.SaysD fa fn K) : ∀ f, ∃ fd, FunD K (info f).d.name (info f).d.qual (info f).d.params (info f).d.body (info f).d.scope [] [] (He.fAd K (info f).d.at_) fd
  | .is_name => c.def_ 0 (d := d_is_name) rfl
  | .check_names => c.def_ 1 (d := d_check_names) rfl
  | .head_names => c.def_ 2 (d := d_head_names) rfl
  | .read_parts => c.def_ 3 (d := d_read_parts) rfl
  | .read_rule_words => c.def_ 4 (d := d_read_rule_words) rfl
  | .read_written => c.def_ 5 (d := d_read_written) rfl
  | .rule_text => c.def_ 6 (d := d_rule_text) rfl
  | .book_text => c.def_ 7 (d := d_book_text) rfl
  | ._law_same => c.def_ 8 (d := d__law_same) rfl
  | ._law_number => c.def_ 9 (d := d__law_number) rfl
  | ._law_draws => c.def_ 10 (d := d__law_draws) rfl
  | ._law_pick => c.def_ 11 (d := d__law_pick) rfl
  | ._law_picks => c.def_ 12 (d := d__law_picks) rfl
  | ._law_set => c.def_ 13 (d := d__law_set) rfl
  | ._law_share => c.def_ 14 (d := d__law_share) rfl
  | ._law_some => c.def_ 15 (d := d__law_some) rfl
  | ._law_parts => c.def_ 16 (d := d__law_parts) rfl
  | ._law_rule => c.def_ 17 (d := d__law_rule) rfl
  | ._law_book => c.def_ 18 (d := d__law_book) rfl
  | ._law_rule_text => c.def_ 19 (d := d__law_rule_text) rfl
  | ._law_text => c.def_ 20 (d := d__law_text) rfl
  | ._law_name => c.def_ 21 (d := d__law_name) rfl
  | ._law_read_rule => c.def_ 22 (d := d__law_read_rule) rfl
  | ._law_read => c.def_ 23 (d := d__law_read) rfl
  | ._law_told => c.def_ 24 (d := d__law_told) rfl
  | ._law_changed => c.def_ 25 (d := d__law_changed) rfl
  | .law => c.def_ 26 (d := d_law) rfl
theorem mgf (X : K.In h) (G : h.Ns mainGlobals mg) (c : He.SaysD fa fn K) : ∀ f : Fn, mg (info f).d.name = some (.ref (He.fAd K (info f).d.at_))
  | .is_name => He.glo_ok X G (c.fact 0 (f := .glo "is_name") rfl)
  | .check_names => He.glo_ok X G (c.fact 1 (f := .glo "check_names") rfl)
  | .head_names => He.glo_ok X G (c.fact 2 (f := .glo "head_names") rfl)
  | .read_parts => He.glo_ok X G (c.fact 3 (f := .glo "read_parts") rfl)
  | .read_rule_words => He.glo_ok X G (c.fact 4 (f := .glo "read_rule_words") rfl)
  | .read_written => He.glo_ok X G (c.fact 5 (f := .glo "read_written") rfl)
  | .rule_text => He.glo_ok X G (c.fact 6 (f := .glo "rule_text") rfl)
  | .book_text => He.glo_ok X G (c.fact 7 (f := .glo "book_text") rfl)
  | ._law_same => He.glo_ok X G (c.fact 8 (f := .glo "_law_same") rfl)
  | ._law_number => He.glo_ok X G (c.fact 9 (f := .glo "_law_number") rfl)
  | ._law_draws => He.glo_ok X G (c.fact 10 (f := .glo "_law_draws") rfl)
  | ._law_pick => He.glo_ok X G (c.fact 11 (f := .glo "_law_pick") rfl)
  | ._law_picks => He.glo_ok X G (c.fact 12 (f := .glo "_law_picks") rfl)
  | ._law_set => He.glo_ok X G (c.fact 13 (f := .glo "_law_set") rfl)
  | ._law_share => He.glo_ok X G (c.fact 14 (f := .glo "_law_share") rfl)
  | ._law_some => He.glo_ok X G (c.fact 15 (f := .glo "_law_some") rfl)
  | ._law_parts => He.glo_ok X G (c.fact 16 (f := .glo "_law_parts") rfl)
  | ._law_rule => He.glo_ok X G (c.fact 17 (f := .glo "_law_rule") rfl)
  | ._law_book => He.glo_ok X G (c.fact 18 (f := .glo "_law_book") rfl)
  | ._law_rule_text => He.glo_ok X G (c.fact 19 (f := .glo "_law_rule_text") rfl)
  | ._law_text => He.glo_ok X G (c.fact 20 (f := .glo "_law_text") rfl)
  | ._law_name => He.glo_ok X G (c.fact 21 (f := .glo "_law_name") rfl)
  | ._law_read_rule => He.glo_ok X G (c.fact 22 (f := .glo "_law_read_rule") rfl)
  | ._law_read => He.glo_ok X G (c.fact 23 (f := .glo "_law_read") rfl)
  | ._law_told => He.glo_ok X G (c.fact 24 (f := .glo "_law_told") rfl)
  | ._law_changed => He.glo_ok X G (c.fact 25 (f := .glo "_law_changed") rfl)
  | .law => He.glo_ok X G (c.fact 26 (f := .glo "law") rfl)
theorem tabN : tab.all (fun q => decide (q.1 = (info q.2).d.name)) = true := by kernel_rfl
theorem mgb (X : K.In h) (G : h.Ns mainGlobals mg) (c : He.SaysD fa fn K) : ∀ x ∈ bltNames, mg x = none := by
  intro x m
  simp only [bltNames, List.mem_cons, List.not_mem_nil, or_false] at m
  rcases m with rfl | rfl | rfl | rfl | rfl | rfl | rfl | rfl | rfl | rfl | rfl | rfl | rfl | rfl
  · exact He.free_ok X G (c.fact 27 (f := .free "len") rfl)
  · exact He.free_ok X G (c.fact 28 (f := .free "tuple") rfl)
  · exact He.free_ok X G (c.fact 29 (f := .free "list") rfl)
  · exact He.free_ok X G (c.fact 30 (f := .free "sorted") rfl)
  · exact He.free_ok X G (c.fact 31 (f := .free "sum") rfl)
  · exact He.free_ok X G (c.fact 32 (f := .free "abs") rfl)
  · exact He.free_ok X G (c.fact 33 (f := .free "str") rfl)
  · exact He.free_ok X G (c.fact 34 (f := .free "int") rfl)
  · exact He.free_ok X G (c.fact 35 (f := .free "min") rfl)
  · exact He.free_ok X G (c.fact 36 (f := .free "max") rfl)
  · exact He.free_ok X G (c.fact 37 (f := .free "range") rfl)
  · exact He.free_ok X G (c.fact 38 (f := .free "dict") rfl)
  · exact He.free_ok X G (c.fact 39 (f := .free "isinstance") rfl)
  · exact He.free_ok X G (c.fact 40 (f := .free "bool") rfl)
end
theorem facts {w : World} {K : PySem.W.Frag} {h : Heap} {mg : Str → Option Value} {f : Addr} (X : K.In h) (G : h.Ns mainGlobals mg) (hfa : mg ("law" : Str) = some (.ref f)) (c : SaysM fa fn xt K) (k : Nat) :
    ∃ fd : FuncData, (∀ (s : Shared) (v : Value), BindsTo s fd ⟨[v], []⟩ [("script", v)]) ∧ ∀ base : Heap, K.In base → base.Ns mainGlobals mg → FnOk PySem.Challenge.pw_columnlaws_k03_texts_refused w K mg base (CXW PySem.Challenge.pw_columnlaws_k03_texts_refused) (k + 2) f fd ["script"] (SpF ⟨K, w, He.ga K⟩ (evF D k .law)) := by
  obtain ⟨fd, F⟩ := hd c.d .law
  have e := hfa.symm.trans (mgf X G c.d .law)
  cases e
  have b := FunD.bindsA (ps := ["script"]) F (bnd .law)
  refine ⟨fd, fun s v => b s [v] rfl, fun base _ _ => fnOk_cx (fns_ok (D := D) (info := info) (tab := tab) (cst := cst) (exs_ok X G c rfl (fun _ => by kernel_rfl) bndx) (hd c.d) (fun x g hx => ?_) (fun x p hx => cstB_ok X G rfl c.c.1 hx) (mgb X G c.d) chk bnd k .law fd F)⟩
  have q := List.all_eq_true.mp tabN (x, g) (PySem.mem_of_lookup hx)
  have e : x = (info g).d.name := of_decide_eq_true q
  rw [e]
  exact mgf X G c.d g
end Lw

set_option Elab.async false
set_option linter.all false
set_option maxRecDepth 100000
set_option maxHeartbeats 0
namespace Lw
open PySem PySem.Spec PyProof.Rows L2 Mi
end Lw
open PySem PySem.W PySem.Calls PyProof.Rows
theorem PySem.Challenge.cw_columnlaws_k03_texts_refused_holds : PySem.Challenge.rw_columnlaws_k03_texts_refused.Holds := by
  w_on; o_law
  refine HandSHeadRun.head_any (r := OpenLaw.row PySem.Challenge.rw_columnlaws_k03_texts_refused) (q := view (OpenLaw.row PySem.Challenge.rw_columnlaws_k03_texts_refused).prog [35]) (H := Lw.hk) (ob := Lw.ob) (M := 3000) (loose := Lw.loose) (d := HandSHeadRun.topDef (OpenLaw.row PySem.Challenge.rw_columnlaws_k03_texts_refused).prog 35) (kwd := []) Lw.ob_eq
    (by kernel_rfl) (fun s => by kernel_rfl) Lw.run (by kernel_rfl) (by kernel_rfl) (by kernel_rfl) (by rfl) (by first | assumption | decide +kernel) (by decide +kernel) ⟨rfl, rfl, rfl, rfl, rfl, by decide +kernel⟩ ?hw ?hc
  case hw => w_witness2
  case hc =>
    refine L2.walk_ofE (l := PySem.Challenge.rw_columnlaws_k03_texts_refused) (n := 63) (k := 62) (x := "script") (CX := Mi.CXW (PySem.Challenge.rw_columnlaws_k03_texts_refused).prog) rfl (by decide) (by kernel_rfl) ⟨rfl, by decide, by decide⟩ ?F Mi.cxw_no
    intro w mg fa h Y G hmg0
    obtain ⟨K, KX, c⟩ := Y
    have hmg : mg ("law" : PySem.Str) = some (.ref fa) := by
      have e : (HandSHeadRun.topDef (OpenLaw.row PySem.Challenge.rw_columnlaws_k03_texts_refused).prog 35).name = ("law" : PySem.Str) := by kernel_rfl
      rw [← e]
      exact hmg0
    obtain ⟨fd, hb, hF⟩ := Lw.facts (w := w) KX G hmg c 60
    exact ⟨K, fd, _, KX, hb, fun H a ns hl hO hS => by
      obtain ⟨fin, hf⟩ := Lw.law_true ns hl
      exact Mi.law_sp hO hS hf, hF⟩
