import PyProof.Rows.All
import Wide.All
import OpenK.AllK
import Wide.FinOn
import HandS.ForMost
import HandS.ForExc
import HandS.ForDict
import HandS.Style
import HandS.Flow
import HandS.TupMul
import HandS.Deep
import HandS.Text
import HandS.IsInst
import HandS.SetKeys
import HandS.TryOnly
import HandS.WordsExc
import HandS.ExcOwn
import HandS.Iter
import KE.SortData
import HandS.DictComp
import KE.KDictSum
import HandS.ExcValue
import HandS.SetTxt0
import HandS.SetFor
import HandS.Strs
import KE.KExcSuper
import KE.KSuper
import HandS.ExcInit
import HandS.Nested
import HandS.ExcField
import PySem.Challenge.RW_sameinsameout_k33_whole_stores_of_many_s
set_option Elab.async false
set_option linter.all false
set_option maxRecDepth 100000
set_option autoImplicit false

/-! A small language of values, heaps and steps for the programs' texts (by an AI agent): what an expression or a statement does, as plain functions. -/
namespace Y
open PySem

/-- values: what is never changed is told whole; what is changed stands in the heap -/
inductive PV where
  | non
  | bl (b : Bool)
  | int (i : Int)
  | str (s : List Nat)
  | tup (l : List PV)
  | lst (l : List PV)
  | dct (l : List (PV × PV))
  | ref (n : Nat)
  | exn (c : Nat) (fs : List (Nat × PV))
  | scr (l : List Int)
  deriving Inhabited

mutual
def PV.beq : PV → PV → Bool
  | .non, .non => true
  | .bl a, .bl b => a == b
  | .int a, .int b => a == b
  | .str a, .str b => a == b
  | .tup a, .tup b => PV.beqL a b
  | .lst a, .lst b => PV.beqL a b
  | .dct a, .dct b => PV.beqP a b
  | .ref a, .ref b => a == b
  | .exn c a, .exn d b => c == d && PV.beqF a b
  | .scr a, .scr b => a == b
  | _, _ => false
def PV.beqL : List PV → List PV → Bool
  | [], [] => true
  | a :: r, b :: s => PV.beq a b && PV.beqL r s
  | _, _ => false
def PV.beqP : List (PV × PV) → List (PV × PV) → Bool
  | [], [] => true
  | (a, c) :: r, (b, d) :: s => PV.beq a b && (PV.beq c d && PV.beqP r s)
  | _, _ => false
def PV.beqF : List (Nat × PV) → List (Nat × PV) → Bool
  | [], [] => true
  | (a, c) :: r, (b, d) :: s => a == b && (PV.beq c d && PV.beqF r s)
  | _, _ => false
end
mutual
theorem PV.beq_ok : ∀ (a b : PV), PV.beq a b = true ↔ a = b
  | .non, b => by cases b <;> simp [PV.beq]
  | .bl a, b => by cases b <;> simp [PV.beq]
  | .int a, b => by cases b <;> simp [PV.beq]
  | .str a, b => by cases b <;> simp [PV.beq]
  | .tup a, b => by cases b <;> simp [PV.beq, PV.beqL_ok a]
  | .lst a, b => by cases b <;> simp [PV.beq, PV.beqL_ok a]
  | .dct a, b => by cases b <;> simp [PV.beq, PV.beqP_ok a]
  | .ref a, b => by cases b <;> simp [PV.beq]
  | .exn c a, b => by cases b <;> simp [PV.beq, PV.beqF_ok a]
  | .scr a, b => by cases b <;> simp [PV.beq]
theorem PV.beqL_ok : ∀ (a b : List PV), PV.beqL a b = true ↔ a = b
  | [], b => by cases b <;> simp [PV.beqL]
  | x :: r, b => by cases b <;> simp [PV.beqL, PV.beq_ok x, PV.beqL_ok r]
theorem PV.beqP_ok : ∀ (a b : List (PV × PV)), PV.beqP a b = true ↔ a = b
  | [], b => by cases b <;> simp [PV.beqP]
  | (x, y) :: r, b => by
    rcases b with _ | ⟨⟨u, v⟩, s⟩
    · simp [PV.beqP]
    · simp [PV.beqP, PV.beq_ok x, PV.beq_ok y, PV.beqP_ok r, and_assoc]
theorem PV.beqF_ok : ∀ (a b : List (Nat × PV)), PV.beqF a b = true ↔ a = b
  | [], b => by cases b <;> simp [PV.beqF]
  | (x, y) :: r, b => by
    rcases b with _ | ⟨⟨u, v⟩, s⟩
    · simp [PV.beqF]
    · simp [PV.beqF, PV.beq_ok y, PV.beqF_ok r, and_assoc]
end
instance : DecidableEq PV := fun a b => if h : PV.beq a b = true then isTrue ((PV.beq_ok a b).mp h) else isFalse fun e => h ((PV.beq_ok a b).mpr e)

/-- what stands in the heap -/
inductive VO where
  | gone
  | lst (l : List PV)
  | dct (kvs : List (PV × PV))
  | ldct (kvs : List (PV × PV))
  | ins (c : Nat) (fs : List (Nat × PV))
  deriving Inhabited
abbrev VH := List VO
abbrev Sl := List (Option PV)

inductive R (α : Type) where
  | ok (a : α) (h : VH)
  | exc (c : Nat) (fs : List (Nat × PV)) (h : VH)
  | bad
def R.bnd {α β : Type} (r : R α) (f : α → VH → R β) : R β := match r with
  | .ok a h => f a h
  | .exc c fs h => .exc c fs h
  | .bad => .bad
@[simp] theorem R.bnd_ok {α β : Type} (a : α) (h : VH) (f : α → VH → R β) : (R.ok a h).bnd f = f a h := rfl
@[simp] theorem R.bnd_exc {α β : Type} (c : Nat) (fs : List (Nat × PV)) (h : VH) (f : α → VH → R β) : (R.exc c fs h : R α).bnd f = .exc c fs h := rfl
@[simp] theorem R.bnd_bad {α β : Type} (f : α → VH → R β) : (R.bad : R α).bnd f = .bad := rfl

/-- nothing may be raised within -/
def R.calm {α : Type} (r : R α) : R α := match r with
  | .ok a h => .ok a h
  | _ => .bad
/-- what a def does: of its arguments and the heap -/
abbrev Fn := List PV → VH → R PV
abbrev EM := Sl → VH → R PV
abbrev TM := Sl → VH → R Bool
abbrev AM := Sl → VH → R (List PV)

inductive RS where
  | nx (σ : Sl) (h : VH)
  | ret (v : PV) (h : VH)
  | brk (σ : Sl) (h : VH)
  | cnt (σ : Sl) (h : VH)
  | exc (c : Nat) (fs : List (Nat × PV)) (σ : Sl) (h : VH)
  | bad
abbrev SM := Sl → VH → RS
/-- an expression's end, then a statement's -/
def R.thn {α : Type} (r : R α) (σ : Sl) (f : α → VH → RS) : RS := match r with
  | .ok a h => f a h
  | .exc c fs h => .exc c fs σ h
  | .bad => .bad
@[simp] theorem R.thn_ok {α : Type} (a : α) (h : VH) (σ : Sl) (f : α → VH → RS) : (R.ok a h).thn σ f = f a h := rfl
@[simp] theorem R.thn_exc {α : Type} (c : Nat) (fs : List (Nat × PV)) (h : VH) (σ : Sl) (f : α → VH → RS) : (R.exc c fs h : R α).thn σ f = .exc c fs σ h := rfl
@[simp] theorem R.thn_bad {α : Type} (σ : Sl) (f : α → VH → RS) : (R.bad : R α).thn σ f = .bad := rfl

/-! ### the most that a text or a row may have -/
def line : Nat := 16777216

/-! ### expressions -/
def mBad {α : Type} : Sl → VH → R α := fun _ _ => .bad
def retO {α : Type} (o : Option α) (h : VH) : R α := match o with
  | some v => .ok v h
  | none => .bad
@[simp] theorem retO_some {α : Type} (a : α) (h : VH) : retO (some a) h = .ok a h := rfl
@[simp] theorem retO_none {α : Type} (h : VH) : retO (none : Option α) h = .bad := rfl
def retH {α : Type} (o : Option (α × VH)) : R α := match o with
  | some (v, h) => .ok v h
  | none => .bad
@[simp] theorem retH_some {α : Type} (a : α) (h : VH) : retH (some (a, h)) = .ok a h := rfl
@[simp] theorem retH_none {α : Type} : retH (none : Option (α × VH)) = .bad := rfl
def notExn : PV → Bool
  | .exn _ _ => false
  | _ => true
def mVar (i : Nat) : EM := fun σ h => match σ[i]? with
  | some (some v) => if notExn v = true then .ok v h else .bad
  | _ => .bad
def mC (v : PV) : EM := fun _ h => .ok v h
def mOp1 (f : PV → VH → Option PV) (a : EM) : EM := fun σ h => (a σ h).bnd fun x h1 => retO (f x h1) h1
def mOp2 (f : PV → PV → VH → Option PV) (a b : EM) : EM := fun σ h => (a σ h).bnd fun x h1 => (b σ h1).bnd fun y h2 => retO (f x y h2) h2
def mNil : AM := fun _ h => .ok [] h
def mCons (a : EM) (r : AM) : AM := fun σ h => (a σ h).bnd fun x h1 => (r σ h1).bnd fun xs h2 => .ok (x :: xs) h2
/-- a def of the text, a built-in that changes nothing, one that gives new rows, a built-in's method -/
def mCall (F : Fn) (as : AM) : EM := fun σ h => (as σ h).bnd F
def mBi (F : List PV → VH → Option PV) (as : AM) : EM := fun σ h => (as σ h).bnd fun vs h1 => retO (F vs h1) h1
def mBiL (F : List PV → VH → Option (List PV)) (as : AM) : AM := fun σ h => (as σ h).bnd fun vs h1 => retO (F vs h1) h1
/-- a new instance, then __init__ -/
def mMake (c : Nat) (F : Fn) (as : AM) : EM := fun σ h => (as σ h).bnd fun vs h1 => (F (.ref h1.length :: vs) (h1 ++ [.ins c []])).bnd fun v h2 => match v with
  | .non => .ok (.ref h1.length) h2
  | _ => .bad
def clsOf (x : PV) (h : VH) : Option Nat := match x with
  | .ref n => match h[n]? with
    | some (.ins c _) => some c
    | _ => none
  | _ => none
def kind (x : PV) (h : VH) : String := match x with
  | .str _ => "str"
  | .lst _ => "list"
  | .ref n => match h[n]? with
    | some (.lst _) => "list"
    | some (.dct _) => "dict"
    | _ => ""
  | _ => ""
abbrev Bm := PV → List PV → VH → Option (PV × VH)
/-- o.m(..): a method of the text's own class, or a built-in's -/
def mMeth (C : Nat → Option Fn) (ks : List String) (B : Bm) (o : EM) (as : AM) : EM := fun σ h => ((o σ h).calm).bnd fun x h1 => match clsOf x h1 with
  | some c => match C c with
    | some F => (as σ h1).bnd fun vs h2 => F (x :: vs) h2
    | none => .bad
  | none => if kind x h1 ∈ ks then (as σ h1).bnd fun vs h2 => retH (if kind x h2 = kind x h1 then B x vs h2 else none) else .bad
def mIf (t : TM) (a b : EM) : EM := fun σ h => (t σ h).bnd fun c h1 => if c = true then a σ h1 else b σ h1
/-- a bool as a test, a test of a value by its truth -/
def mTest (a : EM) : TM := fun σ h => (a σ h).bnd fun x h1 => match x with
  | .bl b => .ok b h1
  | _ => .bad
def truth (x : PV) (h : VH) : R Bool := match x with
  | .non => .ok false h
  | .bl b => .ok b h
  | .int i => .ok (i != 0) h
  | .str s => .ok (!s.isEmpty) h
  | .tup l => .ok (!l.isEmpty) h
  | .lst l => .ok (!l.isEmpty) h
  | .dct _ => .bad
  | .ref n => match h[n]? with
    | some (.lst l) => .ok (!l.isEmpty) h
    | some (.dct l) => .ok (!l.isEmpty) h
    | _ => .bad
  | .exn _ _ => .bad
  | .scr _ => .bad
def mTruth (a : EM) : TM := fun σ h => (a σ h).bnd truth
def mAnd (t u : TM) : TM := fun σ h => (t σ h).bnd fun c h1 => if c = true then u σ h1 else .ok false h1
def mOr (t u : TM) : TM := fun σ h => (t σ h).bnd fun c h1 => if c = true then .ok true h1 else u σ h1
def mNot (t : TM) : TM := fun σ h => (t σ h).bnd fun c h1 => .ok (!c) h1
/-- a and b, a or b, as values: the left ones are bools -/
def mAndV (a b : EM) : EM := fun σ h => (a σ h).bnd fun x h1 => match x with
  | .bl true => b σ h1
  | .bl false => .ok (.bl false) h1
  | _ => .bad
def mOrV (a b : EM) : EM := fun σ h => (a σ h).bnd fun x h1 => match x with
  | .bl false => b σ h1
  | .bl true => .ok (.bl true) h1
  | _ => .bad
/-- a test as a value -/
def mNotV (t : TM) : EM := fun σ h => (t σ h).bnd fun c h1 => .ok (.bl (!c)) h1

/-! ### operations on values -/
def strLe (n : Nat) : Bool := Nat.ble n line
/-! bounds, asked so that nothing is counted up to them -/
def rngOk (i : Int) : Bool := match i with
  | .ofNat n => Nat.ble n 4000000000
  | .negSucc n => Nat.ble n 4000000000
def mulOk (i : Int) : Bool := match i with
  | .ofNat n => Nat.ble n 18446744073709551615
  | .negSucc n => Nat.ble n 18446744073709551614
def divOk (i : Int) : Bool := match i with
  | .ofNat n => Nat.blt 0 n && Nat.ble n 1073741823
  | .negSucc _ => false
def strOk (i : Int) : Bool := match i with
  | .ofNat n => Nat.ble n 999999999999999999
  | .negSucc _ => false
theorem rngOk_out {i : Int} (h : rngOk i = true) : -4000000000 ≤ i + 1 ∧ i ≤ 4000000000 := by
  cases i with
  | ofNat n =>
    have h := Nat.ble_eq.mp (show Nat.ble n 4000000000 = true from h)
    rw [show Int.ofNat n = (n : Int) from rfl]
    omega
  | negSucc n =>
    have h := Nat.ble_eq.mp (show Nat.ble n 4000000000 = true from h)
    rw [Int.negSucc_eq n]
    omega
theorem rngOk_of {i : Int} (h1 : -4000000000 ≤ i) (h2 : i ≤ 4000000000) : rngOk i = true := by
  cases i with
  | ofNat n =>
    rw [show Int.ofNat n = (n : Int) from rfl] at h1 h2
    exact Nat.ble_eq.mpr (by omega)
  | negSucc n =>
    rw [Int.negSucc_eq n] at h1 h2
    exact Nat.ble_eq.mpr (by omega)
theorem mulOk_out {i : Int} (h : mulOk i = true) : -18446744073709551616 < i ∧ i < 18446744073709551616 := by
  cases i with
  | ofNat n =>
    have h := Nat.ble_eq.mp (show Nat.ble n 18446744073709551615 = true from h)
    rw [show Int.ofNat n = (n : Int) from rfl]
    omega
  | negSucc n =>
    have h := Nat.ble_eq.mp (show Nat.ble n 18446744073709551614 = true from h)
    rw [Int.negSucc_eq n]
    omega
theorem mulOk_of {i : Int} (h1 : -18446744073709551616 < i) (h2 : i < 18446744073709551616) : mulOk i = true := by
  cases i with
  | ofNat n =>
    rw [show Int.ofNat n = (n : Int) from rfl] at h1 h2
    exact Nat.ble_eq.mpr (by omega)
  | negSucc n =>
    rw [Int.negSucc_eq n] at h1 h2
    exact Nat.ble_eq.mpr (by omega)
theorem divOk_out {i : Int} (h : divOk i = true) : 0 < i ∧ i < 1073741824 := by
  cases i with
  | ofNat n =>
    have h := Bool.and_eq_true_iff.mp (show (Nat.blt 0 n && Nat.ble n 1073741823) = true from h)
    have h1 := Nat.blt_eq.mp h.1
    have h2 := Nat.ble_eq.mp h.2
    rw [show Int.ofNat n = (n : Int) from rfl]
    omega
  | negSucc n => cases h
theorem divOk_of {i : Int} (h1 : 0 < i) (h2 : i < 1073741824) : divOk i = true := by
  cases i with
  | ofNat n =>
    rw [show Int.ofNat n = (n : Int) from rfl] at h1 h2
    exact Bool.and_eq_true_iff.mpr ⟨Nat.blt_eq.mpr (by omega), Nat.ble_eq.mpr (by omega)⟩
  | negSucc n =>
    rw [Int.negSucc_eq n] at h1
    omega
theorem strOk_out {i : Int} (h : strOk i = true) : 0 ≤ i ∧ i < 1000000000000000000 := by
  cases i with
  | ofNat n =>
    have h := Nat.ble_eq.mp (show Nat.ble n 999999999999999999 = true from h)
    rw [show Int.ofNat n = (n : Int) from rfl]
    omega
  | negSucc n => cases h
theorem strOk_of {i : Int} (h1 : 0 ≤ i) (h2 : i < 1000000000000000000) : strOk i = true := by
  cases i with
  | ofNat n =>
    rw [show Int.ofNat n = (n : Int) from rfl] at h1 h2
    exact Nat.ble_eq.mpr (by omega)
  | negSucc n =>
    rw [Int.negSucc_eq n] at h1
    omega
/-- what a row of values is: a list or a tuple that is never changed, or a list of the heap -/
def asList (x : PV) (h : VH) : Option (List PV) := match x with
  | .lst l => some l
  | .ref n => match h[n]? with
    | some (.lst l) => some l
    | _ => none
  | _ => none
def asSeq (x : PV) (h : VH) : Option (List PV) := match x with
  | .tup l => some l
  | _ => asList x h
def asDict (x : PV) (h : VH) : Option (List (PV × PV)) := match x with
  | .dct l => some l
  | .ref n => match h[n]? with
    | some (.dct l) => some l
    | some (.ldct l) => some l
    | _ => none
  | _ => none
def rep {α : Type} (l : List α) : Nat → List α
  | 0 => []
  | n + 1 => l ++ rep l n
def binO (op : Operator) (x y : PV) (h : VH) : Option PV := match op, x, y with
  | .Add, .int a, .int b => some (.int (a + b))
  | .Sub, .int a, .int b => some (.int (a - b))
  | .Mult, .int a, .int b => if mulOk a || mulOk b then some (.int (a * b)) else none
  | .FloorDiv, .int a, .int b => if divOk b then some (.int (a / b)) else none
  | .Mod, .int a, .int b => if 0 < b then some (.int (a % b)) else none
  | .Add, .str a, .str b => if a.length + b.length ≤ line then some (.str (a ++ b)) else none
  | .Mult, .str a, .int b => if a.length * b.toNat ≤ line ∧ rngOk b = true then some (.str (rep a b.toNat)) else none
  | .Add, .tup a, .tup b => if a.length + b.length ≤ line ∧ a ≠ [] ∧ b ≠ [] then some (.tup (a ++ b)) else none
  | .Mult, .tup a, .int b => if a.length * b.toNat ≤ line ∧ rngOk b = true then some (.tup (rep a b.toNat)) else none
  | .Add, .lst a, y => match asList y h with
    | some b => if a.length + b.length ≤ line then some (.lst (a ++ b)) else none
    | none => none
  | .Add, .ref n, y => match asList (.ref n) h, asList y h with
    | some a, some b => if a.length + b.length ≤ line then some (.lst (a ++ b)) else none
    | _, _ => none
  | .Mult, .lst a, .int b => if a.length * b.toNat ≤ line ∧ rngOk b = true then some (.lst (rep a b.toNat)) else none
  | _, _, _ => none

/-! #### == -/
mutual
/-- none, ints, texts, tuples and lists of these: two of these are equal in Python just if they are the same here -/
def PV.plain : PV → Bool
  | .non => true
  | .int _ => true
  | .str _ => true
  | .tup l => PV.plainL l
  | .lst l => PV.plainL l
  | _ => false
def PV.plainL : List PV → Bool
  | [] => true
  | a :: r => PV.plain a && PV.plainL r
end
mutual
def PV.dep : PV → Nat
  | .tup l => PV.depL l + 1
  | .lst l => PV.depL l + 1
  | _ => 0
def PV.depL : List PV → Nat
  | [] => 0
  | a :: r => max (PV.dep a) (PV.depL r)
end
/-- a list of the heap, read -/
def look (x : PV) (h : VH) : PV := match x with
  | .ref n => match h[n]? with
    | some (.lst l) => .lst l
    | _ => .ref n
  | _ => x
def eqO (x y : PV) : Option Bool := match x, y with
  | .bl a, .bl b => some (a == b)
  | _, _ => if x.plain && y.plain && Nat.ble x.dep 60 && Nat.ble y.dep 60 then some (decide (x = y)) else none
def strLt : List Nat → List Nat → Bool
  | _, [] => false
  | [], _ :: _ => true
  | a :: r, b :: s => if a = b then strLt r s else decide (a < b)
/-- one text within another, from some place on -/
def pre : List Nat → List Nat → Bool
  | [], _ => true
  | _ :: _, [] => false
  | a :: r, b :: s => a == b && pre r s
def within (x : List Nat) : List Nat → Bool
  | [] => x.isEmpty
  | b :: s => pre x (b :: s) || within x s
def keyOk : PV → Bool
  | .int _ => true
  | .str _ => true
  | _ => false
def kget (kvs : List (PV × PV)) (k : PV) : Option PV := (kvs.find? fun p => decide (p.1 = k)).map (·.2)
def kput (kvs : List (PV × PV)) (k v : PV) : List (PV × PV) :=
  if (kget kvs k).isSome then kvs.map fun p => if p.1 = k then (p.1, v) else p else kvs ++ [(k, v)]
def kdrop (kvs : List (PV × PV)) (k : PV) : List (PV × PV) := kvs.filter fun p => decide (p.1 ≠ k)
def inO (x y : PV) (h : VH) : Option Bool := match y with
  | .str b => match x with
    | .str a => some (within a b)
    | _ => none
  | .tup l => if x.plain && PV.plainL l && Nat.ble x.dep 0 && Nat.ble (PV.depL l) 0 then some (decide (x ∈ l)) else none
  | y => match asList y h with
    | some l => if x.plain && PV.plainL l && Nat.ble x.dep 60 && Nat.ble (PV.depL l) 58 then some (decide (x ∈ l)) else none
    | none => match asDict y h with
      | some kvs => if keyOk x then some (kget kvs x).isSome else none
      | none => none
def cmpO (op : CmpOp) (x y : PV) (h : VH) : Option Bool := match op with
  | .Eq => eqO (look x h) (look y h)
  | .NotEq => (eqO (look x h) (look y h)).map (!·)
  | .Lt => match x, y with
    | .int a, .int b => some (decide (a < b))
    | .str a, .str b => some (strLt a b)
    | _, _ => none
  | .LtE => match x, y with
    | .int a, .int b => some (decide (a ≤ b))
    | .str a, .str b => some (!strLt b a)
    | _, _ => none
  | .Gt => match x, y with
    | .int a, .int b => some (decide (b < a))
    | .str a, .str b => some (strLt b a)
    | _, _ => none
  | .GtE => match x, y with
    | .int a, .int b => some (decide (b ≤ a))
    | .str a, .str b => some (!strLt a b)
    | _, _ => none
  | .In => inO x y h
  | .NotIn => (inO x y h).map (!·)
  | .Is => if y = .non then some (decide (x = .non)) else none
  | .IsNot => if y = .non then some (!decide (x = .non)) else none
def cmpV (op : CmpOp) (x y : PV) (h : VH) : Option PV := (cmpO op x y h).map PV.bl

/-! #### items, slices -/
def atI (n : Nat) (i : Int) : Option Nat := if 0 ≤ i then (if i < n then some i.toNat else none) else if -(n : Int) ≤ i then some (i + n).toNat else none
def itO {α : Type} (l : List α) (i : Int) : Option α := (atI l.length i).bind fun j => l[j]?
def ixO (x y : PV) (h : VH) : Option PV := match x, y with
  | .str s, .int i => (itO s i).map fun c => .str [c]
  | x, y => match asSeq x h, y with
    | some l, .int i => itO l i
    | _, _ => match asDict x h with
      | some kvs => if keyOk y then kget kvs y else none
      | none => none
def cutIx (n d : Nat) : Option Int → Nat
  | none => d
  | some i => if i < 0 then (i + n).toNat else min i.toNat n
def cut {α : Type} (l : List α) (lo hi : Option Int) : List α := (l.drop (cutIx l.length 0 lo)).take (cutIx l.length l.length hi - cutIx l.length 0 lo)
def slO (x : PV) (lo hi : Option Int) (h : VH) : Option PV := match x with
  | .str s => some (.str (cut s lo hi))
  | .tup l => if cut l lo hi = l then none else some (.tup (cut l lo hi))
  | x => (asList x h).map fun l => .lst (cut l lo hi)
abbrev OM := Sl → VH → R (Option Int)
def mNoPart : OM := fun _ h => .ok none h
def mPart (a : EM) : OM := fun σ h => (a σ h).bnd fun x h1 => match x with
  | .int i => .ok (some i) h1
  | _ => .bad
def mSl (a : EM) (lo hi : OM) : EM := fun σ h => (a σ h).bnd fun x h1 => (lo σ h1).bnd fun l h2 => (hi σ h2).bnd fun u h3 => retO (slO x l u h3) h3

/-! #### attributes -/
def fget (fs : List (Nat × PV)) (f : Nat) : Option PV := fs.lookup f
def fput (f : Nat) (v : PV) : List (Nat × PV) → List (Nat × PV)
  | [] => [(f, v)]
  | (g, u) :: r => if g = f then (g, v) :: r else (g, u) :: fput f v r
/-- ok: which class has which fields -/
def atO (ok : Nat → Nat → Bool) (f : Nat) (x : PV) (h : VH) : Option PV := match x with
  | .ref n => match h[n]? with
    | some (.ins c fs) => if ok c f = true then fget fs f else none
    | _ => none
  | _ => none
/-- a field of the exception in slot i -/
def mExAt (i f : Nat) : EM := fun σ h => match σ[i]? with
  | some (some (.exn _ fs)) => retO (fget fs f) h
  | _ => .bad

/-! ### displays, comprehensions -/
def mTup (as : AM) : EM := fun σ h => (as σ h).bnd fun xs h1 => if xs.length ≤ line then .ok (.tup xs) h1 else .bad
/-- new rows: as they are, or laid in the heap -/
def mFz (m : AM) : EM := fun σ h => (m σ h).bnd fun xs h1 => .ok (.lst xs) h1
def mReg (m : AM) : EM := fun σ h => (m σ h).bnd fun xs h1 => .ok (.ref h1.length) (h1 ++ [.lst xs])
def mNewL (as : AM) : AM := fun σ h => (as σ h).bnd fun xs h1 => if xs.length ≤ line then .ok xs h1 else .bad
abbrev DM := Sl → VH → R (List (PV × PV))
def mFzD (m : DM) : EM := fun σ h => (m σ h).bnd fun kvs h1 => .ok (.dct kvs) h1
def mRegD (m : DM) : EM := fun σ h => (m σ h).bnd fun kvs h1 => .ok (.ref h1.length) (h1 ++ [.dct kvs])
def mPNil : DM := fun _ h => .ok [] h
def mPCons (k v : EM) (r : DM) : DM := fun σ h => (k σ h).bnd fun x h1 => (v σ h1).bnd fun y h2 => if keyOk x then (r σ h2).bnd fun kvs h3 => .ok ((x, y) :: kvs) h3 else .bad
def kmerge (kvs more : List (PV × PV)) : List (PV × PV) := more.foldl (fun acc p => kput acc p.1 p.2) kvs
def mDisp (m : DM) : DM := fun σ h => ((m σ h).calm).bnd fun kvs h1 => .ok (kmerge [] kvs) h1

/-- what a loop walks -/
abbrev IM := Sl → VH → R (List PV)
def mIter (a : EM) : IM := fun σ h => (a σ h).bnd fun x h1 => match x with
  | .lst l => .ok l h1
  | .tup l => .ok l h1
  | .str s => .ok (s.map fun c => .str [c]) h1
  | .scr l => .ok (l.map PV.int) h1
  | _ => .bad
def rangeL (lo : Int) (n : Nat) : List PV := (List.range n).map fun (i : Nat) => PV.int (lo + (i : Int))
def mRange (as : AM) : IM := fun σ h => (as σ h).bnd fun xs h1 => match xs with
  | [.int j] => if rngOk j then .ok (rangeL 0 j.toNat) h1 else .bad
  | [.int i, .int j] => if rngOk i && rngOk j then .ok (rangeL i (j - i).toNat) h1 else .bad
  | _ => .bad

/-- targets: nothing is raised in one -/
abbrev GM := PV → Sl → VH → Option (Sl × VH)
abbrev GMs := List PV → Sl → VH → Option (Sl × VH)
def R.opt {α : Type} (r : R α) : Option (α × VH) := match r with
  | .ok a h => some (a, h)
  | _ => none
def tName (i : Nat) : GM := fun v σ h => some (σ.set i (some v), h)
def tNil : GMs := fun vs σ h => match vs with
  | [] => some (σ, h)
  | _ => none
def tCons (t : GM) (u : GMs) : GMs := fun vs σ h => match vs with
  | v :: r => match t v σ h with
    | some (σ', h') => u r σ' h'
    | none => none
  | [] => none
def tTup (t : GMs) : GM := fun v σ h => match v with
  | .tup l => t l σ h
  | _ => none
def tBad : GM := fun _ _ _ => none
def vset (h : VH) (n : Nat) (o : VO) : VH := h.set n o
/-- o[i] = v -/
def setIx (o i v : PV) (h : VH) : Option VH := match o with
  | .ref n => match h[n]? with
    | some (.lst l) => match i with
      | .int k => (atI l.length k).map fun j => vset h n (.lst (l.set j v))
      | _ => none
    | some (.dct kvs) => if keyOk i && Nat.blt kvs.length line then some (vset h n (.dct (kput kvs i v))) else none
    | _ => none
  | _ => none
def tSub (o i : EM) : GM := fun v σ h => match (o σ h).opt with
  | some (x, h1) => match (i σ h1).opt with
    | some (y, h2) => match setIx x y v h2 with
      | some h3 => some (σ, h3)
      | none => none
    | none => none
  | none => none
def setAt (ok : Nat → Nat → Bool) (f : Nat) (o v : PV) (h : VH) : Option VH := match o with
  | .ref n => match h[n]? with
    | some (.ins c fs) => if ok c f && Nat.blt fs.length 900 then some (vset h n (.ins c (fput f v fs))) else none
    | _ => none
  | _ => none

/-- the comprehension's loop: own names are forgotten behind each turn -/
def wipe (σ : Sl) : List Nat → Sl
  | [] => σ
  | v :: vs => (wipe σ vs).set v none
def lcLoop (tg : GM) (t : TM) (e : EM) (σ : Sl) : List PV → List PV → VH → R (List PV)
  | [], acc, h => .ok acc h
  | x :: r, acc, h => match tg x σ h with
    | some (σ', h1) => ((t σ' h1).calm).bnd fun b h2 =>
      if b = true then ((e σ' h2).calm).bnd fun y h3 => if Nat.blt acc.length line then lcLoop tg t e σ r (acc ++ [y]) h3 else .bad
      else lcLoop tg t e σ r acc h2
    | none => .bad
def mYes : TM := fun _ h => .ok true h
def mLc (it : IM) (tg : GM) (t : TM) (e : EM) (own : List Nat) : AM := fun σ h => (it σ h).bnd fun xs h1 => lcLoop tg t e (wipe σ own) xs [] h1

/-! ### statements -/
def sSkip : SM := fun σ h => .nx σ h
def sSeq (a b : SM) : SM := fun σ h => match a σ h with
  | .nx σ' h' => b σ' h'
  | r => r
def sBad : SM := fun _ _ => .bad
def sAsg (e : EM) (t : GM) : SM := fun σ h => (e σ h).thn σ fun v h1 => match t v σ h1 with
  | some (σ', h2) => .nx σ' h2
  | none => .bad
/-- o.f = e -/
def sAt (ok : Nat → Nat → Bool) (f : Nat) (o e : EM) : SM := fun σ h => (e σ h).thn σ fun v h1 => (o σ h1).thn σ fun x h2 => match setAt ok f x v h2 with
  | some h3 => .nx σ h3
  | none => .bad
def sAug (i : Nat) (f : PV → PV → VH → Option PV) (e : EM) : SM := fun σ h => (mVar i σ h).thn σ fun x h0 => (e σ h0).thn σ fun y h1 => match f x y h1 with
  | some z => .nx (σ.set i (some z)) h1
  | none => .bad
/-- o.f op= e -/
def sAugAt (ok : Nat → Nat → Bool) (f : Nat) (op : PV → PV → VH → Option PV) (o e : EM) : SM := fun σ h => (o σ h).thn σ fun x h1 => match atO ok f x h1 with
  | some old => (e σ h1).thn σ fun y h3 => match op old y h3 with
    | some z => match (if clsOf x h3 = clsOf x h1 then setAt ok f x z h3 else none) with
      | some h5 => .nx σ h5
      | none => .bad
    | none => .bad
  | none => .bad
def sExpr (e : EM) : SM := fun σ h => (e σ h).thn σ fun _ h1 => .nx σ h1
def sIf (t : TM) (a b : SM) : SM := fun σ h => (t σ h).thn σ fun c h1 => if c = true then a σ h1 else b σ h1
def sRet (e : EM) : SM := fun σ h => (e σ h).thn σ fun v h1 => .ret v h1
def sRetN : SM := fun _ h => .ret .non h
def sBrk : SM := fun σ h => .brk σ h
def sCnt : SM := fun σ h => .cnt σ h
/-- behind a turn -/
def RS.again (r : RS) (k : Sl → VH → RS) : RS := match r with
  | .nx σ h => k σ h
  | .cnt σ h => k σ h
  | .brk σ h => .nx σ h
  | .ret v h => .ret v h
  | .exc c fs σ h => .exc c fs σ h
  | .bad => .bad
def forL (tg : GM) (b : SM) : List PV → SM
  | [], σ, h => .nx σ h
  | x :: r, σ, h => match tg x σ h with
    | some (σ', h1) => (b σ' h1).again (forL tg b r)
    | none => .bad
def sFor (it : IM) (tg : GM) (b : SM) : SM := fun σ h => (it σ h).thn σ fun xs h1 => forL tg b xs σ h1
def whN (t : TM) (b : SM) : Nat → SM
  | 0, _, _ => .bad
  | n + 1, σ, h => (t σ h).thn σ fun c h1 => if c = true then (b σ h1).again (whN t b n) else .nx σ h1
open Classical in
/-- the while's end, if it comes to one -/
noncomputable def sWhile (t : TM) (b : SM) : SM := fun σ h => if e : ∃ n, whN t b n σ h ≠ .bad then whN t b (Classical.choose e) σ h else .bad
/-- an exception of the program's own, made and raised -/
def sRaise (c : Nat) (mk : List PV → VH → R (List (Nat × PV))) (as : AM) : SM := fun σ h => (as σ h).thn σ fun vs h1 => (mk vs h1).thn σ fun fs h2 => .exc c fs σ h2
def RS.calm (r : RS) : RS := match r with
  | .exc _ _ _ _ => .bad
  | r => r
/-- try: a; except (classes cs): b; the suite sees no exception and raises none -/
def sTry (a : SM) (cs : Nat → Option Bool) (b : SM) : SM := fun σ h => match a σ h with
  | .exc c fs σ' h' => match cs c with
    | some true => (b σ' h').calm
    | some false => .exc c fs σ' h'
    | none => .bad
  | r => r
/-- .. as slot i, which is forgotten behind the suite -/
def RS.without (r : RS) (i : Nat) : RS := match r with
  | .nx σ h => .nx (σ.set i none) h
  | .cnt σ h => .cnt (σ.set i none) h
  | .brk σ h => .brk (σ.set i none) h
  | .exc _ _ _ _ => .bad
  | r => r
def sTryAs (a : SM) (cs : Nat → Option Bool) (i : Nat) (b : SM) : SM := fun σ h => match a σ h with
  | .exc c fs σ' h' => match cs c with
    | some true => (b (σ'.set i (some (.exn c fs))) h').without i
    | some false => .exc c fs σ' h'
    | none => .bad
  | r => r

/-! ### a def: its body at its arguments -/
def startS (n : Nat) (vs : List PV) : Sl := vs.map some ++ List.replicate (n - vs.length) none
def runDef (np n : Nat) (b : SM) : Fn := fun vs h => if vs.length = np then (match b (startS n vs) h with
  | .nx _ h' => .ok .non h'
  | .ret v h' => .ok v h'
  | .exc c fs _ h' => .exc c fs h'
  | _ => .bad) else .bad
end Y
namespace Y
/-! ### built-ins -/
def numS (n : Nat) : List Nat := (Nat.toDigits 10 n).map Char.toNat
def bLen : List PV → VH → Option PV := fun vs h => match vs with
  | [.str s] => some (.int s.length)
  | [x] => match asSeq x h with
    | some l => some (.int l.length)
    | none => (asDict x h).map fun k => .int k.length
  | _ => none
def bOrd : List PV → VH → Option PV := fun vs _ => match vs with
  | [.str [c]] => some (.int c)
  | _ => none
def bAbs : List PV → VH → Option PV := fun vs _ => match vs with
  | [.int i] => some (.int (if i < 0 then -i else i))
  | _ => none
def bInt : List PV → VH → Option PV := fun vs _ => match vs with
  | [.int i] => some (.int i)
  | _ => none
def bStr : List PV → VH → Option PV := fun vs _ => match vs with
  | [.int i] => if strOk i then some (.str (numS i.toNat)) else none
  | _ => none
def intsOf : List PV → Option (List Int)
  | [] => some []
  | .int i :: r => (intsOf r).map (i :: ·)
  | _ => none
def blsOf : List PV → Option (List Bool)
  | [] => some []
  | .bl i :: r => (blsOf r).map (i :: ·)
  | _ => none
def strsOf : List PV → Option (List (List Nat))
  | [] => some []
  | .str i :: r => (strsOf r).map (i :: ·)
  | _ => none
def bSum : List PV → VH → Option PV := fun vs h => match vs with
  | [x] => match asList x h with
    | some l => (intsOf l).map fun is => .int is.sum
    | none => none
  | _ => none
def bAny : List PV → VH → Option PV := fun vs h => match vs with
  | [x] => match asList x h with
    | some l => (blsOf l).map fun bs => .bl (bs.any id)
    | none => none
  | _ => none
def bAll : List PV → VH → Option PV := fun vs h => match vs with
  | [x] => match asList x h with
    | some l => (blsOf l).map fun bs => .bl (bs.all id)
    | none => none
  | _ => none
def bTuple : List PV → VH → Option PV := fun vs h => match vs with
  | [.tup l] => some (.tup l)
  | [x] => (asList x h).map .tup
  | _ => none
def bList : List PV → VH → Option (List PV) := fun vs h => match vs with
  | [x] => asSeq x h
  | _ => none
/-- isinstance(x, T) -/
def isiO (t : String) (x : PV) : Option PV := match x with
  | .str _ => if t = "str" then some (.bl true) else if t = "tuple" then some (.bl false) else none
  | .tup _ => if t = "tuple" then some (.bl true) else if t = "str" then some (.bl false) else none
  | .int _ => if t = "tuple" then some (.bl false) else if t = "str" then some (.bl false) else none
  | _ => none
def mIsi (t : String) (a : EM) : EM := fun σ h => (a σ h).bnd fun x h1 => retO (isiO t x) h1
/-! ### methods of built-ins -/
def joinT (sep : List Nat) : List (List Nat) → List Nat
  | [] => []
  | [p] => p
  | p :: q :: r => p ++ (sep ++ joinT sep (q :: r))
def bAppend : Bm := fun x vs h => match x, vs with
  | .ref n, [v] => match h[n]? with
    | some (.lst l) => if Nat.blt l.length line then some (.non, vset h n (.lst (l ++ [v]))) else none
    | _ => none
  | _, _ => none
def bGet : Bm := fun x vs h => match x with
  | .ref n => match h[n]? with
    | some (.dct kvs) => match vs with
      | [k] => if keyOk k then some ((kget kvs k).getD .non, h) else none
      | [k, d] => if keyOk k then some ((kget kvs k).getD d, h) else none
      | _ => none
    | _ => none
  | _ => none
def bSetdefault : Bm := fun x vs h => match x, vs with
  | .ref n, [k, d] => match h[n]? with
    | some (.dct kvs) => if keyOk k && Nat.blt kvs.length line then (match kget kvs k with
      | some v => some (v, h)
      | none => some (d, vset h n (.dct (kput kvs k d)))) else none
    | _ => none
  | _, _ => none
def bJoin : Bm := fun x vs h => match x, vs with
  | .str s, [l] => match asSeq l h with
    | some ps => match strsOf ps with
      | some ts => if (ts.map (·.length)).sum + ts.length * s.length ≤ line then some (.str (joinT s ts), h) else none
      | none => none
    | none => none
  | _, _ => none
def bPopL : List PV → List PV → Option (PV × List PV) := fun l vs => match vs with
  | [] => match l[l.length - 1]? with
    | some y => some (y, l.dropLast)
    | none => none
  | [.int i] => match atI l.length i with
    | some j => match l[j]? with
      | some y => some (y, l.eraseIdx j)
      | none => none
    | none => none
  | _ => none
def bPopD : List (PV × PV) → List PV → Option (PV × List (PV × PV)) := fun kvs vs => match vs with
  | [k] => if keyOk k then (match kget kvs k with
    | some v => some (v, kdrop kvs k)
    | none => none) else none
  | [k, d] => if keyOk k then (match kget kvs k with
    | some v => some (v, kdrop kvs k)
    | none => some (d, kvs)) else none
  | _ => none
def bPop : Bm := fun x vs h => match x with
  | .ref n => match h[n]? with
    | some (.lst l) => (bPopL l vs).map fun p => (p.1, vset h n (.lst p.2))
    | some (.dct kvs) => (bPopD kvs vs).map fun p => (p.1, vset h n (.dct p.2))
    | _ => none
  | _ => none
def bNone : Bm := fun _ _ _ => none
def bm (m : String) : Bm := if m = "append" then bAppend else if m = "get" then bGet else if m = "setdefault" then bSetdefault else if m = "join" then bJoin else if m = "pop" then bPop else bNone
end Y

/-! how the values and heaps of Y1 stand in the layer's (HandS), and what each combinator of Y1 is worth there -/
namespace Y
open PySem PySem.Spec PyProof.Rows L2

/-- places: the heap's n-th object stands at the n-th address -/
abbrev Pl := List (Option Addr)
def Has (ρ : Pl) (a : Addr) : Prop := ∃ n : Nat, ρ[n]? = some (some a)
/-- never changed any more -/
def Im (ρ : Pl) (ex : List Addr) (a : Addr) : Prop := ¬ Has ρ a ∧ a ∉ ex
def WrL (K : PySem.W.Frag) (a : Addr) (xs : List V) : Prop := ∃ (o : Obj) (its : Array Value) (n : Nat), K.lookup a = some o ∧ o.cls = .type "list" ∧ o.dict = none ∧ o.data = .seq its n ∧ its.size ≤ sizeLine ∧ Vals xs its.toList
def WrT (K : PySem.W.Frag) (a : Addr) (xs : List V) : Prop := ∃ (o : Obj) (its : Array Value) (n : Nat), K.lookup a = some o ∧ o.cls = .type "tuple" ∧ o.data = .seq its n ∧ its.size ≤ sizeLine ∧ Vals xs its.toList
def chOk (s : List Nat) : Prop := ∀ c ∈ s, c < 0x110000
structure StrR (s : List Nat) (z : Str) : Prop where
  eq : z.cps.toList = s
  len : s.length ≤ line
  ok : chOk s
inductive KeyR : PV → Key → Prop
  | int (i : Int) : KeyR (.int i) (.inl i)
  | str {s : List Nat} {z : Str} : StrR s z → KeyR (.str s) (.inr z)
mutual
inductive Rv (K : PySem.W.Frag) (ρ : Pl) (ex : List Addr) (H : Hp) : PV → V → Prop
  | non : Rv K ρ ex H .non .non
  | bl (b : Bool) : Rv K ρ ex H (.bl b) (.bl b)
  | int (i : Int) : Rv K ρ ex H (.int i) (.int i)
  | str {s : List Nat} {z : Str} : StrR s z → Rv K ρ ex H (.str s) (.str z)
  | tup {a : Addr} {vs : List V} {l : List PV} : (Rd H a (.tup vs) ∧ Im ρ ex a) ∨ WrT K a vs → Rvs K ρ ex H l vs → Rv K ρ ex H (.tup l) (.ref a)
  | lst {a : Addr} {vs : List V} {l : List PV} : H a = some (.lst vs) → Im ρ ex a → Rvs K ρ ex H l vs → Rv K ρ ex H (.lst l) (.ref a)
  | scr {a : Addr} {l : List Int} : (Rd H a (.lst (l.map V.int)) ∧ Im ρ ex a) ∨ WrL K a (l.map V.int) → Rv K ρ ex H (.scr l) (.ref a)
  | dct {a : Addr} {kvs : List (Key × V)} {l : List (PV × PV)} : Rd H a (.dK kvs) → Im ρ ex a → Rks K ρ ex H l kvs → Rv K ρ ex H (.dct l) (.ref a)
  | ref {n : Nat} {a : Addr} : ρ[n]? = some (some a) → Rv K ρ ex H (.ref n) (.ref a)
inductive Rvs (K : PySem.W.Frag) (ρ : Pl) (ex : List Addr) (H : Hp) : List PV → List V → Prop
  | nil : Rvs K ρ ex H [] []
  | cons {d : PV} {v : V} {ds : List PV} {vs : List V} : Rv K ρ ex H d v → Rvs K ρ ex H ds vs → Rvs K ρ ex H (d :: ds) (v :: vs)
inductive Rks (K : PySem.W.Frag) (ρ : Pl) (ex : List Addr) (H : Hp) : List (PV × PV) → List (Key × V) → Prop
  | nil : Rks K ρ ex H [] []
  | cons {k d : PV} {k' : Key} {v : V} {ds : List (PV × PV)} {vs : List (Key × V)} : KeyR k k' → Rv K ρ ex H d v → Rks K ρ ex H ds vs → Rks K ρ ex H ((k, d) :: ds) ((k', v) :: vs)
end

/-- from one heap to a later one: what does not stand in places is kept, new places are new addresses -/
structure Kp0 (ρ : Pl) (H : Hp) (ρ' : Pl) (H' : Hp) : Prop where
  up : ∀ (n : Nat) (a : Addr), ρ[n]? = some (some a) → ρ'[n]? = some (some a)
  keep : ∀ a o, H a = some o → ¬ Has ρ a → H' a = some o
  new : ∀ a, Has ρ' a → Has ρ a ∨ H a = none
/-- .. and what is locked stays as it is -/
structure Kp (ρ : Pl) (H : Hp) (ρ' : Pl) (H' : Hp) : Prop extends Kp0 ρ H ρ' H' where
  fz : ∀ a o u, H a = some (.frz o u) → H' a = some (.frz o u)
theorem Kp.refl (ρ : Pl) (H : Hp) : Kp ρ H ρ H := ⟨⟨fun _ _ h => h, fun _ _ h _ => h, fun _ h => .inl h⟩, fun _ _ _ h => h⟩
theorem Kp0.has {ρ ρ' : Pl} {H H' : Hp} (k : Kp0 ρ H ρ' H') {a : Addr} (h : Has ρ a) : Has ρ' a := let ⟨n, e⟩ := h; ⟨n, k.up n a e⟩
theorem Kp0.nhas {ρ ρ' : Pl} {H H' : Hp} (k : Kp0 ρ H ρ' H') {a : Addr} {o : HO} (h : ¬ Has ρ a) (e : H a = some o) : ¬ Has ρ' a := fun q => by
  rcases k.new a q with q | q
  · exact h q
  · rw [e] at q; cases q
theorem Kp.trans {ρ ρ1 ρ2 : Pl} {H H1 H2 : Hp} (a : Kp ρ H ρ1 H1) (b : Kp ρ1 H1 ρ2 H2) : Kp ρ H ρ2 H2 where
  up := fun n x h => b.up n x (a.up n x h)
  keep := fun x o h n => b.keep x o (a.keep x o h n) (a.nhas n h)
  new := fun x h => by
    rcases b.new x h with h | h
    · exact a.new x h
    · by_cases q : Has ρ x
      · exact .inl q
      · refine .inr ?_
        cases e : H x with
        | none => rfl
        | some o => rw [a.keep x o e q] at h; cases h
  fz := fun x o u h => b.fz x o u (a.fz x o u h)

section
variable {K : PySem.W.Frag} {ρ ρ' : Pl} {ex ex' : List Addr} {H H' : Hp}
theorem Kp0.im (k : Kp0 ρ H ρ' H') (hx : ∀ a ∈ ex', a ∈ ex ∨ H a = none) {a : Addr} {o : HO} (h : Im ρ ex a) (e : H a = some o) : H' a = some o ∧ Im ρ' ex' a :=
  ⟨k.keep a o e h.1, k.nhas h.1 e, fun q => (hx a q).elim h.2 fun z => by rw [e] at z; cases z⟩
theorem Kp0.rd (k : Kp0 ρ H ρ' H') (hx : ∀ a ∈ ex', a ∈ ex ∨ H a = none) {a : Addr} {u : HO} (h : Im ρ ex a) (e : Rd H a u) : Rd H' a u ∧ Im ρ' ex' a := by
  rcases e with e | ⟨o, e⟩
  · exact ⟨.inl (k.im hx h e).1, (k.im hx h e).2⟩
  · exact ⟨.inr ⟨o, (k.im hx h e).1⟩, (k.im hx h e).2⟩
mutual
theorem Rv.mono0 (k : Kp0 ρ H ρ' H') (hx : ∀ a ∈ ex', a ∈ ex ∨ H a = none) : ∀ (d : PV) (v : V), Rv K ρ ex H d v → Rv K ρ' ex' H' d v
  | .non, _, h => by cases h; exact .non
  | .bl _, _, h => by cases h; exact .bl _
  | .int _, _, h => by cases h; exact .int _
  | .str _, _, h => by cases h with | str e => exact .str e
  | .tup l, _, h => by
    cases h with
    | tup e r =>
      refine .tup ?_ (Rvs.mono0 k hx l _ r)
      rcases e with ⟨e, i⟩ | e
      · exact .inl (k.rd hx i e)
      · exact .inr e
  | .lst l, _, h => by
    cases h with
    | lst e i r => exact .lst (k.im hx i e).1 (k.im hx i e).2 (Rvs.mono0 k hx l _ r)
  | .scr l, _, h => by
    cases h with
    | scr e =>
      refine .scr ?_
      rcases e with ⟨e, i⟩ | e
      · exact .inl (k.rd hx i e)
      · exact .inr e
  | .dct l, _, h => by
    cases h with
    | dct e i r => exact .dct (k.rd hx i e).1 (k.rd hx i e).2 (Rks.mono0 k hx l _ r)
  | .ref n, _, h => by cases h with | ref e => exact .ref (k.up _ _ e)
  | .exn _ _, _, h => by cases h
theorem Rvs.mono0 (k : Kp0 ρ H ρ' H') (hx : ∀ a ∈ ex', a ∈ ex ∨ H a = none) : ∀ (ds : List PV) (vs : List V), Rvs K ρ ex H ds vs → Rvs K ρ' ex' H' ds vs
  | [], _, h => by cases h; exact .nil
  | d :: ds, _, h => by cases h with | cons a r => exact .cons (Rv.mono0 k hx d _ a) (Rvs.mono0 k hx ds _ r)
theorem Rks.mono0 (k : Kp0 ρ H ρ' H') (hx : ∀ a ∈ ex', a ∈ ex ∨ H a = none) : ∀ (ds : List (PV × PV)) (vs : List (Key × V)), Rks K ρ ex H ds vs → Rks K ρ' ex' H' ds vs
  | [], _, h => by cases h; exact .nil
  | (_, d) :: ds, _, h => by cases h with | cons e a r => exact .cons e (Rv.mono0 k hx d _ a) (Rks.mono0 k hx ds _ r)
end
theorem Rv.mono (k : Kp ρ H ρ' H') (hx : ∀ a ∈ ex', a ∈ ex ∨ H a = none) (d : PV) (v : V) (r : Rv K ρ ex H d v) : Rv K ρ' ex' H' d v := Rv.mono0 k.toKp0 hx d v r
theorem Rvs.mono (k : Kp ρ H ρ' H') (hx : ∀ a ∈ ex', a ∈ ex ∨ H a = none) (d : List PV) (v : List V) (r : Rvs K ρ ex H d v) : Rvs K ρ' ex' H' d v := Rvs.mono0 k.toKp0 hx d v r
theorem Rks.mono (k : Kp ρ H ρ' H') (hx : ∀ a ∈ ex', a ∈ ex ∨ H a = none) (d : List (PV × PV)) (v : List (Key × V)) (r : Rks K ρ ex H d v) : Rks K ρ' ex' H' d v := Rks.mono0 k.toKp0 hx d v r
theorem Rvs.length : ∀ {ds : List PV} {vs : List V}, Rvs K ρ ex H ds vs → ds.length = vs.length
  | [], _, h => by cases h; rfl
  | _ :: _, _, h => by cases h with | cons _ r => rw [List.length_cons, List.length_cons, r.length]
theorem Rks.length : ∀ {ds : List (PV × PV)} {vs : List (Key × V)}, Rks K ρ ex H ds vs → ds.length = vs.length
  | [], _, h => by cases h; rfl
  | _ :: _, _, h => by cases h with | cons _ _ r => rw [List.length_cons, List.length_cons, r.length]
theorem Rvs.append : ∀ {ds es : List PV} {vs ws : List V}, Rvs K ρ ex H ds vs → Rvs K ρ ex H es ws → Rvs K ρ ex H (ds ++ es) (vs ++ ws)
  | [], _, _, _, h, g => by cases h; exact g
  | _ :: _, _, _, _, h, g => by cases h with | cons a r => exact .cons a (r.append g)
theorem Rvs.get : ∀ {ds : List PV} {vs : List V} {i : Nat} {d : PV}, Rvs K ρ ex H ds vs → ds[i]? = some d → ∃ v, vs[i]? = some v ∧ Rv K ρ ex H d v
  | [], _, _, _, h, e => by simp at e
  | _ :: _, _, 0, _, h, e => by cases h with | cons a r => simp at e; subst e; exact ⟨_, rfl, a⟩
  | _ :: _, _, i + 1, _, h, e => by
    cases h with
    | cons a r =>
      obtain ⟨v, h1, h2⟩ := Rvs.get (i := i) r (by simpa using e)
      exact ⟨v, by simpa using h1, h2⟩
theorem Rvs.getV : ∀ {ds : List PV} {vs : List V} {i : Nat} {v : V}, Rvs K ρ ex H ds vs → vs[i]? = some v → ∃ d, ds[i]? = some d ∧ Rv K ρ ex H d v
  | [], _, _, _, h, e => by cases h; simp at e
  | _ :: _, _, 0, _, h, e => by cases h with | cons a r => simp at e; subst e; exact ⟨_, rfl, a⟩
  | _ :: _, _, i + 1, _, h, e => by
    cases h with
    | cons a r =>
      obtain ⟨v, h1, h2⟩ := Rvs.getV (i := i) r (by simpa using e)
      exact ⟨v, by simpa using h1, h2⟩
theorem Rvs.drop : ∀ {ds : List PV} {vs : List V} (n : Nat), Rvs K ρ ex H ds vs → Rvs K ρ ex H (ds.drop n) (vs.drop n)
  | _, _, 0, h => h
  | [], _, _ + 1, h => by cases h; exact .nil
  | _ :: _, _, n + 1, h => by cases h with | cons _ r => exact r.drop n
theorem Rvs.take : ∀ {ds : List PV} {vs : List V} (n : Nat), Rvs K ρ ex H ds vs → Rvs K ρ ex H (ds.take n) (vs.take n)
  | _, _, 0, h => .nil
  | [], _, _ + 1, h => by cases h; exact .nil
  | _ :: _, _, n + 1, h => by cases h with | cons a r => exact .cons a (r.take n)
theorem Rvs.set : ∀ {ds : List PV} {vs : List V} (n : Nat) {d : PV} {v : V}, Rvs K ρ ex H ds vs → Rv K ρ ex H d v → Rvs K ρ ex H (ds.set n d) (vs.set n v)
  | [], _, _, _, _, h, _ => by cases h; exact .nil
  | _ :: _, _, 0, _, _, h, g => by cases h with | cons a r => exact .cons g r
  | _ :: _, _, n + 1, _, _, h, g => by cases h with | cons a r => exact .cons a (r.set n g)
theorem Rvs.rep : ∀ {ds : List PV} {vs : List V} (n : Nat), Rvs K ρ ex H ds vs → Rvs K ρ ex H (Y.rep ds n) (Y.rep vs n)
  | _, _, 0, _ => .nil
  | _, _, n + 1, h => h.append (h.rep n)
theorem Rvs.snoc {ds : List PV} {vs : List V} {d : PV} {v : V} (h : Rvs K ρ ex H ds vs) (g : Rv K ρ ex H d v) : Rvs K ρ ex H (ds ++ [d]) (vs ++ [v]) := h.append (.cons g .nil)
end

/-! ### the classes and fields of a text: their numbers -/
structure Tab where
  cls : List Addr
  fnm : List Str
  ok : Nat → Nat → Bool
  exc : List Addr
/-- what is taken of these of the text's written part -/
structure Tab.Ok (T : Tab) (K : PySem.W.Frag) : Prop where
  cl : ∀ (c : Nat) (C : Addr), T.cls[c]? = some C → Cls K C
  nd : T.fnm.Nodup
  no : ∀ (c : Nat) (C : Addr) (f : Nat) (x : Str), T.cls[c]? = some C → T.ok c f = true → T.fnm[f]? = some x → NoAttr K C x

section
variable (T : Tab) (K : PySem.W.Frag) (ρ : Pl) (ex : List Addr) (H : Hp)
inductive Rfs : List (Nat × PV) → List (Str × V) → Prop
  | nil : Rfs [] []
  | cons {f : Nat} {x : Str} {d : PV} {v : V} {ds : List (Nat × PV)} {vs : List (Str × V)} : T.fnm[f]? = some x → Rv K ρ ex H d v → Rfs ds vs → Rfs ((f, d) :: ds) ((x, v) :: vs)
/-- an object and where it stands -/
def Ro : VO → Option Addr → Prop
  | .gone, p => p = none
  | .lst l, p => ∃ a vs, p = some a ∧ H a = some (.lst vs) ∧ Rvs K ρ ex H l vs
  | .dct l, p => ∃ a kvs, p = some a ∧ H a = some (.dK kvs) ∧ Rks K ρ ex H l kvs
  | .ldct l, p => ∃ a o kvs, p = some a ∧ H a = some (.frz o (.dK kvs)) ∧ Rks K ρ ex H l kvs
  | .ins c fs, p => ∃ a C dx gs, p = some a ∧ H a = some (.ins C dx gs) ∧ T.cls[c]? = some C ∧ (∀ p ∈ fs, T.ok c p.1 = true) ∧ Rfs T K ρ ex H fs gs
structure Rh (h : VH) : Prop where
  len : ρ.length = h.length
  inj : ∀ (n m : Nat) (a : Addr), ρ[n]? = some (some a) → ρ[m]? = some (some a) → n = m
  exs : ∀ a ∈ ex, H a ≠ none ∧ ¬ Has ρ a
  ob : ∀ (n : Nat) (o : VO) (p : Option Addr), h[n]? = some o → ρ[n]? = some p → Ro T K ρ ex H o p
/-- the slots -/
structure Rst (sl : Sl) (σ : L2.St) : Prop where
  len : sl.length = σ.length
  at_ : ∀ (i : Nat) (v : PV), sl[i]? = some (some v) → notExn v = true → ∃ x, σ[i]? = some (some x) ∧ Rv K ρ ex H v x
end
section
variable {T : Tab} {K : PySem.W.Frag} {ρ ρ' : Pl} {ex ex' : List Addr} {H H' : Hp}
theorem Rfs.mono0 (k : Kp0 ρ H ρ' H') (hx : ∀ a ∈ ex', a ∈ ex ∨ H a = none) : ∀ {fs : List (Nat × PV)} {gs : List (Str × V)}, Rfs T K ρ ex H fs gs → Rfs T K ρ' ex' H' fs gs
  | _, _, .nil => .nil
  | _, _, .cons e r q => .cons e (Rv.mono0 k hx _ _ r) (q.mono0 k hx)
theorem Rfs.mono (k : Kp ρ H ρ' H') (hx : ∀ a ∈ ex', a ∈ ex ∨ H a = none) {fs : List (Nat × PV)} {gs : List (Str × V)} (r : Rfs T K ρ ex H fs gs) : Rfs T K ρ' ex' H' fs gs := r.mono0 k.toKp0 hx
theorem Rfs.length : ∀ {fs : List (Nat × PV)} {gs : List (Str × V)}, Rfs T K ρ ex H fs gs → fs.length = gs.length
  | _, _, .nil => rfl
  | _, _, .cons e r q => by rw [List.length_cons, List.length_cons, q.length]
theorem Rst.mono {sl : Sl} {σ : L2.St} (k : Kp ρ H ρ' H') (hx : ∀ a ∈ ex', a ∈ ex ∨ H a = none) (r : Rst K ρ ex H sl σ) : Rst K ρ' ex' H' sl σ :=
  ⟨r.len, fun i v e n => let ⟨x, h1, h2⟩ := r.at_ i v e n; ⟨x, h1, h2.mono k hx⟩⟩
theorem Rst.set {sl : Sl} {σ : L2.St} {v : PV} {x : V} (r : Rst K ρ ex H sl σ) (i : Nat) (h : Rv K ρ ex H v x) : Rst K ρ ex H (sl.set i (some v)) (σ.set i (some x)) := by
  refine ⟨by rw [List.length_set, List.length_set]; exact r.len, fun j w e n => ?_⟩
  by_cases hj : i = j
  · subst hj
    by_cases hi : i < sl.length
    · rw [List.getElem?_set_self hi] at e
      cases e
      exact ⟨x, List.getElem?_set_self (by rw [← r.len]; exact hi), h⟩
    · rw [List.getElem?_eq_none (by rw [List.length_set]; omega)] at e; cases e
  · rw [List.getElem?_set_ne hj] at e
    obtain ⟨y, h1, h2⟩ := r.at_ j w e n
    exact ⟨y, by rw [List.getElem?_set_ne hj]; exact h1, h2⟩
theorem Rst.setN {sl : Sl} {σ : L2.St} (r : Rst K ρ ex H sl σ) (i : Nat) : Rst K ρ ex H (sl.set i none) (σ.set i none) := by
  refine ⟨by rw [List.length_set, List.length_set]; exact r.len, fun j w e n => ?_⟩
  by_cases hj : i = j
  · subst hj
    by_cases hi : i < sl.length
    · rw [List.getElem?_set_self hi] at e; cases e
    · rw [List.getElem?_eq_none (by rw [List.length_set]; omega)] at e; cases e
  · rw [List.getElem?_set_ne hj] at e
    obtain ⟨y, h1, h2⟩ := r.at_ j w e n
    exact ⟨y, by rw [List.getElem?_set_ne hj]; exact h1, h2⟩
theorem Rst.wipe {sl : Sl} {σ : L2.St} (r : Rst K ρ ex H sl σ) : ∀ vs : List Nat, Rst K ρ ex H (Y.wipe sl vs) (L2.wipe σ vs)
  | [] => r
  | v :: vs => (r.wipe vs).setN v
/-- nothing of the heap's own changes, a new address is laid -/
theorem Kp.laid {p : Addr} {o : HO} (hp : H p = none) : Kp ρ H ρ (upd H p o) :=
  ⟨⟨fun _ _ h => h, fun a u e _ => by rw [upd_ne (ne_of_none e hp)]; exact e, fun _ h => .inl h⟩, fun a _ _ e => by rw [upd_ne (ne_of_none e hp)]; exact e⟩
theorem Ro.mono0 (k : Kp0 ρ H ρ' H') (hx : ∀ a ∈ ex', a ∈ ex ∨ H a = none) {o : VO} {p : Option Addr} (hs : ∀ a, p = some a → H' a = H a) (r : Ro T K ρ ex H o p) : Ro T K ρ' ex' H' o p := by
  cases o with
  | gone => exact r
  | lst l =>
    obtain ⟨a, vs, e1, e2, r⟩ := r
    exact ⟨a, vs, e1, by rw [hs a e1]; exact e2, Rvs.mono0 k hx _ _ r⟩
  | dct l =>
    obtain ⟨a, vs, e1, e2, r⟩ := r
    exact ⟨a, vs, e1, by rw [hs a e1]; exact e2, Rks.mono0 k hx _ _ r⟩
  | ldct l =>
    obtain ⟨a, o, vs, e1, e2, r⟩ := r
    exact ⟨a, o, vs, e1, by rw [hs a e1]; exact e2, Rks.mono0 k hx _ _ r⟩
  | ins c fs =>
    obtain ⟨a, C, dx, gs, e1, e2, e3, e4, r⟩ := r
    exact ⟨a, C, dx, gs, e1, by rw [hs a e1]; exact e2, e3, e4, r.mono0 k hx⟩
theorem Ro.mono (k : Kp ρ H ρ' H') (hx : ∀ a ∈ ex', a ∈ ex ∨ H a = none) {o : VO} {p : Option Addr} (hs : ∀ a, p = some a → H' a = H a) (r : Ro T K ρ ex H o p) : Ro T K ρ' ex' H' o p := Ro.mono0 k.toKp0 hx hs r
theorem Rh.has {h : VH} (r : Rh T K ρ ex H h) {a : Addr} (q : Has ρ a) : ∃ o, H a = some o := by
  obtain ⟨n, e⟩ := q
  have hn : n < h.length := by rw [← r.len]; exact (List.getElem?_eq_some_iff.mp e).1
  have hb := r.ob n h[n] (some a) (List.getElem?_eq_getElem hn) e
  cases hh : h[n] with
  | gone => rw [hh] at hb; cases hb
  | lst l => rw [hh] at hb; obtain ⟨_, _, e1, e2, _⟩ := hb; cases e1; exact ⟨_, e2⟩
  | dct l => rw [hh] at hb; obtain ⟨_, _, e1, e2, _⟩ := hb; cases e1; exact ⟨_, e2⟩
  | ldct l => rw [hh] at hb; obtain ⟨_, _, _, e1, e2, _⟩ := hb; cases e1; exact ⟨_, e2⟩
  | ins c fs => rw [hh] at hb; obtain ⟨_, _, _, _, e1, e2, _⟩ := hb; cases e1; exact ⟨_, e2⟩
/-- a new address that no place takes -/
theorem Rh.laid {h : VH} {p : Addr} {o : HO} (r : Rh T K ρ ex H h) (hp : H p = none) : Rh T K ρ ex (upd H p o) h := by
  have k : Kp ρ H ρ (upd H p o) := Kp.laid hp
  refine ⟨r.len, r.inj, fun a ha => ⟨?_, (r.exs a ha).2⟩, fun n ob q e1 e2 => ?_⟩
  · by_cases e : a = p
    · subst e; rw [upd_same]; exact fun z => by cases z
    · rw [upd_ne e]; exact (r.exs a ha).1
  · refine (r.ob n ob q e1 e2).mono k (fun a ha => .inl ha) fun a ea => ?_
    subst ea
    obtain ⟨u, eu⟩ := r.has ⟨n, e2⟩
    exact upd_ne (ne_of_none eu hp)
end
end Y

namespace Y
open PySem PySem.Spec PyProof.Rows L2

/-- an exception of the text's own in the layer's heap: its class, its own dict -/
def Rx (T : Tab) (K : PySem.W.Frag) (ρ : Pl) (ex : List Addr) (H : Hp) (c : Nat) (fs : List (Nat × PV)) (cls : Value) (d : Option Addr) : Prop :=
  ∃ C, T.exc[c]? = some C ∧ cls = .ref C ∧ ((fs = [] ∧ d = none) ∨ ∃ dd gs, d = some dd ∧ H dd = some (.xd gs) ∧ Im ρ ex dd ∧ Rfs T K ρ ex H fs gs)

section
variable (T : Tab) (K : PySem.W.Frag) (W : WX) (ρ : Pl) (ex : List Addr) (σ : L2.St) (H : Hp)
/-- what a result is worth: k of what comes, W of what is raised -/
def Fin {α : Type} (r : R α) (k : α → VH → Pl → Hp → Prop) : Prop := match r with
  | .ok a h' => ∀ ρ' H', Kp ρ H ρ' H' → Rh T K ρ' ex H' h' → k a h' ρ' H'
  | .exc c fs h' => ∀ ρ' H' cls d, Kp ρ H ρ' H' → Rh T K ρ' ex H' h' → Rx T K ρ' ex H' c fs cls d → W cls d σ H'
  | .bad => False
end
section
variable {T : Tab} {K : PySem.W.Frag} {W : WX} {ρ ρ1 : Pl} {ex : List Addr} {σ : L2.St} {H H1 : Hp} {α β : Type}
theorem Fin.imp {r : R α} {k k' : α → VH → Pl → Hp → Prop} (h : Fin T K W ρ ex σ H r k) (f : ∀ a h' ρ' H', Kp ρ H ρ' H' → Rh T K ρ' ex H' h' → k a h' ρ' H' → k' a h' ρ' H') : Fin T K W ρ ex σ H r k' := by
  cases r with
  | ok a h' => exact fun ρ' H' kp rh => f _ _ _ _ kp rh (h ρ' H' kp rh)
  | exc c fs h' => exact h
  | bad => exact h
theorem Fin.later {r : R α} {k : α → VH → Pl → Hp → Prop} (h : Fin T K W ρ ex σ H r k) (kp : Kp ρ H ρ1 H1) : Fin T K W ρ1 ex σ H1 r k := by
  cases r with
  | ok a h' => exact fun ρ' H' kp' rh => h ρ' H' (kp.trans kp') rh
  | exc c fs h' => exact fun ρ' H' cls d kp' rh rx => h ρ' H' cls d (kp.trans kp') rh rx
  | bad => exact h
theorem Fin.bnd {r : R α} {f : α → VH → R β} {k : β → VH → Pl → Hp → Prop} (h : Fin T K W ρ ex σ H (r.bnd f) k) : Fin T K W ρ ex σ H r fun a h1 ρ1 H1 => Fin T K W ρ1 ex σ H1 (f a h1) k := by
  cases r with
  | ok a h' => exact fun ρ' H' kp rh => Fin.later h kp
  | exc c fs h' => exact h
  | bad => exact h
end

/-! ### readings -/
section
variable (T : Tab) (K : PySem.W.Frag) (W : WX)
def rdE (m : EM) : TE := fun σ H Q => ∃ ρ ex sl h, Rst K ρ ex H sl σ ∧ Rh T K ρ ex H h ∧ Fin T K W ρ ex σ H (m sl h) fun v _ ρ' H' => ∀ x, Rv K ρ' ex H' v x → Q x H'
def rdT (m : TM) : TT := fun σ H Q => ∃ ρ ex sl h, Rst K ρ ex H sl σ ∧ Rh T K ρ ex H h ∧ Fin T K W ρ ex σ H (m sl h) fun b _ _ H' => Q b H'
def rdA (m : AM) : TA := fun σ H Q => ∃ ρ ex sl h, Rst K ρ ex H sl σ ∧ Rh T K ρ ex H h ∧ Fin T K W ρ ex σ H (m sl h) fun vs _ ρ' H' => ∀ xs, Rvs K ρ' ex H' vs xs → Q xs H'
def rdO (m : OM) : TO := fun σ H Q => ∃ ρ ex sl h, Rst K ρ ex H sl σ ∧ Rh T K ρ ex H h ∧ Fin T K W ρ ex σ H (m sl h) fun o _ _ H' => Q o H'
/-- new rows: at an address that nothing knows -/
def rdL (m : AM) : TE := fun σ H Q => ∃ ρ ex sl h, Rst K ρ ex H sl σ ∧ Rh T K ρ ex H h ∧ Fin T K W ρ ex σ H (m sl h) fun l h1 ρ' H' => ∀ p xs H2, H' p = none → H2 = upd H' p (.lst xs) → xs.length ≤ line → Rvs K ρ' ex H' l xs → Q (.ref p) H2
end

section
variable {X : Cx} {T : Tab} {K : PySem.W.Frag} {W : WX}
theorem imE {e : Expr} {t t' : TE} (h : PE X e t) (f : ∀ σ H Q, t' σ H Q → t σ H Q) : PE X e t' := ⟨fun pins s σ H Q I q => h.run pins s σ H Q I (f σ H Q q)⟩
theorem imT {e : Expr} {t t' : TT} (h : PT X e t) (f : ∀ σ H Q, t' σ H Q → t σ H Q) : PT X e t' := ⟨fun pins s σ H Q I q => h.run pins s σ H Q I (f σ H Q q)⟩
theorem imW {e : Expr} {t t' : TT} (h : PW X e t) (f : ∀ σ H Q, t' σ H Q → t σ H Q) : PW X e t' := ⟨fun wh pins s σ H Q I q => h.run wh pins s σ H Q I (f σ H Q q)⟩
theorem imA {es : List Expr} {t t' : TA} (h : PA X es t) (f : ∀ σ H Q, t' σ H Q → t σ H Q) : PA X es t' := ⟨fun pos pins s σ H Q I q => h.run pos pins s σ H Q I (f σ H Q q)⟩
theorem imO {e : Option Expr} {t t' : TO} (h : PO X e t) (f : ∀ σ H Q, t' σ H Q → t σ H Q) : PO X e t' := ⟨fun pins s σ H Q I q => h.run pins s σ H Q I (f σ H Q q)⟩
theorem badE {e : Expr} : PE X e (rdE T K W mBad) := ⟨fun _ _ _ _ _ _ ⟨_, _, _, _, _, _, q⟩ => q.elim⟩
theorem badT {e : Expr} : PT X e (rdT T K W mBad) := ⟨fun _ _ _ _ _ _ ⟨_, _, _, _, _, _, q⟩ => q.elim⟩
theorem badA {e : List Expr} : PA X e (rdA T K W mBad) := ⟨fun _ _ _ _ _ _ _ ⟨_, _, _, _, _, _, q⟩ => q.elim⟩

/-! #### two operands, one, arguments -/
def rO2 (T : Tab) (K : PySem.W.Frag) (f : PV → PV → VH → Option PV) : R2 := fun x y H Q => ∃ ρ ex h u v w, Rh T K ρ ex H h ∧ Rv K ρ ex H u x ∧ Rv K ρ ex H v y ∧ f u v h = some w ∧
  ∀ ρ' H' z, Kp ρ H ρ' H' → Rh T K ρ' ex H' h → Rv K ρ' ex H' w z → Q z H'
def rO1 (T : Tab) (K : PySem.W.Frag) (f : PV → VH → Option PV) : V → Hp → VK → Prop := fun x H Q => ∃ ρ ex h u w, Rh T K ρ ex H h ∧ Rv K ρ ex H u x ∧ f u h = some w ∧
  ∀ ρ' H' z, Kp ρ H ρ' H' → Rh T K ρ' ex H' h → Rv K ρ' ex H' w z → Q z H'
def rOA (T : Tab) (K : PySem.W.Frag) (f : List PV → VH → Option PV) : List V → Hp → VK → Prop := fun xs H Q => ∃ ρ ex h us w, Rh T K ρ ex H h ∧ Rvs K ρ ex H us xs ∧ f us h = some w ∧
  ∀ ρ' H' z, Kp ρ H ρ' H' → Rh T K ρ' ex H' h → Rv K ρ' ex H' w z → Q z H'
theorem Fin.retO {ρ : Pl} {ex : List Addr} {σ : L2.St} {H : Hp} {α : Type} {o : Option α} {h : VH} {k : α → VH → Pl → Hp → Prop} (f : Fin T K W ρ ex σ H (Y.retO o h) k) : ∃ w, o = some w ∧ ∀ ρ' H', Kp ρ H ρ' H' → Rh T K ρ' ex H' h → k w h ρ' H' := by
  cases o with
  | none => exact f.elim
  | some w => exact ⟨w, rfl, f⟩
theorem noex {ex : List Addr} {H : Hp} : ∀ a ∈ ex, a ∈ ex ∨ H a = none := fun _ h => .inl h
theorem rd_op2 {f : PV → PV → VH → Option PV} {a b : EM} {σ : L2.St} {H : Hp} {Q : VK} (h : rdE T K W (mOp2 f a b) σ H Q) : tOp (rO2 T K f) (rdE T K W a) (rdE T K W b) σ H Q := by
  obtain ⟨ρ, ex, sl, hp, rs, rh, q⟩ := h
  refine ⟨ρ, ex, sl, hp, rs, rh, q.bnd.imp fun u h1 ρ1 H1 k1 rh1 q1 x rx => ?_⟩
  refine ⟨ρ1, ex, sl, h1, rs.mono k1 noex, rh1, q1.bnd.imp fun v h2 ρ2 H2 k2 rh2 q2 y ry => ?_⟩
  obtain ⟨w, e, q3⟩ := q2.retO
  exact ⟨ρ2, ex, h2, u, v, w, rh2, rx.mono k2 noex, ry, e, fun ρ' H' z kp rh' rz => q3 ρ' H' kp rh' z rz⟩
theorem rd_op1 {f : PV → VH → Option PV} {a : EM} {σ : L2.St} {H : Hp} {Q : VK} (h : rdE T K W (mOp1 f a) σ H Q) : tUn (rO1 T K f) (rdE T K W a) σ H Q := by
  obtain ⟨ρ, ex, sl, hp, rs, rh, q⟩ := h
  refine ⟨ρ, ex, sl, hp, rs, rh, q.bnd.imp fun u h1 ρ1 H1 k1 rh1 q1 x rx => ?_⟩
  obtain ⟨w, e, q3⟩ := q1.retO
  exact ⟨ρ1, ex, h1, u, w, rh1, rx, e, fun ρ' H' z kp rh' rz => q3 ρ' H' kp rh' z rz⟩
theorem e_var {i : Nat} {x : Str} {pos : Pos} (hN : X.N[i]? = some x) (hv : Vis X.env.scope x) (hd : (x == ("__debug__" : Str)) = false) (hcd : (x == ("__classdict__" : Str)) = false) : PE X (.Name x pos) (rdE T K W (mVar i)) := by
  refine imE (pe_var hN hv hd hcd) fun σ H Q h => ?_
  obtain ⟨ρ, ex, sl, hp, rs, rh, q⟩ := h
  unfold mVar at q
  split at q
  · rename_i v e
    split at q
    · rename_i hn
      obtain ⟨y, e1, r⟩ := rs.at_ i v e hn
      exact ⟨y, e1, q ρ H (Kp.refl _ _) rh y r⟩
    · exact q.elim
  · exact q.elim
theorem rd_c {v : PV} {z : V} {σ : L2.St} {H : Hp} {Q : VK} (hv : ∀ ρ ex, Rv K ρ ex H v z) (h : rdE T K W (mC v) σ H Q) : tC z σ H Q := by
  obtain ⟨ρ, ex, sl, hp, rs, rh, q⟩ := h
  exact q ρ H (Kp.refl _ _) rh z (hv ρ ex)
theorem e_int {i : Int} {j : Nat} {pos : Pos} : PE X (.Constant (.int i) j pos) (rdE T K W (mC (.int i))) := imE pe_int fun _ _ _ h => rd_c (fun _ _ => .int _) h
theorem e_bl {b : Bool} {j : Nat} {pos : Pos} : PE X (.Constant (.bool b) j pos) (rdE T K W (mC (.bl b))) := imE pe_bl fun _ _ _ h => rd_c (fun _ _ => .bl _) h
theorem e_non {j : Nat} {pos : Pos} : PE X (.Constant .none j pos) (rdE T K W (mC .non)) := imE pe_non fun _ _ _ h => rd_c (fun _ _ => .non) h
theorem e_str {x : Str} {j : Nat} {pos : Pos} (hl : x.cps.toList.length ≤ line) (ho : chOk x.cps.toList) : PE X (.Constant (.str x) j pos) (rdE T K W (mC (.str x.cps.toList))) := imE pe_str fun _ _ _ h => rd_c (fun _ _ => .str ⟨rfl, hl, ho⟩) h
theorem e_op2 {op : Operator} {f : PV → PV → VH → Option PV} {a b : Expr} {ma mb : EM} {pos : Pos} (ho : OpR X (binaryOp op) (rO2 T K f)) (ha : PE X a (rdE T K W ma)) (hb : PE X b (rdE T K W mb)) : PE X (.BinOp a op b pos) (rdE T K W (mOp2 f ma mb)) :=
  imE (pe_op ho ha hb) fun _ _ _ h => rd_op2 h
theorem e_cmp {op : CmpOp} {f : PV → PV → VH → Option PV} {a b : Expr} {ma mb : EM} {pos : Pos} (ho : OpR X (compareOp op) (rO2 T K f)) (ha : PE X a (rdE T K W ma)) (hb : PE X b (rdE T K W mb)) (hm : behindInMarks op b = false) : PE X (.Compare a [op] [b] pos) (rdE T K W (mOp2 f ma mb)) :=
  imE (pe_cmpR ho ha hb hm) fun _ _ _ h => rd_op2 h
theorem e_un {op : UnaryOp} {f : PV → VH → Option PV} {a : Expr} {ma : EM} {pos : Pos} (ho : UnR X (unaryOp op) (rO1 T K f)) (ha : PE X a (rdE T K W ma)) : PE X (.UnaryOp op a pos) (rdE T K W (mOp1 f ma)) :=
  imE (pe_un ho ha) fun _ _ _ h => rd_op1 h
theorem e_ix {f : PV → PV → VH → Option PV} {a b : Expr} {ma mb : EM} {pos : Pos} (ho : IxR X (rO2 T K f)) (ha : PE X a (rdE T K W ma)) (hb : PE X b (rdE T K W mb)) (hs : PlainIx b) : PE X (.Subscript a b pos) (rdE T K W (mOp2 f ma mb)) :=
  imE (pe_ix ho ha hb hs) fun _ _ _ h => rd_op2 h

/-! #### tests -/
theorem rd_test {m : EM} {σ : L2.St} {H : Hp} {Q : Bool → Hp → Prop} (h : rdT T K W (mTest m) σ H Q) : tB (rdE T K W m) σ H Q := by
  obtain ⟨ρ, ex, sl, hp, rs, rh, q⟩ := h
  refine ⟨ρ, ex, sl, hp, rs, rh, q.bnd.imp fun u h1 ρ1 H1 k1 rh1 q1 x rx => ?_⟩
  cases u with
  | bl b => cases rx; exact ⟨b, rfl, q1 ρ1 H1 (Kp.refl _ _) rh1⟩
  | _ => exact q1.elim
theorem t_cmp {op : CmpOp} {f : PV → PV → VH → Option PV} {a b : Expr} {ma mb : EM} {pos : Pos} (ho : OpR X (compareOp op) (rO2 T K f)) (ha : PE X a (rdE T K W ma)) (hb : PE X b (rdE T K W mb)) (hm : behindInMarks op b = false) : PT X (.Compare a [op] [b] pos) (rdT T K W (mTest (mOp2 f ma mb))) :=
  imT (pt_cmpR ho ha hb hm) fun σ H Q h => by
    have h2 := rd_test h
    obtain ⟨ρ, ex, sl, hp, rs, rh, q⟩ := h2
    exact rd_op2 ⟨ρ, ex, sl, hp, rs, rh, q⟩
theorem t_val {e : Expr} {m : EM} (h : PE X e (rdE T K W m)) (he : ∀ whole, isTrue e X.env whole = (do let v ← whole; standAt e.pos; holding [v] (truthy v))) : PT X e (rdT T K W (mTest m)) :=
  imT (pt_val h he) fun _ _ _ h => rd_test h
theorem tru {ρ : Pl} {ex : List Addr} {H : Hp} {h h' : VH} {u : PV} {x : V} {b : Bool} (rh : Rh T K ρ ex H h) (rx : Rv K ρ ex H u x) (e : truth u h = .ok b h') : TruV K x H b ∧ h' = h := by
  cases u with
  | non => cases rx; cases e; exact ⟨rfl, rfl⟩
  | bl c => cases rx; cases e; exact ⟨rfl, rfl⟩
  | int i => cases rx; cases e; exact ⟨rfl, rfl⟩
  | str s =>
    cases rx with
    | str r =>
      cases e
      refine ⟨?_, rfl⟩
      rename_i z
      have e1 : z.length = s.length := by rw [← r.eq]; rfl
      refine ⟨by rw [e1]; exact r.len, ?_⟩
      rw [e1]
      cases s <;> rfl
  | tup l =>
    cases rx with
    | tup a r =>
      cases e
      refine ⟨.inr (.inl ⟨_, a.elim (fun z => .inl z.1) .inr, ?_⟩), rfl⟩
      cases r <;> rfl
  | lst l =>
    cases rx with
    | lst a _ r =>
      cases e
      refine ⟨.inl ⟨_, .inl (.inl a), ?_⟩, rfl⟩
      cases r <;> rfl
  | dct l => cases e
  | ref n =>
    cases rx with
    | ref er =>
      unfold truth at e
      simp only at e
      split at e
      · rename_i l el
        cases e
        obtain ⟨a, vs, e1, e2, r⟩ := rh.ob _ _ _ el er
        cases e1
        refine ⟨.inl ⟨_, .inl (.inl e2), ?_⟩, rfl⟩
        cases r <;> rfl
      · rename_i l el
        cases e
        obtain ⟨a, vs, e1, e2, r⟩ := rh.ob _ _ _ el er
        cases e1
        refine ⟨.inr (.inr ⟨_, e2, ?_⟩), rfl⟩
        cases r <;> rfl
      · cases e
  | exn _ _ => cases rx
  | scr _ => cases e
end
end Y

namespace Y
open PySem PySem.Spec PyProof.Rows L2

section
variable {X : Cx} {T : Tab} {K : PySem.W.Frag} {W : WX} {ρ : Pl} {ex : List Addr} {H : Hp} {h : VH}

/-! #### places for new objects -/
theorem Kp.reg {p : Addr} {o : HO} (hp : H p = none) : Kp ρ H (ρ ++ [some p]) (upd H p o) where
  up := fun n a e => by rw [List.getElem?_append_left (List.getElem?_eq_some_iff.mp e).1]; exact e
  keep := fun a u e _ => by rw [upd_ne (ne_of_none e hp)]; exact e
  new := fun a ⟨n, e⟩ => by
    rcases Nat.lt_or_ge n ρ.length with q | q
    · rw [List.getElem?_append_left q] at e; exact .inl ⟨n, e⟩
    · rw [List.getElem?_append_right q] at e
      obtain ⟨q1, q2⟩ := List.getElem?_eq_some_iff.mp e
      have e2 : n - ρ.length = 0 := by simp at q1; omega
      rw [e2] at e
      cases e
      exact .inr hp
  fz := fun a _ _ e => by rw [upd_ne (ne_of_none e hp)]; exact e
theorem Rh.fresh {p : Addr} (r : Rh T K ρ ex H h) (hp : H p = none) : Im ρ ex p :=
  ⟨fun q => (by obtain ⟨o, e⟩ := r.has q; rw [hp] at e; cases e), fun q => (r.exs p q).1 hp⟩
theorem Rh.reg {p : Addr} {o : HO} {ob : VO} (r : Rh T K ρ ex H h) (hp : H p = none) (ro : Ro T K (ρ ++ [some p]) ex (upd H p o) ob (some p)) : Rh T K (ρ ++ [some p]) ex (upd H p o) (h ++ [ob]) := by
  have k : Kp ρ H (ρ ++ [some p]) (upd H p o) := Kp.reg hp
  have f := r.fresh hp
  refine ⟨by rw [List.length_append, List.length_append, r.len]; rfl, fun n m a e1 e2 => ?_, fun a ha => ⟨?_, ?_⟩, fun n u q e1 e2 => ?_⟩
  · have key : ∀ {n : Nat} {a : Addr}, (ρ ++ [some p])[n]? = some (some a) → (n < ρ.length ∧ ρ[n]? = some (some a)) ∨ (n = ρ.length ∧ a = p) := fun {n a} e => by
      rcases Nat.lt_or_ge n ρ.length with q | q
      · rw [List.getElem?_append_left q] at e; exact .inl ⟨q, e⟩
      · rw [List.getElem?_append_right q] at e
        have q1 := (List.getElem?_eq_some_iff.mp e).1
        have e2 : n - ρ.length = 0 := by simp at q1; omega
        rw [e2] at e
        cases e
        exact .inr ⟨by omega, rfl⟩
    rcases key e1 with ⟨_, q1⟩ | ⟨q1, q1'⟩ <;> rcases key e2 with ⟨_, q2⟩ | ⟨q2, q2'⟩
    · exact r.inj n m a q1 q2
    · subst q2'; exact absurd ⟨n, q1⟩ f.1
    · subst q1'; exact absurd ⟨m, q2⟩ f.1
    · omega
  · have := (r.exs a ha).1
    by_cases e : a = p
    · subst e; exact absurd hp this
    · rw [upd_ne e]; exact this
  · intro q
    rcases k.new a q with z | z
    · exact (r.exs a ha).2 z
    · exact (r.exs a ha).1 z
  · rcases Nat.lt_or_ge n h.length with q1 | q1
    · rw [List.getElem?_append_left q1] at e1
      rw [List.getElem?_append_left (by rw [r.len]; exact q1)] at e2
      refine (r.ob n u q e1 e2).mono k noex fun a ea => ?_
      subst ea
      obtain ⟨w, eu⟩ := r.has ⟨n, e2⟩
      exact upd_ne (ne_of_none eu hp)
    · rw [List.getElem?_append_right q1] at e1
      rw [List.getElem?_append_right (by rw [r.len]; exact q1)] at e2
      have q2 := (List.getElem?_eq_some_iff.mp e1).1
      have z : n - h.length = 0 := by simp at q2; omega
      rw [z] at e1
      rw [r.len, z] at e2
      cases e1
      cases e2
      exact ro

/-! #### arguments, displays -/
theorem e_nil : PA X [] (rdA T K W mNil) := imA pa_nil fun σ H Q h => by
  obtain ⟨ρ, ex, sl, hp, rs, rh, q⟩ := h
  exact q ρ H (Kp.refl _ _) rh [] .nil
theorem e_cons {e : Expr} {es : List Expr} {m : EM} {r : AM} (ha : PE X e (rdE T K W m)) (hr : PA X es (rdA T K W r)) (hs : starEach (e :: es) X.env = (false, eval e X.env) :: starEach es X.env) : PA X (e :: es) (rdA T K W (mCons m r)) :=
  imA (pa_cons ha hr hs) fun σ H Q h => by
    obtain ⟨ρ, ex, sl, hp, rs, rh, q⟩ := h
    refine ⟨ρ, ex, sl, hp, rs, rh, q.bnd.imp fun u h1 ρ1 H1 k1 rh1 q1 x rx => ?_⟩
    refine ⟨ρ1, ex, sl, h1, rs.mono k1 noex, rh1, q1.bnd.imp fun us h2 ρ2 H2 k2 rh2 q2 xs rxs => ?_⟩
    exact q2 ρ2 H2 (Kp.refl _ _) rh2 _ (.cons (rx.mono k2 noex) rxs)
theorem line_eq : line = sizeLine := by rw [sizeLine_eq]; rfl
theorem e_tup {es : List Expr} {n : Nat} {pos : Pos} {m : AM} (h : PA X es (rdA T K W m)) : PE X (.Tuple es n pos) (rdE T K W (mTup m)) :=
  imE (pe_tup h) fun σ H Q h => by
    obtain ⟨ρ, ex, sl, hp, rs, rh, q⟩ := h
    refine ⟨ρ, ex, sl, hp, rs, rh, q.bnd.imp fun us h1 ρ1 H1 k1 rh1 q1 xs rxs => ?_⟩
    split at q1
    · rename_i hl
      refine ⟨by rw [← rxs.length, ← line_eq]; exact hl, fun p hp => ?_⟩
      have f := rh1.fresh hp
      have k : Kp ρ1 H1 ρ1 (upd H1 p (.tup xs)) := Kp.laid hp
      exact q1 ρ1 _ k (rh1.laid hp) _ (.tup (.inl ⟨.inl upd_same, f⟩) (Rvs.mono k noex _ _ rxs))
    · exact q1.elim
theorem e_lst {es : List Expr} {pos : Pos} {m : AM} (h : PA X es (rdA T K W m)) : PE X (.List es pos) (rdL T K W (mNewL m)) :=
  imE (pe_lst h) fun σ H Q h => by
    obtain ⟨ρ, ex, sl, hp, rs, rh, q⟩ := h
    refine ⟨ρ, ex, sl, hp, rs, rh, q.bnd.imp fun us h1 ρ1 H1 k1 rh1 q1 xs rxs => ?_⟩
    split at q1
    · rename_i hl
      refine ⟨by rw [← rxs.length, ← line_eq]; exact hl, fun p hp => ?_⟩
      exact q1 ρ1 H1 (Kp.refl _ _) rh1 p xs _ hp rfl (by rw [← rxs.length]; exact hl) rxs
    · exact q1.elim
/-- new rows, never changed -/
theorem e_fz {e : Expr} {m : AM} (h : PE X e (rdL T K W m)) : PE X e (rdE T K W (mFz m)) := imE h fun σ H Q h => by
  obtain ⟨ρ, ex, sl, hp, rs, rh, q⟩ := h
  refine ⟨ρ, ex, sl, hp, rs, rh, q.bnd.imp fun us h1 ρ1 H1 k1 rh1 q1 p xs H2 hp e hl rxs => ?_⟩
  subst e
  have k : Kp ρ1 H1 ρ1 (upd H1 p (.lst xs)) := Kp.laid hp
  exact q1 ρ1 _ k (rh1.laid hp) _ (.lst upd_same (rh1.fresh hp) (Rvs.mono k noex _ _ rxs))
/-- new rows, laid in the heap -/
theorem e_reg {e : Expr} {m : AM} (h : PE X e (rdL T K W m)) : PE X e (rdE T K W (mReg m)) := imE h fun σ H Q h => by
  obtain ⟨ρ, ex, sl, hp, rs, rh, q⟩ := h
  refine ⟨ρ, ex, sl, hp, rs, rh, q.bnd.imp fun us h1 ρ1 H1 k1 rh1 q1 p xs H2 hp e hl rxs => ?_⟩
  subst e
  have k : Kp ρ1 H1 (ρ1 ++ [some p]) (upd H1 p (.lst xs)) := Kp.reg hp
  have e1 : (ρ1 ++ [some p])[h1.length]? = some (some p) := by
    rw [← rh1.len, List.getElem?_append_right (Nat.le_refl _), Nat.sub_self]; rfl
  exact q1 _ _ k (rh1.reg hp ⟨p, xs, rfl, upd_same, Rvs.mono k noex _ _ rxs⟩) _ (.ref e1)

/-! #### tests, choices -/
theorem e_if {c a b : Expr} {mc : TM} {ma mb : EM} {pos : Pos} (hc : PT X c (rdT T K W mc)) (ha : PE X a (rdE T K W ma)) (hb : PE X b (rdE T K W mb)) : PE X (.IfExp c a b pos) (rdE T K W (mIf mc ma mb)) :=
  imE (pe_ifExp hc ha hb) fun σ H Q h => by
    obtain ⟨ρ, ex, sl, hp, rs, rh, q⟩ := h
    refine ⟨ρ, ex, sl, hp, rs, rh, q.bnd.imp fun c h1 ρ1 H1 k1 rh1 q1 => ?_⟩
    cases c with
    | true => exact ⟨ρ1, ex, sl, h1, rs.mono k1 noex, rh1, q1⟩
    | false => exact ⟨ρ1, ex, sl, h1, rs.mono k1 noex, rh1, q1⟩
theorem rd_and {a b : TM} {σ : L2.St} {H : Hp} {Q : Bool → Hp → Prop} (h : rdT T K W (mAnd a b) σ H Q) : tAnd (rdT T K W a) (rdT T K W b) σ H Q := by
  obtain ⟨ρ, ex, sl, hp, rs, rh, q⟩ := h
  refine ⟨ρ, ex, sl, hp, rs, rh, q.bnd.imp fun c h1 ρ1 H1 k1 rh1 q1 => ?_⟩
  cases c with
  | true => exact ⟨ρ1, ex, sl, h1, rs.mono k1 noex, rh1, q1⟩
  | false => exact q1 ρ1 H1 (Kp.refl _ _) rh1
theorem rd_or {a b : TM} {σ : L2.St} {H : Hp} {Q : Bool → Hp → Prop} (h : rdT T K W (mOr a b) σ H Q) : tOr (rdT T K W a) (rdT T K W b) σ H Q := by
  obtain ⟨ρ, ex, sl, hp, rs, rh, q⟩ := h
  refine ⟨ρ, ex, sl, hp, rs, rh, q.bnd.imp fun c h1 ρ1 H1 k1 rh1 q1 => ?_⟩
  cases c with
  | false => exact ⟨ρ1, ex, sl, h1, rs.mono k1 noex, rh1, q1⟩
  | true => exact q1 ρ1 H1 (Kp.refl _ _) rh1
theorem rd_not {a : TM} {σ : L2.St} {H : Hp} {Q : Bool → Hp → Prop} (h : rdT T K W (mNot a) σ H Q) : tNot (rdT T K W a) σ H Q := by
  obtain ⟨ρ, ex, sl, hp, rs, rh, q⟩ := h
  exact ⟨ρ, ex, sl, hp, rs, rh, q.bnd.imp fun c h1 ρ1 H1 k1 rh1 q1 => q1 ρ1 H1 (Kp.refl _ _) rh1⟩
theorem t_not {a : Expr} {m : TM} {pos : Pos} (h : PT X a (rdT T K W m)) : PT X (.UnaryOp .Not a pos) (rdT T K W (mNot m)) := imT (pt_not h) fun _ _ _ h => rd_not h
theorem t_truth {a : Expr} {m : EM} (h : PE X a (rdE T X.K W m)) (he : ∀ whole, isTrue a X.env whole = (do let v ← whole; standAt a.pos; holding [v] (truthy v))) : PT X a (rdT T X.K W (mTruth m)) := imT (pt_truth h he) fun σ H Q h => by
  obtain ⟨ρ, ex, sl, hp, rs, rh, q⟩ := h
  refine ⟨ρ, ex, sl, hp, rs, rh, q.bnd.imp fun u h1 ρ1 H1 k1 rh1 q1 x rx => ?_⟩
  cases e : truth u h1 with
  | ok b h2 =>
    obtain ⟨t, e2⟩ := tru rh1 rx e
    rw [e] at q1
    subst e2
    exact ⟨b, t, q1 ρ1 H1 (Kp.refl _ _) rh1⟩
  | exc c fs h2 =>
    exfalso
    clear q1
    unfold truth at e
    split at e <;> first | cases e | (split at e <;> cases e)
  | bad => rw [e] at q1; exact q1.elim
theorem e_and {a b : Expr} {rest : List Expr} {ma mb : EM} {pos : Pos} (ha : PE X a (rdE T K W ma)) (hb : PE X (.BoolOp .And (b :: rest) pos) (rdE T K W mb)) : PE X (.BoolOp .And (a :: b :: rest) pos) (rdE T K W (mAndV ma mb)) :=
  imE (pe_and ha hb) fun σ H Q h => by
    obtain ⟨ρ, ex, sl, hp, rs, rh, q⟩ := h
    refine ⟨ρ, ex, sl, hp, rs, rh, q.bnd.imp fun u h1 ρ1 H1 k1 rh1 q1 x rx => ?_⟩
    cases u with
    | bl c =>
      cases rx
      refine ⟨c, rfl, ?_⟩
      cases c with
      | true => exact ⟨ρ1, ex, sl, h1, rs.mono k1 noex, rh1, q1⟩
      | false => exact q1 ρ1 H1 (Kp.refl _ _) rh1 _ (.bl _)
    | _ => exact q1.elim
theorem e_or {a b : Expr} {rest : List Expr} {ma mb : EM} {pos : Pos} (ha : PE X a (rdE T K W ma)) (hb : PE X (.BoolOp .Or (b :: rest) pos) (rdE T K W mb)) : PE X (.BoolOp .Or (a :: b :: rest) pos) (rdE T K W (mOrV ma mb)) :=
  imE (pe_or ha hb) fun σ H Q h => by
    obtain ⟨ρ, ex, sl, hp, rs, rh, q⟩ := h
    refine ⟨ρ, ex, sl, hp, rs, rh, q.bnd.imp fun u h1 ρ1 H1 k1 rh1 q1 x rx => ?_⟩
    cases u with
    | bl c =>
      cases rx
      refine ⟨c, rfl, ?_⟩
      cases c with
      | false => exact ⟨ρ1, ex, sl, h1, rs.mono k1 noex, rh1, q1⟩
      | true => exact q1 ρ1 H1 (Kp.refl _ _) rh1 _ (.bl _)
    | _ => exact q1.elim

/-! #### slices -/
def rSl (T : Tab) (K : PySem.W.Frag) : V → Option Int → Option Int → Hp → VK → Prop := fun x lo hi H Q => ∃ ρ ex h u w, Rh T K ρ ex H h ∧ Rv K ρ ex H u x ∧ slO u lo hi h = some w ∧
  ∀ ρ' H' z, Kp ρ H ρ' H' → Rh T K ρ' ex H' h → Rv K ρ' ex H' w z → Q z H'
theorem o_none : PO X none (rdO T K W mNoPart) := imO po_none fun σ H Q h => by
  obtain ⟨ρ, ex, sl, hp, rs, rh, q⟩ := h
  exact q ρ H (Kp.refl _ _) rh
theorem o_some {e : Expr} {m : EM} (h : PE X e (rdE T K W m)) : PO X (some e) (rdO T K W (mPart m)) := imO (po_some h) fun σ H Q h => by
  obtain ⟨ρ, ex, sl, hp, rs, rh, q⟩ := h
  refine ⟨ρ, ex, sl, hp, rs, rh, q.bnd.imp fun u h1 ρ1 H1 k1 rh1 q1 x rx => ?_⟩
  cases u with
  | int i => cases rx; exact ⟨i, rfl, q1 ρ1 H1 (Kp.refl _ _) rh1⟩
  | _ => exact q1.elim
theorem e_sl {e : Expr} {lo hi : Option Expr} {p2 pos : Pos} {m : EM} {l u : OM} (hr : SlR X (rSl T K)) (he : PE X e (rdE T K W m)) (hl : PO X lo (rdO T K W l)) (hu : PO X hi (rdO T K W u)) : PE X (.Subscript e (.Slice lo hi none p2) pos) (rdE T K W (mSl m l u)) :=
  imE (pe_slice hr he hl hu) fun σ H Q h => by
    obtain ⟨ρ, ex, sl, hp, rs, rh, q⟩ := h
    refine ⟨ρ, ex, sl, hp, rs, rh, q.bnd.imp fun u h1 ρ1 H1 k1 rh1 q1 x rx => ?_⟩
    refine ⟨ρ1, ex, sl, h1, rs.mono k1 noex, rh1, q1.bnd.imp fun i h2 ρ2 H2 k2 rh2 q2 => ?_⟩
    refine ⟨ρ2, ex, sl, h2, (rs.mono k1 noex).mono k2 noex, rh2, q2.bnd.imp fun j h3 ρ3 H3 k3 rh3 q3 => ?_⟩
    obtain ⟨w, e, q4⟩ := q3.retO
    exact ⟨ρ3, ex, h3, u, w, rh3, (rx.mono k2 noex).mono k3 noex, e, fun ρ' H' z kp rh' rz => q4 ρ' H' kp rh' z rz⟩

/-! #### calls -/
/-- a def's promise, by what it does -/
def spF (T : Tab) (K : PySem.W.Frag) (F : Fn) : Sp := fun vs H Q E => ∃ ρ ex h us, Rh T K ρ ex H h ∧ Rvs K ρ ex H us vs ∧ Fin T K (fun cls d _ H' => E cls d H') ρ ex [] H (F us h) fun v _ ρ' H' => ∀ x, Rv K ρ' ex H' v x → Q x H'
theorem Fin.other {α : Type} {W' : WX} {σ σ' : L2.St} {r : R α} {k : α → VH → Pl → Hp → Prop} (f : Fin T K W ρ ex σ H r k) (g : ∀ cls d H', W cls d σ H' → W' cls d σ' H') : Fin T K W' ρ ex σ' H r k := by
  cases r with
  | ok a h' => exact f
  | exc c fs h' => exact fun ρ' H' cls d kp rh rx => g _ _ _ (f ρ' H' cls d kp rh rx)
  | bad => exact f
theorem rd_call {F : Fn} {m : AM} {σ : L2.St} {H : Hp} {Q : VK} (h : rdE T K W (mCall F m) σ H Q) : tCallS (spF T K F) (WE W) (rdA T K W m) σ H Q := by
  obtain ⟨ρ, ex, sl, hp, rs, rh, q⟩ := h
  refine ⟨ρ, ex, sl, hp, rs, rh, q.bnd.imp fun us h1 ρ1 H1 k1 rh1 q1 xs rxs => ?_⟩
  exact ⟨ρ1, ex, h1, us, rh1, rxs, q1.other fun _ _ _ w => w⟩
theorem e_call {x : Str} {p pos : Pos} {e : Expr} {es : List Expr} {k : Nat} {f : Addr} {fd : FuncData} {ps : List Str} {F : Fn} {m : AM} (G : FnOk X.prog X.w X.K X.mg X.base (L2.CX X.prog X.w) k f fd ps (spF T X.K F)) (hr : Room k X.A) (hg : Gl X x) (hm : X.mg x = some (.ref f))
    (hk : PySem.W.keepIn X.K (.ref f) = true) (hb : Binds X.K fd ps []) (tk : Takes X W) (ha : PA X (e :: es) (rdA T X.K W m)) (hdb : (x == ("__debug__" : Str)) = false) (he : starEach (e :: es) X.env = (false, eval e X.env) :: starEach es X.env)
    (hpl : (backTo pos (starEach es X.env)).any (·.1) = false) : PE X (.Call (.Name x p) (e :: es) [] pos) (rdE T X.K W (mCall F m)) :=
  imE (pe_callS (E := WE W) G hr hg hm hk hb (fun σ => passAt tk σ) ha hdb he hpl) fun _ _ _ h => rd_call h
theorem rd_bi {F : List PV → VH → Option PV} {m : AM} {σ : L2.St} {H : Hp} {Q : VK} (h : rdE T K W (mBi F m) σ H Q) : tCB (rOA T K F) (rdA T K W m) σ H Q := by
  obtain ⟨ρ, ex, sl, hp, rs, rh, q⟩ := h
  refine ⟨ρ, ex, sl, hp, rs, rh, q.bnd.imp fun us h1 ρ1 H1 k1 rh1 q1 xs rxs => ?_⟩
  obtain ⟨w, e, q3⟩ := q1.retO
  exact ⟨ρ1, ex, h1, us, w, rh1, rxs, e, fun ρ' H' z kp rh' rz => q3 ρ' H' kp rh' z rz⟩
/-- a built-in that gives new rows -/
def rOL (T : Tab) (K : PySem.W.Frag) (f : List PV → VH → Option (List PV)) : List V → Hp → VK → Prop := fun xs H Q => ∃ ρ ex h us l, Rh T K ρ ex H h ∧ Rvs K ρ ex H us xs ∧ f us h = some l ∧
  ∀ ρ' H' p ys H2, Kp ρ H ρ' H' → Rh T K ρ' ex H' h → H' p = none → H2 = upd H' p (.lst ys) → ys.length ≤ line → Rvs K ρ' ex H' l ys → Q (.ref p) H2
theorem rd_bil {F : List PV → VH → Option (List PV)} {m : AM} {σ : L2.St} {H : Hp} {Q : VK} (h : rdL T K W (mBiL F m) σ H Q) : tCB (rOL T K F) (rdA T K W m) σ H Q := by
  obtain ⟨ρ, ex, sl, hp, rs, rh, q⟩ := h
  refine ⟨ρ, ex, sl, hp, rs, rh, q.bnd.imp fun us h1 ρ1 H1 k1 rh1 q1 xs rxs => ?_⟩
  obtain ⟨w, e, q3⟩ := q1.retO
  exact ⟨ρ1, ex, h1, us, w, rh1, rxs, e, fun ρ' H' p ys H2 kp rh' hp e hl rl => q3 ρ' H' kp rh' p ys H2 hp e hl rl⟩
end
end Y

set_option maxHeartbeats 1000000
namespace Y
open PySem PySem.Spec PyProof.Rows L2
theorem tuple_mulS (l : Addr) (items : Array Value) (n : Nat) (dd : Option Addr) (sl : Array (Option Value)) (x : Int) (u : Tok) (c0 : (decide (x < -(2 ^ 63)) || decide (x ≥ 2 ^ 63)) = false) (c1 : (items.isEmpty || x == 1) = true) :
    Meets (Builtin.«tuple.__mul__» ⟨[.ref l, .int x u], []⟩) (fun _ R s => s.heap.get? l = some { cls := .type "tuple", dict := dd, data := .seq items n, slots := sl } ∧
      R (.ok (.ret (Value.ref l))) s) :=
  .of_wp fun prog w A R s h => by
    obtain ⟨hp, g, d, tk, os⟩ := s
    obtain ⟨hl, h⟩ := h
    have f1 := AutoSeq1.idx_int
    wp_walk using wpAny_loadPart' hl
    repeat (first
      | (refine wpAny_ite_false (decide_eq_false (by rw [c0]; exact Bool.false_ne_true)) ?_; wp_walk using wpAny_loadPart' hl)
      | (refine wpAny_ite_true (decide_eq_true c1) ?_; wp_walk using wpAny_loadPart' hl))
    exact ⟨_, rfl, h⟩
theorem tuple_mul0 (l : Addr) (items : Array Value) (n : Nat) (dd : Option Addr) (sl : Array (Option Value)) (x : Int) (u : Tok) (c0 : (decide (x < -(2 ^ 63)) || decide (x ≥ 2 ^ 63)) = false) (c1 : (items.isEmpty || x == 1) = false) (c2 : (decide (x ≤ 0) || items.isEmpty) = true) :
    Meets (Builtin.«tuple.__mul__» ⟨[.ref l, .int x u], []⟩) (fun _ R s => s.heap.get? l = some { cls := .type "tuple", dict := dd, data := .seq items n, slots := sl } ∧
      R (.ok (.ret (Value.ref s.heap.objs.size))) { s with heap := s.heap.push { cls := Value.type "tuple", data := Data.seq #[] }, toks := s.toks }) :=
  .of_wp fun prog w A R s h => by
    obtain ⟨hp, g, d, tk, os⟩ := s
    obtain ⟨hl, h⟩ := h
    have f1 := AutoSeq1.idx_int
    wp_walk using wpAny_loadPart' hl
    repeat (first
      | (refine wpAny_ite_false (decide_eq_false (by rw [c0]; exact Bool.false_ne_true)) ?_; wp_walk using wpAny_loadPart' hl)
      | (refine wpAny_ite_false (decide_eq_false (by rw [c1]; exact Bool.false_ne_true)) ?_; wp_walk using wpAny_loadPart' hl)
      | (refine wpAny_ite_true (decide_eq_true c2) ?_; wp_walk using wpAny_loadPart' hl))
    exact ⟨_, rfl, h⟩
end Y
namespace Y
open PySem PySem.Spec PyProof.Rows L2

/-! ### texts -/
theorem StrR.length {s : List Nat} {z : Str} (r : StrR s z) : z.length = s.length := by rw [← r.eq]; rfl
theorem StrR.mk' {s : List Nat} (hl : s.length ≤ line) (ho : chOk s) : StrR s ⟨s.toArray⟩ := ⟨rfl, hl, ho⟩
theorem StrR.is {s : List Nat} {z : Str} (r : StrR s z) : z = ⟨s.toArray⟩ := by
  cases z with
  | mk c => rw [← r.eq]
theorem StrR.inj {s t : List Nat} {z : Str} (r : StrR s z) (q : StrR t z) : s = t := by rw [← r.eq, ← q.eq]
theorem chOk.append {s t : List Nat} (a : chOk s) (b : chOk t) : chOk (s ++ t) := fun c h => (List.mem_append.mp h).elim (a c) (b c)
theorem StrR.append {s t : List Nat} {z w : Str} (r : StrR s z) (q : StrR t w) (hl : s.length + t.length ≤ line) : StrR (s ++ t) (z ++ w) := by
  refine ⟨?_, by rw [List.length_append]; exact hl, r.ok.append q.ok⟩
  show (z.cps ++ w.cps).toList = s ++ t
  rw [Array.toList_append, r.eq, q.eq]
theorem chOk.rep {s : List Nat} (a : chOk s) : ∀ n, chOk (Y.rep s n)
  | 0 => fun _ h => by cases h
  | n + 1 => a.append (chOk.rep a n)
theorem rep_length {α : Type} (s : List α) : ∀ n, (Y.rep s n).length = s.length * n
  | 0 => by simp [Y.rep]
  | n + 1 => by rw [Y.rep, List.length_append, rep_length s n, Nat.mul_succ]; omega
theorem rep_flat {α : Type} (s : List α) : ∀ n, (List.replicate n s).flatten = Y.rep s n
  | 0 => rfl
  | n + 1 => by rw [List.replicate_succ, List.flatten_cons, rep_flat s n]; rfl
theorem rep_one {α : Type} (s : List α) : Y.rep s 1 = s := by simp [Y.rep]
theorem chOk.sub {s t : List Nat} (a : chOk s) (h : ∀ c ∈ t, c ∈ s) : chOk t := fun c hc => a c (h c hc)
theorem cut_mem {α : Type} {l : List α} {lo hi : Option Int} {x : α} (h : x ∈ cut l lo hi) : x ∈ l := List.mem_of_mem_drop (List.mem_of_mem_take h)
theorem cut_len {α : Type} (l : List α) (lo hi : Option Int) : (cut l lo hi).length ≤ l.length := by
  unfold cut
  rw [List.length_take, List.length_drop]
  omega

section
variable {X : Cx} {T : Tab} {K : PySem.W.Frag}

/-! ### + - * // % -/
theorem rng62 {b : Int} (h : rngOk b = true) : -4611686018427387904 ≤ b ∧ b < 4611686018427387904 := by
  have := rngOk_out h
  omega
/-- a text times a number -/
theorem mul_text {prog : Program} {w : World} {A : Around} {E : Value → Shared → Prop} {s : Shared} {x : Str} {n : Int} {t u : Tok} {Q : Value → Shared → Prop} (h1 : -4611686018427387904 ≤ n) (h2 : n < 4611686018427387904) (hl : x.length * n.toNat ≤ sizeLine)
    (h : ∀ t' s', (∃ k, s' = { s with toks := k }) → Q (.str ⟨(Y.rep x.cps.toList n.toNat).toArray⟩ t') s') : wpAny (model prog w) A (binaryOp .Mult (.str x t) (.int n u)) Q E s := by
  have cap : ∀ _ : ¬ n < 1, ¬ (n == 1 || x.length == 0) = true → (x.length : Int) ≤ (2 ^ 63 - 1) / n := fun a b => by
    rw [Int.le_ediv_iff_mul_le (by omega)]
    have e : ((x.length * n.toNat : Nat) : Int) = (x.length : Int) * n := by rw [Int.natCast_mul, Int.toNat_of_nonneg (by omega)]
    rw [← e]
    rw [sizeLine_eq] at hl
    omega
  refine PySem.P.mul_str (by rw [decide_eq_false (by omega), decide_eq_false (by omega)]; rfl) (fun a b => by have := cap a (by rw [b]; decide); omega) (fun a b => ?_) ?_
  · first
      | (unfold Builtin.Str.tooLong; exact decide_eq_false (by omega))
      | (simp only [Builtin.Str.tooLong]; exact decide_eq_false (by omega))
      | simpa [Builtin.Str.tooLong] using hl
  · split
    · rename_i h0
      have e : n.toNat = 0 := by omega
      refine ⟨by decide, ?_⟩
      rw [e] at h
      exact h _ _ ⟨_, rfl⟩
    · split
      · rename_i h0 h3
        show Q (.str x t) s
        have e : (⟨(Y.rep x.cps.toList n.toNat).toArray⟩ : Str) = x := by
          rcases Bool.or_eq_true_iff.mp h3 with h3 | h3
          · have e1 : n.toNat = 1 := by have := eq_of_beq h3; omega
            rw [e1, rep_one]
          · have e1 : x.cps.toList = [] := by
              have h4 : x.length = 0 := eq_of_beq h3
              exact List.eq_nil_of_length_eq_zero h4
            have e2 : Y.rep x.cps.toList n.toNat = [] := by
              apply List.eq_nil_of_length_eq_zero
              rw [rep_length, e1]; simp
            rw [e2]
            have e3 : x.cps = #[] := by
              have := congrArg List.toArray e1
              simpa using this
            cases x; simp at e3; rw [e3]
        have := h t s ⟨_, rfl⟩
        rw [e] at this
        exact this
      · have e0 : List.foldl (fun x1 x2 => x1 ++ x2) #[] (List.replicate n.toNat x.cps) = (Y.rep x.cps.toList n.toNat).toArray := by
          have gen : ∀ (m : Nat) (acc : Array Nat), (List.foldl (fun x1 x2 => x1 ++ x2) acc (List.replicate m x.cps)).toList = acc.toList ++ Y.rep x.cps.toList m := fun m => by
            induction m with
            | zero => intro acc; simp [Y.rep]
            | succ m ih => intro acc; rw [List.replicate_succ, List.foldl_cons, ih, Array.toList_append, Y.rep, List.append_assoc]
          have := gen n.toNat #[]
          simp at this
          exact Array.toList_inj.mp (by simpa using this)
        refine ⟨?_, ?_⟩
        · rw [e0]
          show (Y.rep x.cps.toList n.toNat).toArray.size ≤ sizeLine
          rw [List.size_toArray, rep_length]
          exact hl
        · have := h s.toks { s with toks := s.toks + 1 } ⟨_, rfl⟩
          rw [← e0] at this
          exact this

/-- a tuple times a number -/
def rRepA (K : PySem.W.Frag) : R2 := fun x y H Q => ∃ l k xs, x = .ref l ∧ y = .int k ∧ SqT K H l xs ∧ -4611686018427387904 ≤ k ∧ k < 4611686018427387904 ∧ xs.length * k.toNat ≤ sizeLine ∧ (Y.rep xs k.toNat = xs → Q (.ref l) H) ∧ ∀ p, H p = none → Q (.ref p) (upd H p (.tup (Y.rep xs k.toNat)))
theorem op_repA : OpR X (binaryOp .Mult) (rRepA X.K) := by
  intro pins s σ H x y v u Q I rx ry h
  obtain ⟨l, k, xs, rfl, rfl, hT, h1, h2, hz, qs, q⟩ := h
  cases rx
  obtain ⟨t, rfl⟩ := ry
  obtain ⟨its, r, ⟨⟨cls, dd, data, sl⟩, ho, hc, n, hd⟩, hs⟩ := I.tuple hT
  simp only at hc hd
  subst hc hd
  have hle : its.length = xs.length := r.length.symm
  have hsz0 : its.toArray.size = xs.length := by rw [List.size_toArray, hle]
  have c0 : (decide (k < -(2 ^ 63)) || decide (k ≥ 2 ^ 63)) = false := by
    rw [decide_eq_false (by omega), decide_eq_false (by omega)] <;> rfl
  have road : ∀ {Q' : Value → Shared → Prop}, wpAny (model X.prog X.w) X.A (call (.builtin "tuple.__mul__") [.ref l, .int k t]) Q' X.xe s → wpAny (model X.prog X.w) X.A (binaryOp .Mult (.ref l) (.int k t)) Q' X.xe s := fun {Q'} hq =>
    wpAny_binaryOp_repeat_ref (T := "tuple") (U := "int") (by decide) ⟨_, ho, rfl⟩ (fun s' => typeIs_int s' k t) L2.noFill_tuple_mul F.fills_int_mul F.slot_int_rmul L2.repeat_tuple F.slot_int_index.lookup
      (call_meets F.slot_int_rmul (typeIs_int s k t) F.entry_int_rmul (F.args_int_rmul_2 _ _) (L2.int_rmul_tuple k t l its.toArray n dd sl) ⟨ho, rfl, ⟨_, ho, rfl⟩, hq⟩)
  cases c1 : (its.toArray.isEmpty || k == 1) with
  | true =>
    refine road (call_meets F.slot_tuple_mul ⟨_, ho, rfl⟩ F.entry_tuple_mul (F.args_tuple_mul_2 _ _) (tuple_mulS l its.toArray n dd sl k t c0 c1) ⟨ho, ?_⟩)
    refine ⟨.ref l, H, I, rfl, qs ?_⟩
    rcases Bool.or_eq_true_iff.mp c1 with c | c
    · have e : its = [] := by simpa using c
      have e2 : xs = [] := by
        rw [e] at hle
        exact List.eq_nil_of_length_eq_zero hle.symm
      rw [e2]
      apply List.eq_nil_of_length_eq_zero
      rw [rep_length]; simp
    · have e : k = 1 := eq_of_beq c
      rw [e]
      exact rep_one xs
  | false =>
    have c1' := Bool.or_eq_false_iff.mp c1
    have hi : its.toArray.isEmpty = false := c1'.1
    cases c2 : (decide (k ≤ 0) || its.toArray.isEmpty) with
    | true =>
      have hk : k ≤ 0 := by
        rw [hi, Bool.or_false] at c2
        exact of_decide_eq_true c2
      have ek : k.toNat = 0 := by omega
      refine road (call_meets F.slot_tuple_mul ⟨_, ho, rfl⟩ F.entry_tuple_mul (F.args_tuple_mul_2 _ _) (tuple_mul0 l its.toArray n dd sl k t c0 c1 c2) ⟨ho, ?_⟩)
      rw [ek] at q
      refine ⟨.ref s.heap.objs.size, _, I.laid (t' := s.toks) (o := .tup []) (fun b ob q => Heap.get?_push_of_some _ q) (Nat.le_refl _) ?_, rfl, q _ (I.hok.fresh (Nat.le_refl _))⟩
      exact ⟨Nat.zero_le _, [], .nil, IsTup.new _ _⟩
    | false =>
      have hk : 0 < k := by
        rw [hi, Bool.or_false] at c2
        have := of_decide_eq_false c2
        omega
      have ez : ((xs.length * k.toNat : Nat) : Int) = (xs.length : Int) * k := by rw [Int.natCast_mul, Int.toNat_of_nonneg (by omega)]
      have hm : ((its.toArray.size : Nat) : Int) * k ≤ 16777216 := by
        rw [hsz0, ← ez]
        rw [sizeLine_eq] at hz
        omega
      have flen : (List.replicate k.toNat its).flatten.length ≤ sizeLine := by
        rw [rep_flat, rep_length, hle]
        exact hz
      have c4 : Builtin.Tuple.tupleTooMany (((its.toArray.size : Nat) : Int) * k) = false := by
        unfold Builtin.Tuple.tupleTooMany
        rw [sizeLine_eq]
        exact decide_eq_false (by omega)
      refine road (call_meets F.slot_tuple_mul ⟨_, ho, rfl⟩ F.entry_tuple_mul (F.args_tuple_mul_2 _ _) (L2.tuple_mulW l its.toArray n dd sl k t c0 c1 c2 (by omega) c4 (by rw [L2.size_rep, List.size_toArray]; exact flen)) ⟨ho, ?_⟩)
      rw [L2.size_rep]
      refine ⟨.ref s.heap.objs.size, _, I.laid (t' := s.toks) (o := .tup (Y.rep xs k.toNat)) (fun b ob q => Heap.get?_push_of_some _ q) (Nat.le_refl _) ?_, rfl, q _ (I.hok.fresh (Nat.le_refl _))⟩
      refine ⟨by rw [rep_length]; exact hz, _, ?_, IsTup.new _ _⟩
      rw [← rep_flat]
      exact r.rep k.toNat

theorem Rh.lst {ρ : Pl} {ex : List Addr} {H : Hp} {h : VH} {n : Nat} {l : List PV} {x : V} (rh : Rh T K ρ ex H h) (e : h[n]? = some (.lst l)) (rx : Rv K ρ ex H (.ref n) x) : ∃ a vs, x = .ref a ∧ ρ[n]? = some (some a) ∧ H a = some (.lst vs) ∧ Rvs K ρ ex H l vs := by
  cases rx with
  | ref er =>
    obtain ⟨a, vs, e1, e2, r⟩ := rh.ob _ _ _ e er
    cases e1
    exact ⟨_, _, rfl, er, e2, r⟩
theorem Rv.asList {ρ : Pl} {ex : List Addr} {H : Hp} {h : VH} {u : PV} {l : List PV} {x : V} (rh : Rh T K ρ ex H h) (e : Y.asList u h = some l) (rx : Rv K ρ ex H u x) : ∃ a vs, x = .ref a ∧ H a = some (.lst vs) ∧ Rvs K ρ ex H l vs := by
  unfold Y.asList at e
  split at e
  · cases e
    cases rx with
    | lst a _ r => exact ⟨_, _, rfl, a, r⟩
  · split at e
    · cases e
      rename_i el
      obtain ⟨a, vs, e1, _, e2, r⟩ := rh.lst el rx
      exact ⟨a, vs, e1, e2, r⟩
    · cases e
  · cases e
theorem Rv.asSeq {ρ : Pl} {ex : List Addr} {H : Hp} {h : VH} {u : PV} {l : List PV} {x : V} (rh : Rh T K ρ ex H h) (e : Y.asSeq u h = some l) (rx : Rv K ρ ex H u x) : ∃ a vs, x = .ref a ∧ (SqL K H a vs ∨ SqT K H a vs) ∧ Rvs K ρ ex H l vs := by
  unfold Y.asSeq at e
  split at e
  · cases e
    cases rx with
    | tup a r => exact ⟨_, _, rfl, .inr (a.elim (fun z => .inl z.1) .inr), r⟩
  · obtain ⟨a, vs, e1, e2, r⟩ := rx.asList rh e
    exact ⟨a, vs, e1, .inl (.inl (.inl e2)), r⟩
theorem Rv.tupT {ρ : Pl} {ex : List Addr} {H : Hp} {l : List PV} {x : V} (rx : Rv K ρ ex H (.tup l) x) : ∃ a vs, x = .ref a ∧ SqT K H a vs ∧ Rvs K ρ ex H l vs := by
  cases rx with
  | tup a r => exact ⟨_, _, rfl, a.elim (fun z => .inl z.1) .inr, r⟩
theorem Rv.newT {ρ : Pl} {ex : List Addr} {H : Hp} {h : VH} {l : List PV} {vs : List V} {p : Addr} (rh : Rh T K ρ ex H h) (hp : H p = none) (r : Rvs K ρ ex H l vs) : Rv K ρ ex (upd H p (.tup vs)) (.tup l) (.ref p) :=
  .tup (.inl ⟨.inl upd_same, rh.fresh hp⟩) (Rvs.mono (Kp.laid hp) noex _ _ r)
theorem Rv.newL {ρ : Pl} {ex : List Addr} {H : Hp} {h : VH} {l : List PV} {vs : List V} {p : Addr} (rh : Rh T K ρ ex H h) (hp : H p = none) (r : Rvs K ρ ex H l vs) : Rv K ρ ex (upd H p (.lst vs)) (.lst l) (.ref p) :=
  .lst upd_same (rh.fresh hp) (Rvs.mono (Kp.laid hp) noex _ _ r)

theorem o_bin (op : Operator) : OpR X (binaryOp op) (rO2 T X.K (binO op)) := by
  intro pins s σ H x y v u Q I rx ry h
  obtain ⟨ρ, ex, hp, a, b, w, rh, ra, rb, e, q⟩ := h
  have same := fun z (rz : Rv X.K ρ ex H w z) => q ρ H z (Kp.refl _ _) rh rz
  unfold binO at e
  split at e
  · cases ra; cases rb; cases e
    exact op_add pins s σ H _ _ _ _ Q I rx ry ⟨_, _, rfl, rfl, same _ (.int _)⟩
  · cases ra; cases rb; cases e
    exact op_sub pins s σ H _ _ _ _ Q I rx ry ⟨_, _, rfl, rfl, same _ (.int _)⟩
  · cases ra; cases rb
    split at e
    · rename_i hc
      cases e
      have hc := (Bool.or_eq_true_iff.mp hc).imp (fun z => mulOk_out z) (fun z => mulOk_out z)
      exact op_mul pins s σ H _ _ _ _ Q I rx ry ⟨_, _, rfl, rfl, hc, same _ (.int _)⟩
    · cases e
  · cases ra; cases rb
    split at e
    · rename_i hc
      cases e
      exact op_fdiv pins s σ H _ _ _ _ Q I rx ry ⟨_, _, rfl, rfl, divOk_out hc, same _ (.int _)⟩
    · cases e
  · cases ra; cases rb
    split at e
    · rename_i hc
      cases e
      exact op_mod pins s σ H _ _ _ _ Q I rx ry ⟨_, _, rfl, rfl, hc, same _ (.int _)⟩
    · cases e
  · cases ra with
    | str r1 =>
      cases rb with
      | str r2 =>
        split at e
        · rename_i hc
          cases e
          exact op_add_str pins s σ H _ _ _ _ Q I rx ry ⟨_, _, rfl, rfl, by rw [r1.length, r2.length, ← line_eq]; exact hc, same _ (.str (r1.append r2 hc))⟩
        · cases e
  · cases ra with
    | str r1 =>
      cases rb
      split at e
      · rename_i hc
        cases e
        obtain ⟨t, rfl⟩ := rx
        obtain ⟨t', rfl⟩ := ry
        obtain ⟨hc1, hc4⟩ := hc
        obtain ⟨hc2, hc3⟩ := rng62 hc4
        refine mul_text hc2 hc3 (by rw [r1.length, ← line_eq]; exact hc1) fun t' s' ⟨k, es⟩ => ?_
        subst es
        rw [r1.eq]
        exact ⟨.str _, H, I.tok k, ⟨_, rfl⟩, same _ (.str (.mk' (by rw [rep_length]; exact hc1) (r1.ok.rep _)))⟩
      · cases e
  · split at e
    · rename_i hc
      cases e
      obtain ⟨hc1, hc2, hc3⟩ := hc
      obtain ⟨a1, vs1, rfl, s1, r1⟩ := ra.tupT
      obtain ⟨a2, vs2, rfl, s2, r2⟩ := rb.tupT
      have n1 : vs1 ≠ [] := fun z => hc2 (List.eq_nil_of_length_eq_zero (by rw [r1.length, z]; rfl))
      have n2 : vs2 ≠ [] := fun z => hc3 (List.eq_nil_of_length_eq_zero (by rw [r2.length, z]; rfl))
      refine op_catT pins s σ H _ _ _ _ Q I rx ry ⟨_, _, _, _, rfl, rfl, s1, s2, n1, by rw [← r1.length, ← r2.length, ← line_eq]; exact hc1, fun z => absurd z n2, fun _ p hp => ?_⟩
      exact q ρ _ _ (Kp.laid hp) (rh.laid hp) (Rv.newT rh hp (r1.append r2))
    · cases e
  · cases rb
    split at e
    · rename_i hc
      cases e
      obtain ⟨hc1, hc4⟩ := hc
      obtain ⟨hc2, hc3⟩ := rng62 hc4
      obtain ⟨a1, vs1, rfl, s1, r1⟩ := ra.tupT
      refine op_repA pins s σ H _ _ _ _ Q I rx ry ⟨_, _, _, rfl, rfl, s1, hc2, hc3, by rw [← r1.length, ← line_eq]; exact hc1, fun z => ?_, fun p hp => ?_⟩
      · cases ra with
        | tup ia r1' =>
          rename_i vs'
          have e2 : vs' = vs1 := by
            have z1 : SqT X.K H a1 vs' := ia.elim (fun z => .inl z.1) .inr
            exact I.tuple_inj z1 s1
          subst e2
          refine same _ (.tup ia ?_)
          rw [← z]
          exact r1'.rep _
      · exact q ρ _ _ (Kp.laid hp) (rh.laid hp) (Rv.newT rh hp (r1.rep _))
    · cases e
  · split at e
    · rename_i l2 el
      split at e
      · rename_i hc
        cases e
        obtain ⟨a2, vs2, rfl, s2, r2⟩ := rb.asList rh el
        cases ra with
        | lst s1 _ r1 =>
          refine op_cat pins s σ H _ _ _ _ Q I rx ry ⟨_, _, _, _, rfl, rfl, s1, s2, by rw [← r1.length, ← r2.length, ← line_eq]; exact hc, fun p hp => ?_⟩
          exact q ρ _ _ (Kp.laid hp) (rh.laid hp) (Rv.newL rh hp (r1.append r2))
      · cases e
    · cases e
  · split at e
    · rename_i l1 l2 e1 e2
      split at e
      · rename_i hc
        cases e
        obtain ⟨a1, vs1, rfl, s1, r1⟩ := ra.asList rh e1
        obtain ⟨a2, vs2, rfl, s2, r2⟩ := rb.asList rh e2
        refine op_cat pins s σ H _ _ _ _ Q I rx ry ⟨_, _, _, _, rfl, rfl, s1, s2, by rw [← r1.length, ← r2.length, ← line_eq]; exact hc, fun p hp => ?_⟩
        exact q ρ _ _ (Kp.laid hp) (rh.laid hp) (Rv.newL rh hp (r1.append r2))
      · cases e
    · cases e
  · cases rb
    split at e
    · rename_i hc
      cases e
      obtain ⟨hc1, hc4⟩ := hc
      obtain ⟨hc2, hc3⟩ := rng62 hc4
      cases ra with
      | lst s1 _ r1 =>
        refine op_rep pins s σ H _ _ _ _ Q I rx ry ⟨_, _, _, rfl, rfl, s1, by omega, by omega, by rw [← r1.length, ← line_eq]; exact hc1, fun p hp => ?_⟩
        rw [rep_flat]
        exact q ρ _ _ (Kp.laid hp) (rh.laid hp) (Rv.newL rh hp (r1.rep _))
    · cases e
  · cases e
end
end Y

set_option maxHeartbeats 1000000
namespace Y
open PySem PySem.Spec PyProof.Rows L2

/-! ### == on plain values -/
mutual
def toD : PV → PyData
  | .non => .none
  | .int i => .int i
  | .str s => .str ⟨s.toArray⟩
  | .tup l => .tuple (toDs l)
  | .lst l => .list (toDs l)
  | _ => .none
def toDs : List PV → List PyData
  | [] => []
  | a :: r => toD a :: toDs r
end
section
variable {X : Cx} {T : Tab} {K : PySem.W.Frag} {ρ : Pl} {ex : List Addr} {H : Hp}
mutual
theorem Rv.dp : ∀ (d : PV) (v : V), d.plain = true → Rv K ρ ex H d v → Dp K H v (toD d)
  | .non, _, _, h => by cases h; exact .non
  | .int _, _, _, h => by cases h; exact .int _
  | .str s, _, _, h => by
    cases h with
    | str r => rw [toD, ← r.is]; exact .str _
  | .tup l, _, p, h => by
    obtain ⟨a, vs, rfl, s, r⟩ := h.tupT
    exact .tup s (Rvs.dp l _ (by simpa [PV.plain] using p) r)
  | .lst l, _, p, h => by
    cases h with
    | lst a _ r => exact .lst (.inl (.inl a)) (Rvs.dp l _ (by simpa [PV.plain] using p) r)
  | .bl _, _, p, _ => by simp [PV.plain] at p
  | .dct _, _, p, _ => by simp [PV.plain] at p
  | .ref _, _, p, _ => by simp [PV.plain] at p
  | .exn _ _, _, p, _ => by simp [PV.plain] at p
  | .scr _, _, p, _ => by simp [PV.plain] at p
theorem Rvs.dp : ∀ (ds : List PV) (vs : List V), PV.plainL ds = true → Rvs K ρ ex H ds vs → DpAll K H vs (toDs ds)
  | [], _, _, h => by cases h; exact .nil
  | d :: ds, _, p, h => by
    cases h with
    | cons a r =>
      have p' : d.plain = true ∧ PV.plainL ds = true := by simpa [PV.plainL] using p
      exact .cons (Rv.dp d _ p'.1 a) (Rvs.dp ds _ p'.2 r)
end
mutual
theorem toD_lay : ∀ (d : PV) (v : V), d.plain = true → Rv K ρ ex H d v → (toD d).canLay0 = true
  | .non, _, _, h => by simp [toD, PyData.canLay0]
  | .int _, _, _, h => by simp [toD, PyData.canLay0]
  | .str s, _, _, h => by
    cases h with
    | str r =>
      simp only [toD, PyData.canLay0, PyData.strOk]
      simp only [List.all_toArray, List.all_eq_true, decide_eq_true_eq]
      intro c hc
      exact r.ok c hc
  | .tup l, _, p, h => by
    obtain ⟨a, vs, rfl, s, r⟩ := h.tupT
    simp only [toD, PyData.canLay0]
    exact toDs_lay l _ (by simpa [PV.plain] using p) r
  | .lst l, _, p, h => by
    cases h with
    | lst a _ r =>
      simp only [toD, PyData.canLay0]
      exact toDs_lay l _ (by simpa [PV.plain] using p) r
  | .bl _, _, p, _ => by simp [PV.plain] at p
  | .dct _, _, p, _ => by simp [PV.plain] at p
  | .ref _, _, p, _ => by simp [PV.plain] at p
  | .exn _ _, _, p, _ => by simp [PV.plain] at p
  | .scr _, _, p, _ => by simp [PV.plain] at p
theorem toDs_lay : ∀ (ds : List PV) (vs : List V), PV.plainL ds = true → Rvs K ρ ex H ds vs → PyData.canLayAll0 (toDs ds) = true
  | [], _, _, h => by simp [toDs, PyData.canLayAll0]
  | d :: ds, _, p, h => by
    cases h with
    | cons a r =>
      have p' : d.plain = true ∧ PV.plainL ds = true := by simpa [PV.plainL] using p
      simp only [toDs, PyData.canLayAll0, toD_lay d _ p'.1 a, toDs_lay ds _ p'.2 r, Bool.and_self]
end
mutual
theorem toD_dep : ∀ (d : PV), (toD d).depth ≤ d.dep
  | .non => by simp [toD, PyData.depth]
  | .int _ => by simp [toD, PyData.depth]
  | .str s => by simp [toD, PyData.depth]
  | .tup l => by have := toDs_dep l; simp only [toD, PyData.depth, PV.dep]; omega
  | .lst l => by have := toDs_dep l; simp only [toD, PyData.depth, PV.dep]; omega
  | .bl _ => by simp [toD, PyData.depth]
  | .dct _ => by simp [toD, PyData.depth]
  | .ref _ => by simp [toD, PyData.depth]
  | .exn _ _ => by simp [toD, PyData.depth]
  | .scr _ => by simp [toD, PyData.depth]
theorem toDs_dep : ∀ (ds : List PV), PyData.depthAll (toDs ds) ≤ PV.depL ds
  | [] => by simp [toDs, PyData.depthAll, PV.depL]
  | d :: ds => by
    have h1 := toD_dep d
    have h2 := toDs_dep ds
    simp only [toDs, PyData.depthAll, PV.depL]
    omega
end
theorem str_toArray {a b : List Nat} : (({ cps := a.toArray } : Str) == { cps := b.toArray }) = decide (a = b) := by
  by_cases h : a = b
  · subst h; simp
  · rw [decide_eq_false h]
    refine beq_eq_false_iff_ne.mpr fun e => h ?_
    have := congrArg (fun z => z.cps.toList) e
    simpa using this
theorem dec_tup {a b : List PV} : decide (PV.tup a = PV.tup b) = decide (a = b) := by simp
theorem dec_lst {a b : List PV} : decide (PV.lst a = PV.lst b) = decide (a = b) := by simp
theorem dec_strP {a b : List Nat} : decide (PV.str a = PV.str b) = decide (a = b) := by simp
theorem dec_intP {a b : Int} : decide (PV.int a = PV.int b) = (a == b) := by
  by_cases h : a = b
  · subst h; simp
  · simp [h]
mutual
theorem toD_eqv : ∀ (a b : PV), a.plain = true → b.plain = true → PyData.eqv (toD a) (toD b) = decide (a = b)
  | .non, b, _, q => by cases b <;> first | (simp [toD, PyData.eqv]; done) | (simp [PV.plain] at q; done)
  | .int i, b, _, q => by
    cases b <;> first | (rw [dec_intP]; simp [toD, PyData.eqv]; done) | (simp [toD, PyData.eqv]; done) | (simp [PV.plain] at q; done)
  | .str s, b, _, q => by
    cases b <;> first | (rw [dec_strP]; simp only [toD, PyData.eqv]; exact str_toArray) | (simp [toD, PyData.eqv]; done) | (simp [PV.plain] at q; done)
  | .tup l, b, p, q => by
    cases b <;> first | (rw [dec_tup]; simp only [toD, PyData.eqv]; exact toDs_eqv l _ (by simpa [PV.plain] using p) (by simpa [PV.plain] using q)) | (simp [toD, PyData.eqv]; done) | (simp [PV.plain] at q; done)
  | .lst l, b, p, q => by
    cases b <;> first | (rw [dec_lst]; simp only [toD, PyData.eqv]; exact toDs_eqv l _ (by simpa [PV.plain] using p) (by simpa [PV.plain] using q)) | (simp [toD, PyData.eqv]; done) | (simp [PV.plain] at q; done)
  | .bl _, _, p, _ => by simp [PV.plain] at p
  | .dct _, _, p, _ => by simp [PV.plain] at p
  | .ref _, _, p, _ => by simp [PV.plain] at p
  | .exn _ _, _, p, _ => by simp [PV.plain] at p
  | .scr _, _, p, _ => by simp [PV.plain] at p
theorem toDs_eqv : ∀ (a b : List PV), PV.plainL a = true → PV.plainL b = true → PyData.eqvAll (toDs a) (toDs b) = decide (a = b)
  | [], [], _, _ => by simp [toDs, PyData.eqvAll]
  | [], _ :: _, _, _ => by simp [toDs, PyData.eqvAll]
  | _ :: _, [], _, _ => by simp [toDs, PyData.eqvAll]
  | a :: r, b :: t, p, q => by
    have p' : a.plain = true ∧ PV.plainL r = true := by simpa [PV.plainL] using p
    have q' : b.plain = true ∧ PV.plainL t = true := by simpa [PV.plainL] using q
    simp only [toDs, PyData.eqvAll, toD_eqv a b p'.1 q'.1, toDs_eqv r t p'.2 q'.2]
    simp
end
/-- a list of the heap is read as it stands -/
theorem Rv.look {h : VH} {u : PV} {x : V} (rh : Rh T K ρ ex H h) (r : Rv K ρ ex H u x) (hp : (Y.look u h).plain = true) : Dp K H x (toD (Y.look u h)) ∧ (toD (Y.look u h)).canLay0 = true := by
  cases u with
  | ref n =>
    unfold Y.look at hp ⊢
    simp only at hp ⊢
    split at hp
    · rename_i l e
      obtain ⟨a, vs, rfl, _, e2, r2⟩ := rh.lst e r
      have p : PV.plainL l = true := by simpa [PV.plain] using hp
      rw [toD]
      exact ⟨.lst (.inl (.inl e2)) (Rvs.dp l _ p r2), by rw [PyData.canLay0]; exact toDs_lay l _ p r2⟩
    · simp [PV.plain] at hp
  | non => exact ⟨Rv.dp _ _ hp r, toD_lay _ _ hp r⟩
  | bl _ => simp [Y.look, PV.plain] at hp
  | int _ => exact ⟨Rv.dp _ _ hp r, toD_lay _ _ hp r⟩
  | str _ => exact ⟨Rv.dp _ _ hp r, toD_lay _ _ hp r⟩
  | tup _ => exact ⟨Rv.dp _ _ hp r, toD_lay _ _ hp r⟩
  | lst _ => exact ⟨Rv.dp _ _ hp r, toD_lay _ _ hp r⟩
  | dct _ => simp [Y.look, PV.plain] at hp
  | exn _ _ => simp [Y.look, PV.plain] at hp
  | scr _ => simp [Y.look, PV.plain] at hp
theorem look_bl {h : VH} {u : PV} {b : Bool} (e : Y.look u h = .bl b) : u = .bl b := by
  cases u <;> simp only [Y.look] at e <;> first | exact e | (split at e <;> cases e)
theorem shaped_of {d : PV} (l : (toD d).canLay0 = true) (hd : d.dep ≤ 60) : SeqAt.shaped (toD d) = true := by
  have := toD_dep d
  unfold SeqAt.shaped
  rw [l, Bool.true_and]
  exact decide_eq_true (by omega)
theorem eqO_out {a b : PV} {r : Bool} (e : eqO a b = some r) : (∃ x y, a = .bl x ∧ b = .bl y ∧ r = (x == y)) ∨ (a.plain = true ∧ b.plain = true ∧ a.dep ≤ 60 ∧ b.dep ≤ 60 ∧ r = decide (a = b)) := by
  unfold eqO at e
  split at e
  · cases e; exact .inl ⟨_, _, rfl, rfl, rfl⟩
  · split at e
    · rename_i hc
      cases e
      simp only [Bool.and_eq_true] at hc
      obtain ⟨⟨⟨p1, p2⟩, d1⟩, d2⟩ := hc
      exact .inr ⟨p1, p2, Nat.le_of_ble_eq_true d1, Nat.le_of_ble_eq_true d2, rfl⟩
    · cases e
theorem o_eq (hu : X.A.units + 64 < cLine) : OpR X (compareOp .Eq) (rO2 T X.K (cmpV .Eq)) := by
  intro pins s σ H x y v u Q I rx ry h
  obtain ⟨ρ, ex, hp, a, b, w, rh, ra, rb, e, q⟩ := h
  have same := fun z (rz : Rv X.K ρ ex H w z) => q ρ H z (Kp.refl _ _) rh rz
  unfold cmpV cmpO at e
  obtain ⟨r, e0, ew⟩ := Option.map_eq_some_iff.mp e
  subst ew
  rcases eqO_out e0 with ⟨a', b', ea, eb, er⟩ | ⟨p1, p2, d1, d2, er⟩
  · have e1 := look_bl ea
    have e2 := look_bl eb
    subst e1 e2
    cases ra; cases rb
    refine op_eq pins s σ H _ _ _ _ Q I rx ry ⟨rfl, ?_⟩
    rw [dec_bl, ← er]
    exact same _ (.bl _)
  · obtain ⟨r1, l1⟩ := ra.look rh p1
    obtain ⟨r2, l2⟩ := rb.look rh p2
    refine op_eqD hu pins s σ H _ _ _ _ Q I rx ry ⟨_, _, r1, r2, shaped_of l1 d1, shaped_of l2 d2, ?_⟩
    rw [toD_eqv _ _ p1 p2, ← er]
    exact same _ (.bl _)
theorem o_ne (hu : X.A.units + 64 < cLine) : OpR X (compareOp .NotEq) (rO2 T X.K (cmpV .NotEq)) := by
  intro pins s σ H x y v u Q I rx ry h
  obtain ⟨ρ, ex, hp, a, b, w, rh, ra, rb, e, q⟩ := h
  have same := fun z (rz : Rv X.K ρ ex H w z) => q ρ H z (Kp.refl _ _) rh rz
  unfold cmpV cmpO at e
  obtain ⟨r', e1, ew⟩ := Option.map_eq_some_iff.mp e
  obtain ⟨r, e0, ew'⟩ := Option.map_eq_some_iff.mp e1
  subst ew
  subst ew'
  rcases eqO_out e0 with ⟨a', b', ea, eb, er⟩ | ⟨p1, p2, d1, d2, er⟩
  · have e1 := look_bl ea
    have e2 := look_bl eb
    subst e1 e2
    cases ra; cases rb
    refine op_ne pins s σ H _ _ _ _ Q I rx ry ⟨rfl, ?_⟩
    rw [dec_bl, ← er]
    exact same _ (.bl _)
  · obtain ⟨r1, l1⟩ := ra.look rh p1
    obtain ⟨r2, l2⟩ := rb.look rh p2
    refine op_neD hu pins s σ H _ _ _ _ Q I rx ry ⟨_, _, r1, r2, shaped_of l1 d1, shaped_of l2 d2, ?_⟩
    rw [toD_eqv _ _ p1 p2, ← er]
    exact same _ (.bl _)
/-! ### order, is -/
theorem strLt_eq : ∀ (a b : List Nat), strLt a b = decide (a < b)
  | a, [] => by cases a <;> simp [strLt]
  | [], _ :: _ => by simp [strLt]
  | a :: r, b :: s => by
    rw [strLt]
    by_cases h : a = b
    · subst h
      rw [if_pos rfl, strLt_eq r s]
      exact decide_eq_decide.mpr ⟨fun q => List.cons_lt_cons_self.mpr q, fun q => List.cons_lt_cons_self.mp q⟩
    · rw [if_neg h]
      exact decide_eq_decide.mpr (by rw [List.cons_lt_cons_iff]; exact ⟨fun q => .inl q, fun q => q.elim id fun z => absurd z.1 h⟩)

theorem o_lt : OpR X (compareOp .Lt) (rO2 T X.K (cmpV .Lt)) := by
  intro pins s σ H x y v u Q I rx ry h
  obtain ⟨ρ, ex, hp, a, b, w, rh, ra, rb, e, q⟩ := h
  have same := fun z (rz : Rv X.K ρ ex H w z) => q ρ H z (Kp.refl _ _) rh rz
  unfold cmpV cmpO at e
  simp only at e
  split at e
  · cases e; cases ra; cases rb
    exact op_lt pins s σ H _ _ _ _ Q I rx ry ⟨_, _, rfl, rfl, same _ (.bl _)⟩
  · cases e
    cases ra with
    | str r1 =>
      cases rb with
      | str r2 =>
        refine op_lt_str pins s σ H _ _ _ _ Q I rx ry ⟨_, _, rfl, rfl, ?_⟩
        rw [r1.eq, r2.eq]
        rw [strLt_eq] at same
        exact same _ (.bl _)
  · cases e
theorem o_le : OpR X (compareOp .LtE) (rO2 T X.K (cmpV .LtE)) := by
  intro pins s σ H x y v u Q I rx ry h
  obtain ⟨ρ, ex, hp, a, b, w, rh, ra, rb, e, q⟩ := h
  have same := fun z (rz : Rv X.K ρ ex H w z) => q ρ H z (Kp.refl _ _) rh rz
  unfold cmpV cmpO at e
  simp only at e
  split at e
  · cases e; cases ra; cases rb
    exact op_le pins s σ H _ _ _ _ Q I rx ry ⟨_, _, rfl, rfl, same _ (.bl _)⟩
  · cases e
    cases ra with
    | str r1 =>
      cases rb with
      | str r2 =>
        refine op_le_str pins s σ H _ _ _ _ Q I rx ry ⟨_, _, rfl, rfl, ?_⟩
        rw [r1.eq, r2.eq]
        rw [strLt_eq] at same
        first
          | exact same _ (.bl _)
          | (rw [← decide_not] at same; exact same _ (.bl _))
  · cases e
theorem o_gt : OpR X (compareOp .Gt) (rO2 T X.K (cmpV .Gt)) := by
  intro pins s σ H x y v u Q I rx ry h
  obtain ⟨ρ, ex, hp, a, b, w, rh, ra, rb, e, q⟩ := h
  have same := fun z (rz : Rv X.K ρ ex H w z) => q ρ H z (Kp.refl _ _) rh rz
  unfold cmpV cmpO at e
  simp only at e
  split at e
  · cases e; cases ra; cases rb
    exact op_gt pins s σ H _ _ _ _ Q I rx ry ⟨_, _, rfl, rfl, same _ (.bl _)⟩
  · cases e
    cases ra with
    | str r1 =>
      cases rb with
      | str r2 =>
        refine op_gt_str pins s σ H _ _ _ _ Q I rx ry ⟨_, _, rfl, rfl, ?_⟩
        rw [r1.eq, r2.eq]
        rw [strLt_eq] at same
        exact same _ (.bl _)
  · cases e
theorem o_ge : OpR X (compareOp .GtE) (rO2 T X.K (cmpV .GtE)) := by
  intro pins s σ H x y v u Q I rx ry h
  obtain ⟨ρ, ex, hp, a, b, w, rh, ra, rb, e, q⟩ := h
  have same := fun z (rz : Rv X.K ρ ex H w z) => q ρ H z (Kp.refl _ _) rh rz
  unfold cmpV cmpO at e
  simp only at e
  split at e
  · cases e; cases ra; cases rb
    exact op_ge pins s σ H _ _ _ _ Q I rx ry ⟨_, _, rfl, rfl, same _ (.bl _)⟩
  · cases e
    cases ra with
    | str r1 =>
      cases rb with
      | str r2 =>
        refine op_ge_str pins s σ H _ _ _ _ Q I rx ry ⟨_, _, rfl, rfl, ?_⟩
        rw [r1.eq, r2.eq]
        rw [strLt_eq] at same
        first
          | exact same _ (.bl _)
          | (rw [← decide_not] at same; exact same _ (.bl _))
  · cases e
theorem non_iff {u : PV} {x : V} (r : Rv K ρ ex H u x) (hn : ∀ n, u ≠ .ref n) : decide (x = .non) = decide (u = .non) := by
  cases r <;> simp
theorem ref_iff {n : Nat} {x : V} (r : Rv K ρ ex H (.ref n) x) : decide (x = .non) = decide (PV.ref n = .non) := by
  cases r; simp
theorem isN_iff {u : PV} {x : V} (r : Rv K ρ ex H u x) : decide (x = .non) = decide (u = .non) := by
  cases r <;> simp
theorem o_is : OpR X (compareOp .Is) (rO2 T X.K (cmpV .Is)) := by
  intro pins s σ H x y v u Q I rx ry h
  obtain ⟨ρ, ex, hp, a, b, w, rh, ra, rb, e, q⟩ := h
  have same := fun z (rz : Rv X.K ρ ex H w z) => q ρ H z (Kp.refl _ _) rh rz
  unfold cmpV cmpO at e
  simp only at e
  split at e
  · rename_i hb
    cases e
    subst hb
    cases rb
    refine op_isN pins s σ H _ _ _ _ Q I rx ry ⟨rfl, ?_⟩
    rw [isN_iff ra]
    exact same _ (.bl _)
  · cases e
theorem o_isnot : OpR X (compareOp .IsNot) (rO2 T X.K (cmpV .IsNot)) := by
  intro pins s σ H x y v u Q I rx ry h
  obtain ⟨ρ, ex, hp, a, b, w, rh, ra, rb, e, q⟩ := h
  have same := fun z (rz : Rv X.K ρ ex H w z) => q ρ H z (Kp.refl _ _) rh rz
  unfold cmpV cmpO at e
  simp only at e
  split at e
  · rename_i hb
    cases e
    subst hb
    cases rb
    refine op_notN pins s σ H _ _ _ _ Q I rx ry ⟨rfl, ?_⟩
    rw [isN_iff ra]
    exact same _ (.bl _)
  · cases e

/-! ### in -/
theorem toD_mem {x : PV} (px : x.plain = true) : ∀ {l : List PV}, PV.plainL l = true → ((toDs l).any fun z => PyData.eqv z (toD x)) = decide (x ∈ l)
  | [], _ => by simp [toDs]
  | a :: r, p => by
    have p' : a.plain = true ∧ PV.plainL r = true := by simpa [PV.plainL] using p
    simp only [toDs, List.any_cons, toD_eqv a x p'.1 px, toD_mem px p'.2, List.mem_cons]
    by_cases h : a = x
    · subst h; simp
    · have h' : ¬ x = a := fun e => h e.symm
      simp [h, h']
theorem flat_of {d : PV} {v : V} (p : d.plain = true) (h0 : d.dep = 0) (r : Rv K ρ ex H d v) : flatV v = true := by
  cases r <;> first | rfl | (simp [PV.plain] at p; done) | (simp [PV.dep] at h0; done)
theorem flats_of : ∀ {ds : List PV} {vs : List V}, PV.plainL ds = true → PV.depL ds = 0 → Rvs K ρ ex H ds vs → vs.all flatV = true
  | [], _, _, _, h => by cases h; rfl
  | d :: ds, _, p, h0, h => by
    cases h with
    | cons a r =>
      have p' : d.plain = true ∧ PV.plainL ds = true := by simpa [PV.plainL] using p
      simp only [PV.depL] at h0
      rw [List.all_cons, flat_of p'.1 (by omega) a, flats_of p'.2 (by omega) r]; rfl
theorem eqV_of {a b : PV} {x y : V} (pa : a.plain = true) (pb : b.plain = true) (ha : a.dep = 0) (hb : b.dep = 0) (ra : Rv K ρ ex H a x) (rb : Rv K ρ ex H b y) : eqV x y = decide (a = b) := by
  cases ra <;> cases rb <;> first
    | (simp [PV.plain] at pa; done) | (simp [PV.plain] at pb; done) | (simp [PV.dep] at ha; done) | (simp [PV.dep] at hb; done)
    | (rename_i r1 _ _ r2
       simp only [eqV, PV.str.injEq]
       rw [r1.is, r2.is]
       exact str_toArray)
    | (simp only [eqV, PV.int.injEq]; exact Bool.eq_iff_iff.mpr (by simp))
    | (simp [eqV]; done)
theorem inV_of {a : PV} {x : V} (pa : a.plain = true) (ha : a.dep = 0) (ra : Rv K ρ ex H a x) : ∀ {l : List PV} {vs : List V}, PV.plainL l = true → PV.depL l = 0 → Rvs K ρ ex H l vs → inV x vs = decide (a ∈ l)
  | [], _, _, _, h => by cases h; simp [inV]
  | d :: ds, _, p, h0, h => by
    cases h with
    | cons b r =>
      have p' : d.plain = true ∧ PV.plainL ds = true := by simpa [PV.plainL] using p
      simp only [PV.depL] at h0
      have ih := inV_of pa ha ra p'.2 (by omega) r
      unfold inV at ih ⊢
      rw [List.any_cons, eqV_of p'.1 pa (by omega) ha b ra, ih]
      by_cases h : d = a
      · subst h; simp
      · have h' : ¬ a = d := fun e => h e.symm
        simp [h, h']
theorem pre_take : ∀ (a l : List Nat), Y.pre a l = (l.take a.length == a)
  | [], l => by simp [Y.pre]
  | x :: a, [] => by simp [Y.pre]
  | x :: a, y :: l => by
    rw [Y.pre, pre_take a l]
    rw [List.length_cons, List.take_succ_cons]
    by_cases h : x = y
    · subst h; simp
    · have h' : ¬ y = x := fun e => h e.symm
      have e1 : (x == y) = false := beq_eq_false_iff_ne.mpr h
      have e2 : (y :: List.take a.length l == x :: a) = false := beq_eq_false_iff_ne.mpr fun e => h' (List.cons.inj e).1
      rw [e1, e2, Bool.false_and]
theorem within_iff (a : List Nat) : ∀ l : List Nat, within a l = true ↔ ∃ i, i + a.length ≤ l.length ∧ (l.drop i).take a.length = a
  | [] => by
    rw [within]
    constructor
    · intro h
      have : a = [] := by simpa using h
      subst this
      exact ⟨0, by simp, by simp⟩
    · rintro ⟨i, h, _⟩
      have : a = [] := List.eq_nil_of_length_eq_zero (by have h : i + a.length ≤ 0 := h; omega)
      subst this; rfl
  | y :: l => by
    rw [within, Bool.or_eq_true, pre_take, within_iff a l]
    constructor
    · rintro (h | ⟨i, h1, h2⟩)
      · have h : (y :: l).take a.length = a := by simpa using h
        refine ⟨0, ?_, by simpa using h⟩
        have := congrArg List.length h
        rw [List.length_take] at this
        have e0 : (y :: l).length = l.length + 1 := rfl
        omega
      · exact ⟨i + 1, by rw [List.length_cons]; omega, by simpa using h2⟩
    · rintro ⟨i, h1, h2⟩
      cases i with
      | zero => exact .inl (by simpa using h2)
      | succ i => exact .inr ⟨i, by rw [List.length_cons] at h1; omega, by simpa using h2⟩
theorem within_occ {a b : List Nat} {x y : Str} (ra : StrR a x) (rb : StrR b y) : (!(Builtin.Str.occurrences y x 0 y.length 1).isEmpty) = within a b := by
  refine Bool.eq_iff_iff.mpr ?_
  rw [StrLaws.found_iff, within_iff]
  have key : ∀ i, (Builtin.Str.subAt y x i = true ↔ (b.drop i).take a.length = a) := fun i => by
    rw [StrLaws.subAt_eq, ra.eq, rb.eq, ra.length]
    simp
  rw [ra.length, rb.length]
  exact ⟨fun ⟨i, h1, h2⟩ => ⟨i, h1, (key i).mp h2⟩, fun ⟨i, h1, h2⟩ => ⟨i, h1, (key i).mpr h2⟩⟩

theorem key_is {k : PV} {k' : Key} {x : V} (r : KeyR k k') (rx : Rv K ρ ex H k x) : x = kV k' := by
  cases r with
  | int i => cases rx; rfl
  | str r =>
    cases rx with
    | str q => rw [r.is, q.is]; rfl
theorem keyR_of {k : PV} {x : V} (h : keyOk k = true) (rx : Rv K ρ ex H k x) : ∃ k', KeyR k k' ∧ x = kV k' := by
  cases rx with
  | int i => exact ⟨_, .int i, rfl⟩
  | str r => exact ⟨_, .str r, rfl⟩
  | _ => cases h
theorem keyR_dec {j k : PV} {j' k' : Key} (r : KeyR j j') (q : KeyR k k') : decide (j' = k') = decide (j = k) := by
  cases r with
  | int i =>
    cases q with
    | int l => exact decide_eq_decide.mpr ⟨fun e => (by cases e; rfl), fun e => (by cases e; rfl)⟩
    | str _ => exact decide_eq_decide.mpr ⟨fun e => (by cases e), fun e => (by cases e)⟩
  | str r =>
    cases q with
    | int l => exact decide_eq_decide.mpr ⟨fun e => (by cases e), fun e => (by cases e)⟩
    | str q =>
      refine decide_eq_decide.mpr ⟨fun e => ?_, fun e => ?_⟩
      · have e := Sum.inr.inj e
        subst e
        rw [r.inj q]
      · cases e
        rw [r.is, q.is]
theorem kget_val {k : PV} {k' : Key} (r : KeyR k k') : ∀ {kvs : List (PV × PV)} {vs : List (Key × V)}, Rks K ρ ex H kvs vs → (∀ v, kget kvs k = some v → ∃ x, valV vs k' = some x ∧ Rv K ρ ex H v x) ∧ (kget kvs k = none → valV vs k' = none)
  | [], _, h => by cases h; exact ⟨fun _ e => (by cases e), fun _ => rfl⟩
  | (j, d) :: ds, _, h => by
    cases h with
    | cons rj a q =>
      rename_i j' v vs
      have ih := kget_val r q
      by_cases e : j = k
      · have e' : j' = k' := of_decide_eq_true ((keyR_dec rj r).trans (decide_eq_true e))
        have g : kget ((j, d) :: ds) k = some d := by simp [kget, List.find?_cons, e]
        have g' : valV ((j', v) :: vs) k' = some v := valV_pos e'
        exact ⟨fun w ew => (by rw [g] at ew; cases ew; exact ⟨v, g', a⟩), fun ew => (by rw [g] at ew; cases ew)⟩
      · have e' : ¬ j' = k' := of_decide_eq_false ((keyR_dec rj r).trans (decide_eq_false e))
        have g : kget ((j, d) :: ds) k = kget ds k := by simp [kget, List.find?_cons, e]
        have g' : valV ((j', v) :: vs) k' = valV vs k' := valV_neg e'
        rw [g, g']
        exact ih
theorem kget_some {k : PV} {k' : Key} (r : KeyR k k') {kvs : List (PV × PV)} {vs : List (Key × V)} (q : Rks K ρ ex H kvs vs) : (valV vs k').isSome = (kget kvs k).isSome := by
  have h := kget_val r q
  cases e : kget kvs k with
  | none => rw [h.2 e]; rfl
  | some v => obtain ⟨x, ex, _⟩ := h.1 v e; rw [ex]; rfl
theorem Rv.asDict {h : VH} {u : PV} {kvs : List (PV × PV)} {x : V} (rh : Rh T K ρ ex H h) (e : Y.asDict u h = some kvs) (rx : Rv K ρ ex H u x) : ∃ a vs, x = .ref a ∧ Rd H a (.dK vs) ∧ Rks K ρ ex H kvs vs := by
  unfold Y.asDict at e
  split at e
  · cases e
    cases rx with
    | dct a _ r => exact ⟨_, _, rfl, a, r⟩
  · split at e
    · cases e
      rename_i el
      cases rx with
      | ref er =>
        obtain ⟨a, vs, e1, e2, r⟩ := rh.ob _ _ _ el er
        cases e1
        exact ⟨_, _, rfl, .inl e2, r⟩
    · cases e
      rename_i el
      cases rx with
      | ref er =>
        obtain ⟨a, o, vs, e1, e2, r⟩ := rh.ob _ _ _ el er
        cases e1
        exact ⟨_, _, rfl, .inr ⟨o, e2⟩, r⟩
    · cases e
  · cases e
/-- what «in» tells -/
theorem inO_run {neg : Bool} (hu : X.A.units + 65 < cLine) {pins : List (Addr × Obj)} {s : Shared} {σ : L2.St} {x y : V} {v u : Value} {Q : VK} {a b : PV} {hp : VH} {r : Bool} (I : Inv X pins σ H s) (rx : RelV x v) (ry : RelV y u) (rh : Rh T X.K ρ ex H hp) (ra : Rv X.K ρ ex H a x) (rb : Rv X.K ρ ex H b y)
    (e : inO a b hp = some r) (q : Q (.bl (if neg then !r else r)) H) : wpAny (model X.prog X.w) X.A (compareOp (if neg then .NotIn else .In) v u) (EP X pins σ Q) X.xe s := by
  unfold inO at e
  split at e
  · split at e
    · cases e
      cases ra with
      | str r1 =>
        cases rb with
        | str r2 =>
          rw [← within_occ r1 r2] at q
          cases neg with
          | false => exact op_in_str pins s σ H _ _ _ _ Q I rx ry ⟨_, _, rfl, rfl, q⟩
          | true => exact op_notin_str pins s σ H _ _ _ _ Q I rx ry ⟨_, _, rfl, rfl, q⟩
    · cases e
  · split at e
    · rename_i hc
      cases e
      simp only [Bool.and_eq_true] at hc
      obtain ⟨⟨⟨p1, p2⟩, d1⟩, d2⟩ := hc
      have d1 : a.dep = 0 := by have := Nat.le_of_ble_eq_true d1; omega
      have d2 := Nat.le_zero.mp (Nat.le_of_ble_eq_true d2)
      obtain ⟨a1, vs, rfl, s1, r1⟩ := rb.tupT
      have := inV_of p1 d1 ra p2 d2 r1
      cases neg with
      | false => exact op_in_seq pins s σ H _ _ _ _ Q I rx ry ⟨_, _, rfl, .inr s1, flat_of p1 d1 ra, flats_of p2 d2 r1, by rw [this]; exact q⟩
      | true => exact op_notIn_seq pins s σ H _ _ _ _ Q I rx ry ⟨_, _, rfl, .inr s1, flat_of p1 d1 ra, flats_of p2 d2 r1, by rw [this]; exact q⟩
    · cases e
  · split at e
    · rename_i l el
      split at e
      · rename_i hc
        cases e
        simp only [Bool.and_eq_true] at hc
        obtain ⟨⟨⟨p1, p2⟩, d1⟩, d2⟩ := hc
        have d1 := Nat.le_of_ble_eq_true d1
        have d2 := Nat.le_of_ble_eq_true d2
        obtain ⟨a1, vs, rfl, s1, r1⟩ := rb.asList rh el
        have g1 := Rv.dp _ _ p1 ra
        have g2 : Dp X.K H (.ref a1) (.list (toDs l)) := .lst (.inl (.inl s1)) (Rvs.dp _ _ p2 r1)
        have t1 : SeqAt.shaped (toD a) = true := shaped_of (toD_lay _ _ p1 ra) d1
        have t2 : SeqAt.shaped (.list (toDs l)) = true := by
          have z := shaped_of (d := .lst l) (by rw [toD, PyData.canLay0]; exact toDs_lay _ _ p2 r1) (by rw [PV.dep]; omega)
          rwa [toD] at z
        have := toD_mem p1 p2
        cases neg with
        | false => exact op_inD hu pins s σ H _ _ _ _ Q I rx ry ⟨_, _, g1, g2, t1, t2, by rw [this]; exact q⟩
        | true => exact op_notInD hu pins s σ H _ _ _ _ Q I rx ry ⟨_, _, g1, g2, t1, t2, by rw [this]; exact q⟩
      · cases e
    · split at e
      · rename_i kvs ek
        split at e
        · rename_i hk
          cases e
          obtain ⟨k', rk, rfl⟩ := keyR_of hk ra
          obtain ⟨a1, vs, rfl, s1, r1⟩ := rb.asDict rh ek
          cases (show u = Value.ref a1 from ry)
          have g : DGet H a1 (kV k') (valV vs k') := .inl ⟨vs, k', s1, rfl, rfl⟩
          rw [← kget_some rk r1] at q
          cases neg with
          | false => exact d_in (by omega) I g rx fun s' I' => ⟨.bl _, H, I', rfl, q⟩
          | true => exact d_notIn (by omega) I g rx fun s' I' => ⟨.bl _, H, I', rfl, q⟩
        · cases e
      · cases e
theorem o_in (hu : X.A.units + 65 < cLine) : OpR X (compareOp .In) (rO2 T X.K (cmpV .In)) := by
  intro pins s σ H x y v u Q I rx ry h
  obtain ⟨ρ, ex, hp, a, b, w, rh, ra, rb, e, q⟩ := h
  unfold cmpV cmpO at e
  obtain ⟨r, e0, ew⟩ := Option.map_eq_some_iff.mp e
  subst ew
  exact inO_run (neg := false) hu I rx ry rh ra rb e0 (q ρ H _ (Kp.refl _ _) rh (.bl _))
theorem o_notin (hu : X.A.units + 65 < cLine) : OpR X (compareOp .NotIn) (rO2 T X.K (cmpV .NotIn)) := by
  intro pins s σ H x y v u Q I rx ry h
  obtain ⟨ρ, ex, hp, a, b, w, rh, ra, rb, e, q⟩ := h
  unfold cmpV cmpO at e
  obtain ⟨r', e1, ew⟩ := Option.map_eq_some_iff.mp e
  obtain ⟨r, e0, ew'⟩ := Option.map_eq_some_iff.mp e1
  subst ew
  subst ew'
  exact inO_run (neg := true) hu I rx ry rh ra rb e0 (q ρ H _ (Kp.refl _ _) rh (.bl _))
/-- every comparison -/
theorem o_cmp (op : CmpOp) (hu : X.A.units + 65 < cLine) : OpR X (compareOp op) (rO2 T X.K (cmpV op)) := by
  cases op with
  | Eq => exact o_eq (by omega)
  | NotEq => exact o_ne (by omega)
  | Lt => exact o_lt
  | LtE => exact o_le
  | Gt => exact o_gt
  | GtE => exact o_ge
  | Is => exact o_is
  | IsNot => exact o_isnot
  | In => exact o_in hu
  | NotIn => exact o_notin hu
end
end Y

set_option maxHeartbeats 1000000
namespace Y
open PySem PySem.Spec PyProof.Rows L2
section
variable {X : Cx} {T : Tab} {K : PySem.W.Frag} {W : WX} {ρ : Pl} {ex : List Addr} {H : Hp} {h : VH}
/-! ### items -/
theorem ix_dict (hu : X.A.units + 1 < cLine) : IxR X (fun x y H Q => ∃ a v, x = .ref a ∧ DGet H a y (some v) ∧ Q v H) := by
  intro value slice pins s σ H x y v u Q I rx ry h hs
  obtain ⟨a, z, rfl, g, q⟩ := h
  cases (show v = Value.ref a from rx)
  have hT := dict_typeIs I g
  unfold subscriptTail
  refine wpAny_bind ?_
  rw [getitemInPython_of_ne hT.not_modules]
  refine wpAny_bind (wpAny_specialOf hT PySem.F.slot_dict_getitem.lookup ?_)
  have fin : wpAny (model X.prog X.w) X.A (subscripted slice false (.ref a) u) (fun r s₃ => wpAny (model X.prog X.w) X.A (letTemporaryGo value (.ref a) r >>= fun _ => pure r) (EP X pins σ Q) X.xe s₃) X.xe s := by
    rw [hs]
    exact wpAny_operating (wpAny_mono (d_getItem hu I g ry fun w' s' I' rw' => (⟨z, H, I', rw', q⟩ : EP X pins σ Q w' s')) (fun r s₃ h₃ => wpAny_bind (wpAny_letTemporaryGo (wpAny_pure h₃))) fun _ _ x => x)
  first
    | exact wpAny_pure (wpAny_bind fin)
    | exact wpAny_bind (wpAny_pure (wpAny_bind fin))
    | exact wpAny_bind fin
theorem atI_eq {α : Type} (l : List α) (i : Int) : L2.atI l i = itO l i := rfl
theorem Rvs.it {ds : List PV} {vs : List V} {i : Int} {d : PV} (r : Rvs K ρ ex H ds vs) (e : itO ds i = some d) : ∃ v, L2.atI vs i = some v ∧ Rv K ρ ex H d v := by
  unfold itO at e
  obtain ⟨j, e1, e2⟩ := Option.bind_eq_some_iff.mp e
  obtain ⟨v, h1, h2⟩ := r.get e2
  refine ⟨v, ?_, h2⟩
  show (ixN vs.length i).bind _ = _
  rw [← r.length]
  show (Y.atI ds.length i).bind _ = _
  rw [e1]
  exact h1
theorem itO_mem {α : Type} {l : List α} {i : Int} {c : α} (e : itO l i = some c) : c ∈ l := by
  unfold itO at e
  obtain ⟨j, e1, e2⟩ := Option.bind_eq_some_iff.mp e
  exact List.mem_of_getElem? e2
theorem one_str {c : Nat} {s : List Nat} {z : Str} (r : StrR s z) (h : c ∈ s) : StrR [c] ⟨#[c]⟩ :=
  ⟨rfl, by show 1 ≤ line; decide, fun d hd => by rw [List.mem_singleton.mp hd]; exact r.ok c h⟩
theorem o_ix (hu : X.A.units + 1 < cLine) : IxR X (rO2 T X.K ixO) := by
  intro value slice pins s σ H x y v u Q I rx ry h hs
  obtain ⟨ρ, ex, hp, a, b, w, rh, ra, rb, e, q⟩ := h
  have same := fun z (rz : Rv X.K ρ ex H w z) => q ρ H z (Kp.refl _ _) rh rz
  unfold ixO at e
  split at e
  · obtain ⟨c, e1, ew⟩ := Option.map_eq_some_iff.mp e
    subst ew
    cases rb
    cases ra with
    | str r =>
      refine ix_str value slice pins s σ H _ _ _ _ Q I rx ry ⟨_, _, c, rfl, rfl, by rw [r.length, ← line_eq]; exact r.len, by rw [r.eq]; exact e1, ?_⟩ hs
      exact same _ (.str (one_str r (itO_mem e1)))
  · split at e
    · rename_i l i el ei
      cases rb
      obtain ⟨p, vs, rfl, hq, r⟩ := ra.asSeq rh el
      obtain ⟨z, e1, rz⟩ := r.it e
      rcases hq with hq | hq
      · exact ix_list value slice pins s σ H _ _ _ _ Q I rx ry ⟨_, _, _, _, rfl, rfl, hq, e1, same _ rz⟩ hs
      · exact ix_tup value slice pins s σ H _ _ _ _ Q I rx ry ⟨_, _, _, _, rfl, rfl, hq, e1, same _ rz⟩ hs
    · split at e
      · rename_i kvs ek
        split at e
        · rename_i hk
          obtain ⟨k', rk, rfl⟩ := keyR_of hk rb
          obtain ⟨p, vs, rfl, s1, r1⟩ := ra.asDict rh ek
          obtain ⟨z, ez, rz⟩ := (kget_val rk r1).1 _ e
          exact ix_dict hu value slice pins s σ H _ _ _ _ Q I rx ry ⟨p, z, rfl, .inl ⟨vs, k', s1, rfl, ez.symm⟩, same _ rz⟩ hs
        · cases e
      · cases e
/-! ### slices -/
theorem cutIx_eq (n d : Nat) (o : Option Int) : HT.sIx n d o = cutIx n d o := by cases o <;> rfl
theorem cut_eq (vs : List V) (lo hi : Option Int) : cutV vs lo hi = cut vs lo hi := by
  unfold cutV cut
  rw [cutIx_eq, cutIx_eq]
theorem Rvs.cut {ds : List PV} {vs : List V} (r : Rvs K ρ ex H ds vs) (lo hi : Option Int) : Rvs K ρ ex H (Y.cut ds lo hi) (Y.cut vs lo hi) := by
  unfold Y.cut
  rw [r.length]
  exact (r.drop _).take _
theorem StrR.cut {s : List Nat} {z : Str} (r : StrR s z) (lo hi : Option Int) : StrR (Y.cut s lo hi) (cutS z lo hi) := by
  refine ⟨?_, Nat.le_trans (cut_len _ _ _) r.len, r.ok.sub fun c h => cut_mem h⟩
  unfold cutS Y.cut
  rw [r.length, r.eq, cutIx_eq, cutIx_eq]
theorem o_sl : SlR X (rSl T X.K) := by
  intro pins s σ H x v vl vu lo hi sl Q I rx hs pl pu h
  obtain ⟨ρ, ex, hp, a, w, rh, ra, e, q⟩ := h
  have same := fun z (rz : Rv X.K ρ ex H w z) => q ρ H z (Kp.refl _ _) rh rz
  unfold slO at e
  split at e
  · cases e
    cases ra with
    | str r => exact sl_str pins s σ H _ _ _ _ _ _ _ Q I rx hs pl pu ⟨_, rfl, by rw [r.length, ← line_eq]; exact r.len, same _ (.str (r.cut lo hi))⟩
  · split at e
    · cases e
    · rename_i hc
      cases e
      obtain ⟨p, vs, rfl, s1, r⟩ := ra.tupT
      refine sl_tup pins s σ H _ _ _ _ _ _ _ Q I rx hs pl pu ⟨p, vs, rfl, s1, fun z => hc ?_, fun p hp => ?_⟩
      · rw [cutIx_eq, cutIx_eq, ← r.length] at z
        unfold Y.cut
        rw [z.1, z.2]
        simp
      · rw [cut_eq]
        exact q ρ _ _ (Kp.laid hp) (rh.laid hp) (Rv.newT rh hp (r.cut lo hi))
  · obtain ⟨l, el, ew⟩ := Option.map_eq_some_iff.mp e
    subst ew
    obtain ⟨p, vs, rfl, s1, r⟩ := ra.asList rh el
    refine sl_list pins s σ H _ _ _ _ _ _ _ Q I rx hs pl pu ⟨p, vs, rfl, .inl (.inl s1), fun p hp => ?_⟩
    rw [cut_eq]
    exact q ρ _ _ (Kp.laid hp) (rh.laid hp) (Rv.newL rh hp (r.cut lo hi))
/-! ### built-ins -/
theorem b_len : CallR X (.builtin "len") (rOA T X.K bLen) := by
  intro pins s σ H xs us Q I r h
  obtain ⟨ρ, ex, hp, vs, w, rh, rv, e, q⟩ := h
  have same := fun z (rz : Rv X.K ρ ex H w z) => q ρ H z (Kp.refl _ _) rh rz
  unfold bLen at e
  split at e
  · cases e
    cases rv with
    | cons a b =>
      cases b
      cases a with
      | str ra =>
        refine call_len_str pins s σ H _ _ Q I r ⟨_, rfl, by rw [ra.length, ← line_eq]; exact ra.len, ?_⟩
        rw [ra.length]
        exact same _ (.int _)
  · cases rv with
    | cons a b =>
      cases b
      split at e
      · rename_i l el
        cases e
        obtain ⟨p, vs', rfl, hq, r1⟩ := a.asSeq rh el
        refine call_len_seq pins s σ H _ _ Q I r ⟨_, _, rfl, hq, ?_⟩
        rw [← r1.length]
        exact same _ (.int _)
      · obtain ⟨k, ek, ew⟩ := Option.map_eq_some_iff.mp e
        subst ew
        obtain ⟨p, vs', rfl, s1, r1⟩ := a.asDict rh ek
        cases r.ref1
        refine d_len I s1 fun t s' I' => ⟨.int _, H, I', ⟨_, rfl⟩, ?_⟩
        rw [← r1.length]
        exact same _ (.int _)
  · cases e
theorem b_ord : CallR X (.builtin "ord") (rOA T X.K bOrd) := by
  intro pins s σ H xs us Q I r h
  obtain ⟨ρ, ex, hp, vs, w, rh, rv, e, q⟩ := h
  unfold bOrd at e
  split at e
  · cases e
    cases rv with
    | cons a b =>
      cases b
      cases a with
      | str ra =>
        refine call_ord pins s σ H _ _ Q I r ⟨_, rfl, by rw [ra.length]; rfl, ?_⟩
        have : ∀ (z : Str) (c : Nat), z.cps.toList = [c] → z.cps.getD 0 0 = c := fun z c e => by
          have e2 : z.cps = #[c] := by
            have := congrArg List.toArray e
            simpa using this
          rw [e2]; rfl
        rw [this _ _ ra.eq]
        exact q ρ H _ (Kp.refl _ _) rh (.int _)
  · cases e
theorem b_abs : CallR X (.builtin "abs") (rOA T X.K bAbs) := by
  intro pins s σ H xs us Q I r h
  obtain ⟨ρ, ex, hp, vs, w, rh, rv, e, q⟩ := h
  unfold bAbs at e
  split at e
  · cases e
    cases rv with
    | cons a b =>
      cases b
      cases a
      exact call_abs pins s σ H _ _ Q I r ⟨_, rfl, q ρ H _ (Kp.refl _ _) rh (.int _)⟩
  · cases e
theorem b_int : CallR X (.type "int") (rOA T X.K bInt) := by
  intro pins s σ H xs us Q I r h
  obtain ⟨ρ, ex, hp, vs, w, rh, rv, e, q⟩ := h
  unfold bInt at e
  split at e
  · cases e
    cases rv with
    | cons a b =>
      cases b
      cases a
      exact call_int1 pins s σ H _ _ Q I r (.inl ⟨_, rfl, q ρ H _ (Kp.refl _ _) rh (.int _)⟩)
  · cases e
theorem numS_eq (n : Nat) : numS n = TL.numL n := rfl
theorem numS_len {n : Nat} (h : n < 10 ^ 18) : (numS n).length ≤ 18 := TL.numL_len (by decide) h
theorem numS_ok (n : Nat) : chOk (numS n) := fun c hc => by
  have := TL.numL_digits n c hc
  omega
theorem num_str {i : Int} (h : 0 ≤ i) (h2 : i < 1000000000000000000) : StrR (numS i.toNat) (Str.ofString (toString i)) := by
  obtain ⟨n, rfl⟩ := Int.eq_ofNat_of_zero_le h
  have e : ((n : Int)).toNat = n := Int.toNat_natCast n
  rw [e]
  refine ⟨TL.tl_num n, ?_, numS_ok n⟩
  have := numS_len (n := n) (by omega)
  exact Nat.le_trans this (by decide)
theorem b_str : CallR X (.type "str") (rOA T X.K bStr) := by
  intro pins s σ H xs us Q I r h
  obtain ⟨ρ, ex, hp, vs, w, rh, rv, e, q⟩ := h
  unfold bStr at e
  split at e
  · split at e
    · rename_i hc
      cases e
      cases rv with
      | cons a b =>
        cases b
        cases a
        refine call_str_int pins s σ H _ _ Q I r ⟨_, rfl, ?_, q ρ H _ (Kp.refl _ _) rh (.str (num_str (strOk_out hc).1 (strOk_out hc).2))⟩
        rename_i i
        have hc := strOk_out hc
        have h1 : i.natAbs < 2 ^ 64 := by omega
        by_cases h0 : i.natAbs = 0
        · rw [h0]; decide
        · have := (Nat.log2_lt h0).mpr h1
          omega
    · cases e
  · cases e
theorem intsOf_vals : ∀ {l : List PV} {is : List Int} {vs : List V}, intsOf l = some is → Rvs K ρ ex H l vs → vs = is.map V.int
  | [], _, _, e, r => by cases e; cases r; rfl
  | .int i :: l, is, _, e, r => by
    obtain ⟨js, e1, e2⟩ := Option.map_eq_some_iff.mp (show (intsOf l).map (i :: ·) = some is from e)
    cases r with
    | cons a b => cases a; rw [← e2, intsOf_vals e1 b]; rfl
theorem blsOf_vals : ∀ {l : List PV} {is : List Bool} {vs : List V}, blsOf l = some is → Rvs K ρ ex H l vs → vs = is.map V.bl
  | [], _, _, e, r => by cases e; cases r; rfl
  | .bl i :: l, is, _, e, r => by
    obtain ⟨js, e1, e2⟩ := Option.map_eq_some_iff.mp (show (blsOf l).map (i :: ·) = some is from e)
    cases r with
    | cons a b => cases a; rw [← e2, blsOf_vals e1 b]; rfl
theorem strsOf_vals : ∀ {l : List PV} {is : List (List Nat)} {vs : List V}, strsOf l = some is → Rvs K ρ ex H l vs → vs = is.map (fun s => V.str ⟨s.toArray⟩) ∧ ∀ s ∈ is, s.length ≤ line ∧ chOk s
  | [], _, _, e, r => by cases e; cases r; exact ⟨rfl, fun _ h => by cases h⟩
  | .str i :: l, is, _, e, r => by
    obtain ⟨js, e1, e2⟩ := Option.map_eq_some_iff.mp (show (strsOf l).map (i :: ·) = some is from e)
    cases r with
    | cons a b =>
      cases a with
      | str ra =>
        obtain ⟨h1, h2⟩ := strsOf_vals e1 b
        subst e2
        refine ⟨by rw [h1, ra.is]; rfl, fun s hs => ?_⟩
        rcases List.mem_cons.mp hs with e | hs
        · rw [e]; exact ⟨ra.len, ra.ok⟩
        · exact h2 s hs
theorem b_sum (hc : X.calm = true) : CallR X (.builtin "sum") (rOA T X.K bSum) := by
  intro pins s σ H xs us Q I r h
  obtain ⟨ρ, ex, hp, vs, w, rh, rv, e, q⟩ := h
  unfold bSum at e
  split at e
  · cases rv with
    | cons a b =>
      cases b
      split at e
      · rename_i l el
        obtain ⟨is, ei, ew⟩ := Option.map_eq_some_iff.mp e
        subst ew
        obtain ⟨p, vs', rfl, s1, r1⟩ := a.asList rh el
        have := intsOf_vals ei r1
        subst this
        exact cr_sum hc pins s σ H _ _ Q I r ⟨_, _, rfl, .inl (.inl s1), q ρ H _ (Kp.refl _ _) rh (.int _)⟩
      · cases e
  · cases e
theorem b_any (hc : X.calm = true) : CallR X (.builtin "any") (rOA T X.K bAny) := by
  intro pins s σ H xs us Q I r h
  obtain ⟨ρ, ex, hp, vs, w, rh, rv, e, q⟩ := h
  unfold bAny at e
  split at e
  · cases rv with
    | cons a b =>
      cases b
      split at e
      · rename_i l el
        obtain ⟨is, ei, ew⟩ := Option.map_eq_some_iff.mp e
        subst ew
        obtain ⟨p, vs', rfl, s1, r1⟩ := a.asList rh el
        have := blsOf_vals ei r1
        subst this
        exact cr_any hc pins s σ H _ _ Q I r ⟨_, _, rfl, .inl (.inl s1), q ρ H _ (Kp.refl _ _) rh (.bl _)⟩
      · cases e
  · cases e
theorem b_all (hc : X.calm = true) : CallR X (.builtin "all") (rOA T X.K bAll) := by
  intro pins s σ H xs us Q I r h
  obtain ⟨ρ, ex, hp, vs, w, rh, rv, e, q⟩ := h
  unfold bAll at e
  split at e
  · cases rv with
    | cons a b =>
      cases b
      split at e
      · rename_i l el
        obtain ⟨is, ei, ew⟩ := Option.map_eq_some_iff.mp e
        subst ew
        obtain ⟨p, vs', rfl, s1, r1⟩ := a.asList rh el
        have := blsOf_vals ei r1
        subst this
        exact cr_all hc pins s σ H _ _ Q I r ⟨_, _, rfl, .inl (.inl s1), q ρ H _ (Kp.refl _ _) rh (.bl _)⟩
      · cases e
  · cases e
theorem b_tuple : CallR X (.type "tuple") (rOA T X.K bTuple) := by
  intro pins s σ H xs us Q I r h
  obtain ⟨ρ, ex, hp, vs, w, rh, rv, e, q⟩ := h
  unfold bTuple at e
  split at e
  · cases e
    cases rv with
    | cons a b =>
      cases b
      obtain ⟨p, vs', e1, s1, r1⟩ := a.tupT
      subst e1
      exact call_tuple_of pins s σ H _ _ Q I r ⟨_, _, rfl, .inr ⟨s1, q ρ H _ (Kp.refl _ _) rh a⟩⟩
  · cases rv with
    | cons a b =>
      cases b
      obtain ⟨l, el, ew⟩ := Option.map_eq_some_iff.mp e
      subst ew
      obtain ⟨p, vs', rfl, s1, r1⟩ := a.asList rh el
      exact call_tuple_of pins s σ H _ _ Q I r ⟨_, _, rfl, .inl ⟨.inl (.inl s1), fun p hp => q ρ _ _ (Kp.laid hp) (rh.laid hp) (Rv.newT rh hp r1)⟩⟩
  · cases e
theorem len_of {pins : List (Addr × Obj)} {s : Shared} {σ : L2.St} {H : Hp} {a : Addr} {vs : List V} (I : Inv X pins σ H s) (h : SqL X.K H a vs ∨ SqT X.K H a vs) : vs.length ≤ line := by
  rw [line_eq]
  rcases h with h | h
  · obtain ⟨_, _, _, z⟩ := I.list h; exact z
  · obtain ⟨_, _, _, z⟩ := I.tuple h; exact z
theorem b_list : CallR X (.type "list") (rOL T X.K bList) := by
  intro pins s σ H xs us Q I r h
  obtain ⟨ρ, ex, hp, vs, w, rh, rv, e, q⟩ := h
  unfold bList at e
  split at e
  · cases rv with
    | cons a b =>
      cases b
      obtain ⟨p, vs', rfl, s1, r1⟩ := a.asSeq rh e
      exact call_list_of pins s σ H _ _ Q I r ⟨_, _, rfl, s1, fun p hp => q ρ H _ _ _ (Kp.refl _ _) rh hp rfl (len_of I s1) r1⟩
  · cases e

/-! ### isinstance -/
theorem isi_run {t : String} {pins : List (Addr × Obj)} {s : Shared} {σ : L2.St} {x : V} {us : List Value} {Q : VK} {a w : PV} {hp : VH} (I : Inv X pins σ H s) (r : Vals [x, .ty t] us) (rh : Rh T X.K ρ ex H hp) (ra : Rv X.K ρ ex H a x) (e : isiO t a = some w)
    (q : ∀ z, Rv X.K ρ ex H w z → Q z H) : wpAny (model X.prog X.w) X.A (call (.builtin "isinstance") us) (EP X pins σ Q) X.xe s := by
  have go : ∀ {tx : String} {b : Bool}, TyX X.K H x (.type tx) → kitB tx t = some b → w = .bl b → wpAny (model X.prog X.w) X.A (call (.builtin "isinstance") us) (EP X pins σ Q) X.xe s := fun {tx b} ty kb ew => by
    subst ew
    refine call_isi pins s σ H _ _ Q I r ⟨x, .ty t, .type tx, .type t, b, rfl, ?_, ty, kit_ty kb, q _ (.bl _)⟩
    first | exact .ty t | exact .ty | constructor
  unfold isiO at e
  split at e
  · cases ra with
    | str ra =>
      split at e
      · rename_i et; subst et; cases e; exact go (.base (.str _)) (by decide +kernel) rfl
      · split at e
        · rename_i et; subst et; cases e; exact go (.base (.str _)) (by decide +kernel) rfl
        · cases e
  · cases ra with
    | tup ra _ =>
      rename_i ad vs0 _
      have ty : TyX X.K H (.ref ad) (.type "tuple") := by
        rcases ra with ⟨ra | ⟨o, ra⟩, _⟩ | ⟨o, its, n, ra, rc, _⟩
        · exact .base (.tup ra)
        · exact .fTuple ra
        · exact .kTuple ra rc
      split at e
      · rename_i et; subst et; cases e; exact go ty (by decide +kernel) rfl
      · split at e
        · rename_i et; subst et; cases e; exact go ty (by decide +kernel) rfl
        · cases e
  · cases ra
    split at e
    · rename_i et; subst et; cases e; exact go (.base (.int _)) (by decide +kernel) rfl
    · split at e
      · rename_i et; subst et; cases e; exact go (.base (.int _)) (by decide +kernel) rfl
      · cases e
  · cases e
def rIsi1 (T : Tab) (K : PySem.W.Frag) (t : String) : List V → Hp → VK → Prop := fun xs H Q => ∃ ρ ex h x u w, xs = [x, .ty t] ∧ Rh T K ρ ex H h ∧ Rv K ρ ex H u x ∧ isiO t u = some w ∧ ∀ z, Rv K ρ ex H w z → Q z H
theorem b_isi (t : String) : CallR X (.builtin "isinstance") (rIsi1 T X.K t) := by
  intro pins s σ H xs us Q I r h
  obtain ⟨ρ, ex, hp, x, u, w, rfl, rh, ru, e, q⟩ := h
  exact isi_run I r rh ru e q
theorem e_isi {t : String} {tn : Str} {p p2 pos : Pos} {e : Expr} {m : EM} (hg : Gl X "isinstance") (hm : X.mg "isinstance" = none) (hgt : Gl X tn) (hmt : X.mg tn = none) (hvt : bootBuiltins tn = some (.type t)) (hn : tn ≠ "__name__") (hd : (tn == ("__debug__" : Str)) = false) (he : PE X e (rdE T X.K W m))
    (hs : starEach [e, .Name tn p2] X.env = (false, eval e X.env) :: starEach [.Name tn p2] X.env) :
    PE X (.Call (.Name "isinstance" p) [e, .Name tn p2] [] pos) (rdE T X.K W (mIsi t m)) :=
  imE (pe_callB (b_isi (T := T) t) hg hm (by decide +kernel) (pa_cons he (pa_cons (pe_bltn (v := .ty t) hgt hmt hvt rfl hn hd) pa_nil (by rfl)) hs) (by decide) (by decide +kernel) hs (by rfl)) fun σ H Q h => by
    obtain ⟨ρ, ex, sl, hp, rs, rh, q⟩ := h
    refine ⟨ρ, ex, sl, hp, rs, rh, q.bnd.imp fun u h1 ρ1 H1 k1 rh1 q1 x rx => ?_⟩
    obtain ⟨w, e, q3⟩ := q1.retO
    exact ⟨ρ1, ex, h1, x, u, w, rfl, rh1, rx, e, fun z rz => q3 ρ1 H1 (Kp.refl _ _) rh1 z rz⟩
end
end Y

set_option maxHeartbeats 1000000
namespace Y
open PySem PySem.Spec PyProof.Rows L2
section
variable {X : Cx} {T : Tab} {K : PySem.W.Frag} {W : WX} {ρ : Pl} {ex : List Addr} {H : Hp} {h : VH}
/-! ### an object that stands in a place is changed -/
/-- not locked -/
def NF (H : Hp) (a : Addr) : Prop := ∀ o u, H a ≠ some (.frz o u)
theorem nf_of {a : Addr} {x : HO} (e : H a = some x) (h : ∀ o u, x ≠ .frz o u) : NF H a := fun o u z => by rw [e] at z; exact h o u (Option.some.inj z)
theorem Kp.write {n : Nat} {a : Addr} {o : HO} (e : ρ[n]? = some (some a)) (nf : NF H a) : Kp ρ H ρ (upd H a o) where
  up := fun _ _ z => z
  keep := fun b u eb nb => by
    have z : b ≠ a := fun z => nb ⟨n, by rw [z]; exact e⟩
    rw [upd_ne z]
    exact eb
  new := fun _ z => .inl z
  fz := fun b o' u eb => by rw [upd_ne (fun z => nf o' u (by rw [← z]; exact eb))]; exact eb
theorem Rh.write {n : Nat} {a : Addr} {o : HO} {ob : VO} (r : Rh T K ρ ex H h) (e : ρ[n]? = some (some a)) (nf : NF H a) (ro : Ro T K ρ ex (upd H a o) ob (some a)) : Rh T K ρ ex (upd H a o) (vset h n ob) := by
  have k : Kp ρ H ρ (upd H a o) := Kp.write e nf
  refine ⟨by unfold vset; rw [List.length_set]; exact r.len, r.inj, fun b hb => ⟨?_, (r.exs b hb).2⟩, fun m u p e1 e2 => ?_⟩
  · have nb : b ≠ a := fun z => (r.exs b hb).2 ⟨n, by rw [z]; exact e⟩
    rw [upd_ne nb]
    exact (r.exs b hb).1
  · unfold vset at e1
    by_cases hm : n = m
    · subst hm
      have hn : n < h.length := by rw [← r.len]; exact (List.getElem?_eq_some_iff.mp e).1
      rw [List.getElem?_set_self hn] at e1
      rw [e] at e2
      cases e1
      cases e2
      exact ro
    · rw [List.getElem?_set_ne hm] at e1
      refine (r.ob m u p e1 e2).mono k noex fun b eb => ?_
      subst eb
      exact upd_ne fun z => hm (r.inj n m a e (by rw [← z]; exact e2))
theorem nfL {a : Addr} {l : List V} (e : H a = some (.lst l)) : NF H a := nf_of e fun _ _ z => by cases z
theorem nfD {a : Addr} {l : List (Key × V)} (e : H a = some (.dK l)) : NF H a := nf_of e fun _ _ z => by cases z
theorem nfI {a C dx : Addr} {l : List (Str × V)} (e : H a = some (.ins C dx l)) : NF H a := nf_of e fun _ _ z => by cases z
theorem Rh.lstAt {n : Nat} {l : List PV} {a : Addr} (rh : Rh T K ρ ex H h) (e : h[n]? = some (.lst l)) (er : ρ[n]? = some (some a)) : ∃ vs, H a = some (.lst vs) ∧ Rvs K ρ ex H l vs := by
  obtain ⟨b, vs, e1, e2, r⟩ := rh.ob _ _ _ e er
  cases e1
  exact ⟨vs, e2, r⟩
theorem Rh.dctAt {n : Nat} {l : List (PV × PV)} {a : Addr} (rh : Rh T K ρ ex H h) (e : h[n]? = some (.dct l)) (er : ρ[n]? = some (some a)) : ∃ vs, H a = some (.dK vs) ∧ Rks K ρ ex H l vs := by
  obtain ⟨b, vs, e1, e2, r⟩ := rh.ob _ _ _ e er
  cases e1
  exact ⟨vs, e2, r⟩
theorem Rh.wlst {n : Nat} {l : List PV} {vs : List V} {a : Addr} (rh : Rh T K ρ ex H h) (er : ρ[n]? = some (some a)) (nf : NF H a) (r : Rvs K ρ ex H l vs) : Rh T K ρ ex (upd H a (.lst vs)) (vset h n (.lst l)) :=
  rh.write er nf ⟨a, vs, rfl, upd_same, Rvs.mono (Kp.write er nf) noex _ _ r⟩
theorem Rh.wdct {n : Nat} {l : List (PV × PV)} {vs : List (Key × V)} {a : Addr} (rh : Rh T K ρ ex H h) (er : ρ[n]? = some (some a)) (nf : NF H a) (r : Rks K ρ ex H l vs) : Rh T K ρ ex (upd H a (.dK vs)) (vset h n (.dct l)) :=
  rh.write er nf ⟨a, vs, rfl, upd_same, Rks.mono (Kp.write er nf) noex _ _ r⟩
/-- the same dict, written again, is the same heap -/
theorem upd_id {H : Hp} {a : Addr} {o : HO} (e : H a = some o) : upd H a o = H := by
  funext b
  unfold upd
  split
  · rename_i z; rw [z, e]
  · rfl
/-! ### dicts -/
theorem Rks.put {k d : PV} {k' : Key} {v : V} (rk : KeyR k k') (rv : Rv K ρ ex H d v) {kvs : List (PV × PV)} {vs : List (Key × V)} (r : Rks K ρ ex H kvs vs) : Rks K ρ ex H (kput kvs k d) (putK vs k' v) := by
  have hany : (vs.any fun kv => decide (kv.1 = k')) = (kget kvs k).isSome := by rw [valV_any, kget_some rk r]
  have repl : ∀ {kvs : List (PV × PV)} {vs : List (Key × V)}, Rks K ρ ex H kvs vs → Rks K ρ ex H (kvs.map fun p => if p.1 = k then (p.1, d) else p) (vs.map fun kv => if kv.1 = k' then (kv.1, v) else kv) := by
    intro kvs
    induction kvs with
    | nil => intro vs r; cases r; exact .nil
    | cons p ps ih =>
      intro vs r
      obtain ⟨j, e⟩ := p
      cases r with
      | cons rj a q =>
        rename_i j' w ws
        have hd := keyR_dec rj rk
        simp only [List.map_cons]
        by_cases z : j = k
        · have z' : j' = k' := of_decide_eq_true (hd.trans (decide_eq_true z))
          rw [if_pos z, if_pos z']
          exact .cons rj rv (ih q)
        · have z' : ¬ j' = k' := of_decide_eq_false (hd.trans (decide_eq_false z))
          rw [if_neg z, if_neg z']
          exact .cons rj a (ih q)
  have app : ∀ {kvs : List (PV × PV)} {vs : List (Key × V)}, Rks K ρ ex H kvs vs → Rks K ρ ex H (kvs ++ [(k, d)]) (vs ++ [(k', v)]) := by
    intro kvs
    induction kvs with
    | nil => intro vs r; cases r; exact .cons rk rv .nil
    | cons p ps ih =>
      intro vs r
      cases r with
      | cons rj a q => exact .cons rj a (ih q)
  unfold kput putK
  rw [hany]
  split
  · exact repl r
  · exact app r
theorem Rks.drop {k : PV} {k' : Key} (rk : KeyR k k') : ∀ {kvs : List (PV × PV)} {vs : List (Key × V)}, Rks K ρ ex H kvs vs → Rks K ρ ex H (kdrop kvs k) (dropK vs k')
  | [], _, r => by cases r; exact .nil
  | (j, e) :: ps, _, r => by
    cases r with
    | cons rj a q =>
      rename_i j' w ws
      have hd := keyR_dec rj rk
      have ih := Rks.drop rk q
      unfold kdrop dropK at ih ⊢
      simp only [List.filter_cons]
      by_cases z : j = k
      · have z' : j' = k' := of_decide_eq_true (hd.trans (decide_eq_true z))
        simp only [z, z', ne_eq, not_true, decide_false, Bool.false_eq_true, if_false]
        exact ih
      · have z' : ¬ j' = k' := of_decide_eq_false (hd.trans (decide_eq_false z))
        simp only [z, z', ne_eq, not_false_eq_true, decide_true, if_true]
        exact .cons rj a ih
/-! ### methods of built-ins -/
def rMt (T : Tab) (K : PySem.W.Frag) (B : Bm) (k : String) : V → List V → Hp → VK → Prop := fun x xs H Q => ∃ ρ ex h u us w h', Rh T K ρ ex H h ∧ Rv K ρ ex H u x ∧ Rvs K ρ ex H us xs ∧ kind u h = k ∧ B u us h = some (w, h') ∧
  ∀ ρ' H' z, Kp ρ H ρ' H' → Rh T K ρ' ex H' h' → Rv K ρ' ex H' w z → Q z H'
theorem m_append : MtR X "list.append" (rMt T X.K bAppend "list") := by
  intro pins s σ H x xs v us Q I rx rs h
  obtain ⟨ρ, ex, hp, u, vs, w, h', rh, ru, rv, ek, e, q⟩ := h
  unfold bAppend at e
  split at e
  · split at e
    · rename_i n d _ l el
      split at e
      · rename_i hl
        cases e
        cases ru with
        | ref er =>
          rename_i a
          obtain ⟨ls, ea, rl⟩ := rh.lstAt el er
          cases rv with
          | cons r1 r2 =>
            cases r2
            rename_i y
            refine mt_append pins s σ H _ _ v us Q I rx rs ⟨a, ls, y, rfl, rfl, ea, ?_, ?_⟩
            · rw [← rl.length, ← line_eq]
              exact Nat.blt_eq.mp hl
            · exact q ρ _ _ (Kp.write er (nfL ea)) (rh.wlst er (nfL ea) (rl.snoc r1)) .non
      · cases e
    · cases e
  · cases e
theorem kget_opt {k : PV} {k' : Key} {d : PV} {y : V} (rk : KeyR k k') {kvs : List (PV × PV)} {vs : List (Key × V)} (r : Rks K ρ ex H kvs vs) (rd : Rv K ρ ex H d y) : Rv K ρ ex H ((kget kvs k).getD d) ((valV vs k').getD y) := by
  have h := kget_val rk r
  cases e : kget kvs k with
  | none => rw [h.2 e]; exact rd
  | some v => obtain ⟨z, ez, rz⟩ := h.1 v e; rw [ez]; exact rz
theorem m_get (hu : X.A.units + 1 < cLine) : MtR X "dict.get" (rMt T X.K bGet "dict") := by
  intro pins s σ H x xs v us Q I rx rs h
  obtain ⟨ρ, ex, hp, u, vs, w, h', rh, ru, rv, ek, e, q⟩ := h
  unfold bGet at e
  split at e
  · rename_i n
    split at e
    · rename_i kvs el
      cases ru with
      | ref er =>
        rename_i a
        obtain ⟨ks, ea, rk⟩ := rh.dctAt el er
        cases (show v = Value.ref a from rx)
        split at e
        · split at e
          · rename_i k hk
            cases e
            cases rv with
            | cons r1 r2 =>
              cases r2
              obtain ⟨k', rk', rfl⟩ := keyR_of hk r1
              obtain ⟨u1, rfl, ry⟩ := vals1 rs
              exact d_get1 hu I (DGet.k ea) ry fun w' s' I' rw' => ⟨_, H, I', rw', q ρ H _ (Kp.refl _ _) rh (kget_opt rk' rk .non)⟩
          · cases e
        · split at e
          · rename_i k d hk
            cases e
            cases rv with
            | cons r1 r2 =>
              cases r2 with
              | cons r2 r3 =>
                cases r3
                obtain ⟨k', rk', rfl⟩ := keyR_of hk r1
                obtain ⟨u1, u2, rfl, ry, rd⟩ := vals2 rs
                exact d_get2 hu I (DGet.k ea) ry rd fun w' s' I' rw' => ⟨_, H, I', rw', q ρ H _ (Kp.refl _ _) rh (kget_opt rk' rk r2)⟩
          · cases e
        · cases e
    · cases e
  · cases e
theorem m_setdefault : MtR X "dict.setdefault" (rMt T X.K bSetdefault "dict") := by
  intro pins s σ H x xs v us Q I rx rs h
  obtain ⟨ρ, ex, hp, u, vs, w, h', rh, ru, rv, ek, e, q⟩ := h
  unfold bSetdefault at e
  split at e
  · split at e
    · rename_i n k d _ kvs el
      split at e
      · rename_i hc
        have hc := Bool.and_eq_true_iff.mp hc
        cases ru with
        | ref er =>
          rename_i a
          obtain ⟨ks, ea, rk⟩ := rh.dctAt el er
          cases (show v = Value.ref a from rx)
          cases rv with
          | cons r1 r2 =>
            cases r2 with
            | cons r2 r3 =>
              cases r3
              obtain ⟨k', rk', rfl⟩ := keyR_of hc.1 r1
              obtain ⟨u1, u2, rfl, ry, rd⟩ := vals2 rs
              have hl : ks.length < sizeLine := by rw [← rk.length, ← line_eq]; exact Nat.blt_eq.mp hc.2
              have hv := kget_val rk' rk
              refine d_setd I ea ry rd hl (fun z hz w' s' I' rw' => ?_) fun hz w' s' I' rw' => ?_
              · cases ek : kget kvs k with
                | none => rw [hv.2 ek] at hz; cases hz
                | some y =>
                  rw [ek] at e
                  cases e
                  obtain ⟨z', ez, rz⟩ := hv.1 _ ek
                  rw [hz] at ez
                  cases ez
                  exact ⟨_, H, I', rw', q ρ H _ (Kp.refl _ _) rh rz⟩
              · cases ek : kget kvs k with
                | some y =>
                  obtain ⟨z', ez, rz⟩ := hv.1 _ ek
                  rw [hz] at ez
                  cases ez
                | none =>
                  rw [ek] at e
                  cases e
                  exact ⟨_, _, I', rw', q ρ _ _ (Kp.write er (nfD ea)) (rh.wdct er (nfD ea) (Rks.put rk' r2 rk)) (r2.mono (Kp.write er (nfD ea)) noex)⟩
      · cases e
    · cases e
  · cases e
theorem joinT_eq : ∀ (sep : List Nat) (ts : List (List Nat)), joinT sep ts = TL.joinL sep ts
  | _, [] => rfl
  | _, [_] => rfl
  | s, p :: q :: r => by
    show p ++ (s ++ joinT s (q :: r)) = p ++ (s ++ TL.joinL s (q :: r))
    rw [joinT_eq s (q :: r)]
theorem joinT_len : ∀ (sep : List Nat) (ts : List (List Nat)), (joinT sep ts).length ≤ (ts.map (·.length)).sum + ts.length * sep.length
  | _, [] => Nat.zero_le _
  | _, [p] => by simp [joinT]
  | s, p :: q :: r => by
    have ih := joinT_len s (q :: r)
    show (p ++ (s ++ joinT s (q :: r))).length ≤ _
    rw [List.length_append, List.length_append, List.map_cons, List.sum_cons, List.length_cons, Nat.add_mul]
    omega
theorem joinT_ok : ∀ {sep : List Nat} {ts : List (List Nat)}, chOk sep → (∀ t ∈ ts, chOk t) → chOk (joinT sep ts)
  | _, [], _, _ => fun _ h => by cases h
  | _, [p], _, h => h p List.mem_cons_self
  | s, p :: q :: r, hs, h => (h p List.mem_cons_self).append (hs.append (joinT_ok hs fun t ht => h t (List.mem_cons_of_mem _ ht)))
theorem m_join : MtR X "str.join" (rMt T X.K bJoin "str") := by
  intro pins s σ H x xs v us Q I rx rs h
  obtain ⟨ρ, ex, hp, u, vs, w, h', rh, ru, rv, ek, e, q⟩ := h
  unfold bJoin at e
  split at e
  · split at e
    · rename_i ps ep
      split at e
      · rename_i ts et
        split at e
        · rename_i hl
          cases e
          cases ru with
          | str r0 =>
            cases rv with
            | cons r1 r2 =>
              cases r2
              obtain ⟨p, zs, rfl, s1, r1⟩ := r1.asSeq rh ep
              obtain ⟨e1, ok⟩ := strsOf_vals et r1
              have em : zs = (ts.map fun s => (⟨s.toArray⟩ : Str)).map V.str := by rw [e1, List.map_map]; rfl
              rw [em] at s1
              refine mt_join pins s σ H _ _ v us Q I rx rs ⟨_, p, ts.map fun s => (⟨s.toArray⟩ : Str), rfl, rfl, s1, ?_, ?_⟩
              · rw [List.map_map, List.length_map, r0.length]
                have : (ts.map ((fun x : Str => x.length) ∘ fun s => (⟨s.toArray⟩ : Str))) = ts.map (·.length) := by
                  apply List.map_congr_left
                  intro t _
                  show t.toArray.size = t.length
                  simp
                rw [this]
                exact hl
              · refine q ρ H _ (Kp.refl _ _) rh (.str ⟨?_, Nat.le_trans (joinT_len _ _) hl, joinT_ok r0.ok fun t ht => (ok t ht).2⟩)
                rw [TL.join_eq]
                have := TL.tl_join ‹Str› (ts.map fun s => (⟨s.toArray⟩ : Str))
                rw [joinT_eq, ← r0.eq]
                refine Eq.trans this ?_
                rw [List.map_map]
                congr 1
                have : (TL.tl ∘ fun s : List Nat => (⟨s.toArray⟩ : Str)) = id := by funext t; rfl
                rw [this, List.map_id]
        · cases e
      · cases e
    · cases e
  · cases e
end
end Y

set_option maxHeartbeats 1000000
namespace Y
open PySem PySem.Spec PyProof.Rows L2
section
variable {X : Cx} {T : Tab} {K : PySem.W.Frag} {W : WX} {ρ : Pl} {ex : List Addr} {H : Hp} {h : VH}
theorem seqIx {n : Nat} {i : Int} {j : Nat} (e : Y.atI n i = some j) : seqIndex? i n = some j ∧ j < n ∧ -(n : Int) ≤ i ∧ i < n := ixN_seq e
theorem Rvs.erase : ∀ {ds : List PV} {vs : List V} (i : Nat), Rvs K ρ ex H ds vs → Rvs K ρ ex H (ds.eraseIdx i) (vs.eraseIdx i)
  | [], _, _, r => by cases r; exact .nil
  | _ :: _, _, 0, r => by cases r with | cons a q => exact q
  | _ :: _, _, i + 1, r => by cases r with | cons a q => exact .cons a (q.erase i)
theorem Rvs.dropLast : ∀ {ds : List PV} {vs : List V}, Rvs K ρ ex H ds vs → Rvs K ρ ex H ds.dropLast vs.dropLast
  | [], _, r => by cases r; exact .nil
  | [_], _, r => by cases r with | cons a q => cases q; exact .nil
  | _ :: _ :: _, _, r => by
    cases r with
    | cons a q =>
      cases q with
      | cons b t => exact .cons a (Rvs.dropLast (.cons b t))
theorem m_popL : MtR X "list.pop" (rMt T X.K bPop "list") := by
  intro pins s σ H x xs v us Q I rx rs h
  obtain ⟨ρ, ex, hp, u, vs, w, h', rh, ru, rv, ek, e, q⟩ := h
  unfold bPop at e
  split at e
  · rename_i n
    split at e
    · rename_i l el
      obtain ⟨⟨y, l'⟩, e1, e2⟩ := Option.map_eq_some_iff.mp e
      cases e2
      cases ru with
      | ref er =>
        rename_i a
        obtain ⟨ls, ea, rl⟩ := rh.lstAt el er
        unfold bPopL at e1
        split at e1
        · split at e1
          · rename_i y ey
            cases e1
            cases rv
            obtain ⟨z, ez, rz⟩ := rl.get ey
            refine mt_pop pins s σ H _ _ v us Q I rx rs ⟨a, ls, z, rfl, rfl, ea, by rw [← rl.length]; exact ez, ?_⟩
            exact q ρ _ _ (Kp.write er (nfL ea)) (rh.wlst er (nfL ea) rl.dropLast) (rz.mono (Kp.write er (nfL ea)) noex)
          · cases e1
        · split at e1
          · rename_i i j ej
            split at e1
            · rename_i y ey
              cases e1
              cases rv with
              | cons r1 r2 =>
                cases r2
                cases r1
                obtain ⟨z, ez, rz⟩ := rl.get ey
                obtain ⟨q1, q2, q3, q4⟩ := seqIx ej
                have hz : ls.length ≤ sizeLine := by
                  obtain ⟨_, _, _, hz⟩ := I.list (.inl (.inl ea)); exact hz
                have h63 := line63
                refine mt_popAt pins s σ H _ _ v us Q I rx rs ⟨a, ls, _, j, z, rfl, rfl, ea, ?_, ?_, by rw [← rl.length]; exact q1, ez, ?_⟩
                · rw [rl.length] at q3; omega
                · rw [rl.length] at q4; omega
                · exact q ρ _ _ (Kp.write er (nfL ea)) (rh.wlst er (nfL ea) (rl.erase j)) (rz.mono (Kp.write er (nfL ea)) noex)
            · cases e1
          · cases e1
        · cases e1
    · rename_i kvs el
      exfalso
      unfold kind at ek
      simp only at ek
      rw [el] at ek
      simp at ek
    · cases e
  · cases e
theorem m_popD : MtR X "dict.pop" (rMt T X.K bPop "dict") := by
  intro pins s σ H x xs v us Q I rx rs h
  obtain ⟨ρ, ex, hp, u, vs, w, h', rh, ru, rv, ek, e, q⟩ := h
  unfold bPop at e
  split at e
  · rename_i n
    split at e
    · rename_i l el
      exfalso
      unfold kind at ek
      simp only at ek
      rw [el] at ek
      simp at ek
    · rename_i kvs el
      obtain ⟨⟨y, l'⟩, e1, e2⟩ := Option.map_eq_some_iff.mp e
      cases e2
      cases ru with
      | ref er =>
        rename_i a
        obtain ⟨ks, ea, rk⟩ := rh.dctAt el er
        cases (show v = Value.ref a from rx)
        unfold bPopD at e1
        split at e1
        · split at e1
          · rename_i k hk
            split at e1
            · rename_i z ez
              cases e1
              cases rv with
              | cons r1 r2 =>
                cases r2
                obtain ⟨k', rk', rfl⟩ := keyR_of hk r1
                obtain ⟨u1, rfl, ry⟩ := vals1 rs
                obtain ⟨x', ex', rx'⟩ := (kget_val rk' rk).1 _ ez
                exact d_pop I ea ry ex' (.inl rfl) fun w' s' I' rw' => ⟨_, _, I', rw', q ρ _ _ (Kp.write er (nfD ea)) (rh.wdct er (nfD ea) (Rks.drop rk' rk)) (rx'.mono (Kp.write er (nfD ea)) noex)⟩
            · cases e1
          · cases e1
        · split at e1
          · rename_i k d hk
            cases rv with
            | cons r1 r2 =>
              cases r2 with
              | cons r2 r3 =>
                cases r3
                obtain ⟨k', rk', rfl⟩ := keyR_of hk r1
                obtain ⟨u1, u2, rfl, ry, rd⟩ := vals2 rs
                have hv := kget_val rk' rk
                split at e1
                · rename_i z ez
                  cases e1
                  obtain ⟨x', ex', rx'⟩ := hv.1 _ ez
                  exact d_pop I ea ry ex' (.inr ⟨u2, rfl⟩) fun w' s' I' rw' => ⟨_, _, I', rw', q ρ _ _ (Kp.write er (nfD ea)) (rh.wdct er (nfD ea) (Rks.drop rk' rk)) (rx'.mono (Kp.write er (nfD ea)) noex)⟩
                · rename_i ez
                  cases e1
                  refine d_popD I ea ry (hv.2 ez) fun s' I' => ⟨_, H, I', rd, ?_⟩
                  have e3 : vset hp n (.dct kvs) = hp := by
                    unfold vset
                    have hn := (List.getElem?_eq_some_iff.mp el).1
                    have he := (List.getElem?_eq_some_iff.mp el).2
                    rw [← he]
                    exact List.set_getElem_self hn
                  rw [e3] at q
                  exact q ρ H _ (Kp.refl _ _) rh r2
          · cases e1
        · cases e1
    · cases e
  · cases e
/-! ### fields -/
theorem Rfs.look {fs : List (Nat × PV)} {gs : List (Str × V)} {f : Nat} {x : Str} (nd : T.fnm.Nodup) (hf : T.fnm[f]? = some x) (r : Rfs T K ρ ex H fs gs) : (∀ v, fget fs f = some v → ∃ w, gs.lookup x = some w ∧ Rv K ρ ex H v w) ∧ (fget fs f = none → gs.lookup x = none) := by
  induction r with
  | nil => exact ⟨fun _ e => (by cases e), fun _ => rfl⟩
  | cons e1 r1 q ih =>
    rename_i g y d w ds ws
    unfold fget at ih ⊢
    by_cases z : f = g
    · subst z
      have e2 : y = x := by rw [e1] at hf; exact Option.some.inj hf
      subst e2
      rw [List.lookup_cons_self, List.lookup_cons_self]
      exact ⟨fun v ev => (by cases ev; exact ⟨w, rfl, r1⟩), fun ev => (by cases ev)⟩
    · have z2 : ¬ x = y := fun e => z (by
        subst e
        exact nodup_ix nd hf e1)
      have b1 : (f == g) = false := beq_eq_false_iff_ne.mpr z
      have b2 : (x == y) = false := beq_eq_false_iff_ne.mpr z2
      rw [List.lookup_cons, List.lookup_cons, b1, b2]
      exact ih
theorem Rfs.none {fs : List (Nat × PV)} {gs : List (Str × V)} {m : Str} (hm : ∀ p ∈ fs, T.fnm[p.1]? ≠ some m) (r : Rfs T K ρ ex H fs gs) : gs.lookup m = none := by
  induction r with
  | nil => rfl
  | cons e1 r1 q ih =>
    rename_i g y d w ds ws
    have h1 : ¬ m = y := fun e => hm (g, d) List.mem_cons_self (by rw [e]; exact e1)
    rw [List.lookup_cons, beq_eq_false_iff_ne.mpr h1]
    exact ih fun p hp => hm p (List.mem_cons_of_mem _ hp)
theorem Rfs.put {fs : List (Nat × PV)} {gs : List (Str × V)} {f : Nat} {x : Str} {v : PV} {w : V} (nd : T.fnm.Nodup) (hf : T.fnm[f]? = some x) (rv : Rv K ρ ex H v w) (r : Rfs T K ρ ex H fs gs) : Rfs T K ρ ex H (fput f v fs) (putF x w gs) := by
  induction r with
  | nil => exact .cons hf rv .nil
  | cons e1 r1 q ih =>
    rename_i g y d w' ds ws
    by_cases z : g = f
    · subst z
      have e2 : y = x := by rw [e1] at hf; exact Option.some.inj hf
      subst e2
      show Rfs T K ρ ex H (if g = g then (g, v) :: ds else _) (if y = y then (y, w) :: ws else _)
      rw [if_pos rfl, if_pos rfl]
      exact .cons hf rv q
    · have z2 : ¬ y = x := fun e => z (by
        subst e
        exact nodup_ix nd e1 hf)
      show Rfs T K ρ ex H (if g = f then _ else (g, d) :: fput f v ds) (if y = x then _ else (y, w') :: putF x w ws)
      rw [if_neg z, if_neg z2]
      exact .cons e1 r1 ih
theorem fput_ok {c : Nat} {f : Nat} {v : PV} (hf : T.ok c f = true) : ∀ {fs : List (Nat × PV)}, (∀ p ∈ fs, T.ok c p.1 = true) → ∀ p ∈ fput f v fs, T.ok c p.1 = true
  | [], _, p, hp => by
    have e : p = (f, v) := by simpa [fput] using hp
    rw [e]; exact hf
  | (g, u) :: r, h, p, hp => by
    unfold fput at hp
    split at hp
    · rcases List.mem_cons.mp hp with e | hp
      · rw [e]; exact h (g, u) List.mem_cons_self
      · exact h p (List.mem_cons_of_mem _ hp)
    · rcases List.mem_cons.mp hp with e | hp
      · rw [e]; exact h (g, u) List.mem_cons_self
      · exact fput_ok hf (fun q hq => h q (List.mem_cons_of_mem _ hq)) p hp
theorem Rh.insAt {n c : Nat} {fs : List (Nat × PV)} {a : Addr} (rh : Rh T K ρ ex H h) (e : h[n]? = some (.ins c fs)) (er : ρ[n]? = some (some a)) : ∃ C dx gs, H a = some (.ins C dx gs) ∧ T.cls[c]? = some C ∧ (∀ p ∈ fs, T.ok c p.1 = true) ∧ Rfs T K ρ ex H fs gs := by
  obtain ⟨b, C, dx, gs, e1, e2, e3, e4, r⟩ := rh.ob _ _ _ e er
  cases e1
  exact ⟨C, dx, gs, e2, e3, e4, r⟩
theorem atO_out {ok : Nat → Nat → Bool} {f : Nat} {u v : PV} (e : atO ok f u h = some v) : ∃ n c fs, u = .ref n ∧ h[n]? = some (.ins c fs) ∧ ok c f = true ∧ fget fs f = some v := by
  unfold atO at e
  split at e
  · split at e
    · split at e
      · rename_i el hk
        exact ⟨_, _, _, rfl, el, hk, e⟩
      · cases e
    · cases e
  · cases e
theorem e_at {e : Expr} {x : Str} {f : Nat} {pos : Pos} {m : EM} (tok : T.Ok X.K) (hf : T.fnm[f]? = some x) (he : PE X e (rdE T X.K W m)) (hb : attributeBase e x X.env (eval e X.env) = eval e X.env) : PE X (.Attribute e x pos) (rdE T X.K W (mOp1 (atO T.ok f) m)) :=
  imE (pe_fld he hb) fun σ H Q h => by
    obtain ⟨ρ, ex, sl, hp, rs, rh, q⟩ := h
    refine ⟨ρ, ex, sl, hp, rs, rh, q.bnd.imp fun u h1 ρ1 H1 k1 rh1 q1 y ry => ?_⟩
    obtain ⟨v, ev, q3⟩ := q1.retO
    obtain ⟨n, c, fs, rfl, el, hk, eg⟩ := atO_out ev
    cases ry with
    | ref er =>
      rename_i a
      obtain ⟨C, dx, gs, ea, ec, eo, rf⟩ := rh1.insAt el er
      obtain ⟨w, ew, rw'⟩ := (rf.look tok.nd hf).1 _ eg
      exact ⟨a, C, dx, gs, w, rfl, ea, tok.cl c C ec, tok.no c C f x ec hk hf, ew, q3 ρ1 H1 (Kp.refl _ _) rh1 w rw'⟩
/-! ### own methods, new instances -/
def tMethS (C : Addr) (m : Str) (sp : Sp) (E : L2.St → XK) (ta : TE) (t : TA) : TE := fun σ H Q => ta σ H fun x H1 => ∃ a dx fs, x = .ref a ∧ H1 a = some (.ins C dx fs) ∧ fs.lookup m = none ∧ t σ H1 fun vs H2 => sp (x :: vs) H2 Q (E σ)
section
variable {CX : CXT} {k : Nat} {f C : Addr} {fd : FuncData} {ps : List Str} {sp : Sp} {E : L2.St → XK} {x m : Str} {p pos apos : Pos} {e o : Expr} {es : List Expr} {ta : TE} {t : TA}
theorem pe_methS {pl : Sem Bool} (he : PE X o ta) (c : Cls X.K C) (hm : Meth X.K C m f) (F : FnOk X.prog X.w X.K X.mg X.base CX k f fd ps sp) (hr : Room k X.A) (hb : Binds X.K fd ps []) (hx : ∀ σ, PassesAt CX X σ (E σ)) (ha : PA X (e :: es) t)
    (hst : starEach (e :: es) X.env = (false, eval e X.env) :: starEach es X.env) (hpl : (backTo pos (starEach es X.env)).any (·.1) = false)
    (ht : eval (.Call (.Attribute o m apos) (e :: es) [] pos) X.env = (do
      let ov ← eval o X.env
      standAt apos.atName
      let (f, first) ← holding [ov] (getMethod ov m pl)
      callWith pos f first (backTo pos (starEach (e :: es) X.env)) (backToKw pos (keywordEach [] X.env)))) :
    PE X (.Call (.Attribute o m apos) (e :: es) [] pos) (tMethS C m sp E ta t) := by
  refine ⟨fun pins s σ H Q I h => ?_⟩
  refine PySem.W.methodCall_KW (pl := pl) (thn (he.run pins s σ H _ I h) fun u s1 ⟨x, H1, I1, rx, a, dx, fs, ex, ea, l, q⟩ => ?_) ht
  subst ex
  obtain rfl : u = Value.ref a := rx
  refine getmeth_ok I1 ea c hm l ?_
  refine PySem.W.callWith_K (first := [.ref a]) (h₀ := X.base) I.ok.mod.kin hm.kp (thn (ha.run pos pins s1 σ H1 _ I1 q) fun us s2 ⟨vs, H2, I2, r, q2⟩ => ⟨I2.kIn, ?_⟩) hst hpl
  exact run_fnS (us := .ref a :: us) (vs := .ref a :: vs) F hr hb (hx σ) I2 (.cons rfl r) q2
theorem pe_methS0 {pl : Sem Bool} (he : PE X o ta) (c : Cls X.K C) (hm : Meth X.K C m f) (F : FnOk X.prog X.w X.K X.mg X.base CX k f fd ps sp) (hr : Room k X.A) (hb : Binds X.K fd ps []) (hx : ∀ σ, PassesAt CX X σ (E σ))
    (ht : eval (.Call (.Attribute o m apos) [] [] pos) X.env = (do
      let ov ← eval o X.env
      standAt apos.atName
      let (f, first) ← holding [ov] (getMethod ov m pl)
      callWith pos f first (backTo pos (starEach [] X.env)) (backToKw pos (keywordEach [] X.env)))) :
    PE X (.Call (.Attribute o m apos) [] [] pos) (tMethS C m sp E ta L2.tNil) := by
  refine ⟨fun pins s σ H Q I h => ?_⟩
  refine PySem.W.methodCall_KW (pl := pl) (thn (he.run pins s σ H _ I h) fun u s1 ⟨x, H1, I1, rx, a, dx, fs, ex, ea, l, q⟩ => ?_) ht
  subst ex
  obtain rfl : u = Value.ref a := rx
  refine getmeth_ok I1 ea c hm l ?_
  exact PySem.W.callWith_K0 (first := [.ref a]) I1.kIn hm.kp (run_fnS (us := [.ref a]) (vs := [.ref a]) F hr hb (hx σ) I1 (.cons rfl .nil) q)
theorem run_makeS {E : XK} {pins : List (Addr × Obj)} {σ : L2.St} {H : Hp} {s : Shared} {Q : VK} {us : List Value} {vs : List V} (M : Mk X.K C f) (F : FnOk X.prog X.w X.K X.mg X.base CX k f fd ps sp) (hr : Room (k + 1) X.A) (hb : Binds X.K fd ps [])
    (hx : PassesAt CX X σ E) (I : Inv X pins σ H s) (r : Vals vs us)
    (h : ∀ x dx, H x = none → H dx = none → dx ≠ x → sp (.ref x :: vs) (upd (upd H dx (.own x)) x (.ins C dx [])) (fun v H2 => v = .non ∧ Q (.ref x) H2) E) :
    wpAny (model X.prog X.w) X.A (call (.ref C) us) (EP X pins σ Q) X.xe s := by
  have hq := h (s.heap.objs.size + 1) s.heap.objs.size (I.hok.fresh (Nat.le_succ _)) (I.hok.fresh (Nat.le_refl _)) (Nat.ne_of_lt (Nat.lt_succ_self _))
  have I2 := Inv.made (C := C) I
  have r2 : Vals (V.ref (s.heap.objs.size + 1) :: vs) (Value.ref (s.heap.objs.size + 1) :: us) := .cons rfl r
  have hl : ((Value.ref (s.heap.objs.size + 1) :: us) ++ ([] : List Value)).length = ps.length := by
    have e := r2.length
    rw [F.len _ _ _ _ hq] at e
    rw [List.append_nil]
    exact e.symm
  have hb2 := hb _ (Value.ref (s.heap.objs.size + 1) :: us) I2.kIn hl
  rw [List.append_nil] at hb2
  refine wpAny_call (make_map (f := f) I.kIn M.makes M.init (beq_iff_eq.mp M.fn) (codeAny_mono (F.run _ X.stack _ _ ⟨Value.ref (s.heap.objs.size + 1) :: us, []⟩ (Value.ref (s.heap.objs.size + 1) :: us) _ _ E (hr.make C us [])
    (I2.env0.make C us []) hb2 r2 hq) fun r s' hq' => ?_))
  cases r with
  | error e => exact hx pins _ _ e s' I2 hq'
  | ok fl =>
    cases fl with
    | ret u =>
      obtain ⟨v, H', I3, rv, ev, q3⟩ := I2.after hq'
      subst ev
      exact ⟨rv, ⟨V.ref (s.heap.objs.size + 1), H', I3, rfl, q3⟩⟩
    | next => exact False.elim hq'
    | brk => exact False.elim hq'
    | cont => exact False.elim hq'
def tMakeS (C : Addr) (sp : Sp) (E : L2.St → XK) (t : TA) : TE := fun σ H Q => t σ H fun vs H1 => ∀ x dx, H1 x = none → H1 dx = none → dx ≠ x →
  sp (.ref x :: vs) (upd (upd H1 dx (.own x)) x (.ins C dx [])) (fun v H2 => v = .non ∧ Q (.ref x) H2) (E σ)
theorem pe_makeS (M : Mk X.K C f) (F : FnOk X.prog X.w X.K X.mg X.base CX k f fd ps sp) (hr : Room (k + 1) X.A) (hg : Gl X x) (hm : X.mg x = some (.ref C)) (hb : Binds X.K fd ps []) (hx : ∀ σ, PassesAt CX X σ (E σ))
    (ha : PA X (e :: es) t) (hdb : (x == ("__debug__" : Str)) = false) (he : starEach (e :: es) X.env = (false, eval e X.env) :: starEach es X.env) (hpl : (backTo pos (starEach es X.env)).any (·.1) = false) :
    PE X (.Call (.Name x p) (e :: es) [] pos) (tMakeS C sp E t) := by
  refine ⟨fun pins s σ H Q I h => ?_⟩
  refine wpAny_Call_Name_kw (ld_glob I hg hm ?_ hdb)
  refine PySem.W.callWith_K (h₀ := X.base) I.ok.mod.kin M.kp (thn (ha.run pos pins s σ H _ I h) fun us s1 ⟨vs, H1, I1, r, q⟩ => ⟨I1.kIn, ?_⟩) he hpl
  exact run_makeS M F hr hb (hx σ) I1 r q
end
/-- a class that can be made: its number, its __init__ -/
structure KOk (X : Cx) (T : Tab) (L : Nat) (x : Str) (c : Nat) (F : Fn) : Prop where
  ex : ∃ C f fd ps, T.cls[c]? = some C ∧ Mk X.K C f ∧ FnOk X.prog X.w X.K X.mg X.base (L2.CX X.prog X.w) L f fd ps (spF T X.K F) ∧ X.mg x = some (.ref C) ∧ Binds X.K fd ps []
theorem rd_make {F : Fn} {c : Nat} {C : Addr} {m : AM} {σ : L2.St} {H : Hp} {Q : VK} (hc : T.cls[c]? = some C) (h : rdE T K W (mMake c F m) σ H Q) : tMakeS C (spF T K F) (WE W) (rdA T K W m) σ H Q := by
  obtain ⟨ρ, ex, sl, hp, rs, rh, q⟩ := h
  refine ⟨ρ, ex, sl, hp, rs, rh, q.bnd.imp fun us h1 ρ1 H1 k1 rh1 q1 xs rxs x dx hx hdx ne => ?_⟩
  have n1 : (upd H1 dx (.own x)) x = none := by rw [upd_ne (Ne.symm ne)]; exact hx
  have kd : Kp ρ1 H1 ρ1 (upd H1 dx (.own x)) := Kp.laid hdx
  have rd := rh1.laid (o := .own x) hdx
  have kx : Kp ρ1 (upd H1 dx (.own x)) (ρ1 ++ [some x]) (upd (upd H1 dx (.own x)) x (.ins C dx [])) := Kp.reg n1
  have rx := rd.reg (o := .ins C dx []) (ob := .ins c []) n1 ⟨x, C, dx, [], rfl, upd_same, hc, fun _ h => (by cases h), .nil⟩
  have kk := kd.trans kx
  have e1 : (ρ1 ++ [some x])[h1.length]? = some (some x) := by
    rw [← rh1.len, List.getElem?_append_right (Nat.le_refl _), Nat.sub_self]; rfl
  refine ⟨ρ1 ++ [some x], ex, h1 ++ [.ins c []], .ref h1.length :: us, rx, .cons (.ref e1) (Rvs.mono kk noex _ _ rxs), ?_⟩
  have q2 := (q1.later kk).bnd
  refine (q2.other (W' := fun cls d _ H' => WE W σ cls d H') (σ' := []) fun _ _ _ w => w).imp fun v h2 ρ2 H2 k2 rh2 q3 z rz => ?_
  cases v with
  | non =>
    cases rz
    exact ⟨rfl, q3 ρ2 H2 (Kp.refl _ _) rh2 _ (.ref (k2.up _ _ e1))⟩
  | _ => exact q3.elim
theorem e_make {x : Str} {p pos : Pos} {e : Expr} {es : List Expr} {L c : Nat} {F : Fn} {m : AM} (G : KOk X T L x c F) (hr : Room (L + 1) X.A) (hg : Gl X x) (tk : Takes X W) (ha : PA X (e :: es) (rdA T X.K W m)) (hdb : (x == ("__debug__" : Str)) = false)
    (he : starEach (e :: es) X.env = (false, eval e X.env) :: starEach es X.env) (hpl : (backTo pos (starEach es X.env)).any (·.1) = false) : PE X (.Call (.Name x p) (e :: es) [] pos) (rdE T X.K W (mMake c F m)) := by
  obtain ⟨C, f, fd, ps, hc, M, FO, hm, hb⟩ := G.ex
  exact imE (pe_makeS (E := WE W) M FO hr hg hm hb (fun σ => passAt tk σ) ha hdb he hpl) fun _ _ _ h => rd_make hc h
/-- an own method: of the class c -/
structure MOk (X : Cx) (T : Tab) (L : Nat) (c : Nat) (m : Str) (F : Fn) : Prop where
  ex : ∃ C f fd ps, T.cls[c]? = some C ∧ Meth X.K C m f ∧ FnOk X.prog X.w X.K X.mg X.base (L2.CX X.prog X.w) L f fd ps (spF T X.K F) ∧ Binds X.K fd ps []
  no : ∀ f, T.ok c f = true → T.fnm[f]? ≠ some m
theorem kind_ty {u : PV} {x : V} {k : String} (rh : Rh T K ρ ex H h) (r : Rv K ρ ex H u x) (e : kind u h = k) (hk : k ≠ "") : tyV K k x H := by
  cases u with
  | str _ => cases r; exact e.symm
  | lst _ => cases r with | lst a _ _ => exact .inl ⟨e.symm, _, .inl (.inl a)⟩
  | ref n =>
    cases r with
    | ref er =>
      unfold kind at e
      simp only at e
      split at e
      · rename_i l el
        obtain ⟨vs, ea, _⟩ := rh.lstAt el er
        exact .inl ⟨e.symm, _, .inl (.inl ea)⟩
      · rename_i l el
        obtain ⟨vs, ea, _⟩ := rh.dctAt el er
        exact .inr (.inr (.inl ⟨e.symm, .inl ⟨_, ea⟩⟩))
      · exact absurd e.symm hk
  | _ => exact absurd (show k = "" from e.symm) hk
theorem clsOf_out {u : PV} {c : Nat} (e : clsOf u h = some c) : ∃ n fs, u = .ref n ∧ h[n]? = some (.ins c fs) := by
  unfold clsOf at e
  split at e
  · split at e
    · rename_i el
      cases e
      exact ⟨_, _, rfl, el⟩
    · cases e
  · cases e
section
variable {L : Nat} {C : Nat → Option Fn} {ks : List String} {B : Bm} {o e : Expr} {es : List Expr} {m : Str} {apos pos : Pos} {mo : EM} {ma : AM}
/-- o.m(..): the rule is chosen by the receiver -/
theorem e_methR {e0 : Expr} {ta : TA} (hA : ∀ σ H Q, rdA T X.K W ma σ H Q → ta σ H Q)
    (hM : ∀ c F, C c = some F → ∃ Ca, T.cls[c]? = some Ca ∧ PE X e0 (tMethS Ca m (spF T X.K F) (WE W) (rdE T X.K W mo) ta)) (hno : ∀ c F, C c = some F → ∀ f, T.ok c f = true → T.fnm[f]? ≠ some m)
    (hB : ∀ k ∈ ks, k ≠ "" ∧ PE X e0 (tBM X.K k (rMt T X.K B k) (rdE T X.K W mo) ta)) : PE X e0 (rdE T X.K W (mMeth C ks B mo ma)) := by
  refine ⟨fun pins s σ H Q I h => ?_⟩
  obtain ⟨ρ, ex, sl, hp, rs, rh, q⟩ := h
  unfold mMeth at q
  cases er : mo sl hp with
  | bad => rw [er] at q; exact q.elim
  | exc c fs h1 => rw [er] at q; exact q.elim
  | ok u h1 =>
    rw [er] at q
    have q : Fin T X.K W ρ ex σ H (match clsOf u h1 with
        | some c => match C c with
          | some F => (ma sl h1).bnd fun vs h2 => F (u :: vs) h2
          | none => .bad
        | none => if kind u h1 ∈ ks then (ma sl h1).bnd fun vs h2 => retH (if kind u h2 = kind u h1 then B u vs h2 else none) else .bad) (fun v _ ρ' H' => ∀ x, Rv X.K ρ' ex H' v x → Q x H') := q
    have recv : ∀ {k : VK}, (∀ ρ1 H1 x, Kp ρ H ρ1 H1 → Rh T X.K ρ1 ex H1 h1 → Rv X.K ρ1 ex H1 u x → k x H1) → rdE T X.K W mo σ H k := fun {k} f => by
      refine ⟨ρ, ex, sl, hp, rs, rh, ?_⟩
      rw [er]
      exact fun ρ1 H1 k1 rh1 x rx => f ρ1 H1 x k1 rh1 rx
    cases ec : clsOf u h1 with
    | some c =>
      rw [ec] at q
      cases eC : C c with
      | none =>
        simp only [eC] at q
        exact q.elim
      | some F =>
        simp only [eC] at q
        obtain ⟨n, fs, rfl, el⟩ := clsOf_out ec
        obtain ⟨Ca, hc, pe⟩ := hM c F eC
        refine pe.run pins s σ H Q I (recv fun ρ1 H1 x k1 rh1 rx => ?_)
        cases rx with
        | ref er' =>
          rename_i a
          obtain ⟨C', dx, gs, ea, ec', eo, rf⟩ := rh1.insAt el er'
          rw [hc] at ec'
          cases ec'
          refine ⟨a, dx, gs, rfl, ea, rf.none (fun p hp => hno c F eC p.1 (eo p hp)), hA _ _ _ ?_⟩
          refine ⟨ρ1, ex, sl, h1, rs.mono k1 noex, rh1, (Fin.later q k1).bnd.imp fun us h2 ρ2 H2 k2 rh2 q2 xs rxs => ?_⟩
          exact ⟨ρ2, ex, h2, _, rh2, .cons (.ref (k2.up _ _ er')) rxs, q2.other fun _ _ _ w => w⟩
    | none =>
      rw [ec] at q
      simp only at q
      by_cases hk : kind u h1 ∈ ks
      · rw [if_pos hk] at q
        obtain ⟨ne, pe⟩ := hB _ hk
        refine pe.run pins s σ H Q I (recv fun ρ1 H1 x k1 rh1 rx => ⟨kind_ty rh1 rx rfl ne, hA _ _ _ ⟨ρ1, ex, sl, h1, rs.mono k1 noex, rh1, (Fin.later q k1).bnd.imp fun us h2 ρ2 H2 k2 rh2 q2 xs rxs => ?_⟩⟩)
        by_cases hk2 : kind u h2 = kind u h1
        · rw [if_pos hk2] at q2
          cases eB : B u us h2 with
          | none => rw [eB] at q2; exact q2.elim
          | some p =>
            obtain ⟨w, h'⟩ := p
            rw [eB] at q2
            exact ⟨ρ2, ex, h2, u, us, w, h', rh2, rx.mono k2 noex, rxs, hk2, eB, fun ρ' H' z kp rh' rz => q2 ρ' H' kp rh' z rz⟩
        · rw [if_neg hk2] at q2; exact q2.elim
      · rw [if_neg hk] at q; exact q.elim
/-- a built-in's method of a kind -/
def BOk (X : Cx) (T : Tab) (m : Str) (B : Bm) (k : String) : Prop := k ≠ "" ∧ ∃ id, PlainAttrs k ∧ Slot k m id ∧ typeOf (.builtin id) = pure (.type "method_descriptor") ∧ MtR X id (rMt T X.K B k)
theorem e_meth {pl : Sem Bool} (hM : ∀ c F, C c = some F → MOk X T L c m F) (hr : Room L X.A) (tok : T.Ok X.K) (tk : Takes X W) (hB : ∀ k ∈ ks, BOk X T m B k) (ho : PE X o (rdE T X.K W mo)) (ha : PA X (e :: es) (rdA T X.K W ma))
    (hst : starEach (e :: es) X.env = (false, eval e X.env) :: starEach es X.env) (hpl : (backTo pos (starEach es X.env)).any (·.1) = false)
    (ht : eval (.Call (.Attribute o m apos) (e :: es) [] pos) X.env = (do
      let ov ← eval o X.env
      standAt apos.atName
      let (f, first) ← holding [ov] (getMethod ov m pl)
      callWith pos f first (backTo pos (starEach (e :: es) X.env)) (backToKw pos (keywordEach [] X.env))))
    (hbase : attributeBase o m X.env (eval o X.env) = eval o X.env)
    (hfew : ((backTo pos (starEach (e :: es) X.env)).all (fun x => !x.1) && (backToKw pos (keywordEach [] X.env)).all (fun x => x.1.isSome)
      && decide ((e :: es).length + ([] : List Keyword).length + (if ([] : List Keyword).isEmpty then 0 else 1) < 30)) = true)
    (hline : (apos.endLine == pos.line) = true) : PE X (.Call (.Attribute o m apos) (e :: es) [] pos) (rdE T X.K W (mMeth C ks B mo ma)) :=
  e_methR (m := m) (fun _ _ _ h => h) (fun c F eC => by
      obtain ⟨Ca, f, fd, ps, hc, hm, FO, hb⟩ := (hM c F eC).ex
      exact ⟨Ca, hc, pe_methS (E := WE W) ho (tok.cl c Ca hc) hm FO hr hb (fun σ => passAt tk σ) ha hst hpl ht⟩) (fun c F eC => (hM c F eC).no) fun k hk => by
    obtain ⟨ne, id, pa, sl, ty, mt⟩ := hB k hk
    exact ⟨ne, pe_bm pa sl ty mt ho ha hbase hfew hline hst hpl⟩
theorem e_meth0 {pl : Sem Bool} (hM : ∀ c F, C c = some F → MOk X T L c m F) (hr : Room L X.A) (tok : T.Ok X.K) (tk : Takes X W) (hB : ∀ k ∈ ks, BOk X T m B k) (ho : PE X o (rdE T X.K W mo))
    (ht : eval (.Call (.Attribute o m apos) [] [] pos) X.env = (do
      let ov ← eval o X.env
      standAt apos.atName
      let (f, first) ← holding [ov] (getMethod ov m pl)
      callWith pos f first (backTo pos (starEach [] X.env)) (backToKw pos (keywordEach [] X.env))))
    (hbase : attributeBase o m X.env (eval o X.env) = eval o X.env) (hline : (apos.endLine == pos.line) = true) : PE X (.Call (.Attribute o m apos) [] [] pos) (rdE T X.K W (mMeth C ks B mo mNil)) :=
  e_methR (m := m) (ta := L2.tNil) (fun σ H Q h => by
      obtain ⟨ρ, ex, sl, hp, rs, rh, q⟩ := h
      exact q ρ H (Kp.refl _ _) rh [] .nil) (fun c F eC => by
      obtain ⟨Ca, f, fd, ps, hc, hm, FO, hb⟩ := (hM c F eC).ex
      exact ⟨Ca, hc, pe_methS0 (E := WE W) ho (tok.cl c Ca hc) hm FO hr hb (fun σ => passAt tk σ) ht⟩) (fun c F eC => (hM c F eC).no) fun k hk => by
    obtain ⟨ne, id, pa, sl, ty, mt⟩ := hB k hk
    exact ⟨ne, pe_bm0 pa sl ty mt ho hbase hline⟩
end
end
end Y

set_option maxHeartbeats 1000000
namespace Y
open PySem PySem.Spec PyProof.Rows L2
section
variable {X : Cx} {T : Tab} {K : PySem.W.Frag} {W : WX} {ρ : Pl} {ex : List Addr} {H : Hp} {h : VH}
/-! ### targets -/
/-- only these slots differ -/
def Only (own : List Nat) (σ σ' : L2.St) : Prop := σ'.length = σ.length ∧ ∀ j, j ∉ own → σ'[j]? = σ[j]?
theorem Only.refl (own : List Nat) (σ : L2.St) : Only own σ σ := ⟨rfl, fun _ _ => rfl⟩
theorem Only.trans {own : List Nat} {σ σ1 σ2 : L2.St} (a : Only own σ σ1) (b : Only own σ1 σ2) : Only own σ σ2 := ⟨b.1.trans a.1, fun j h => (b.2 j h).trans (a.2 j h)⟩
theorem Only.set {own : List Nat} {σ : L2.St} {i : Nat} {v : Option V} (h : i ∈ own) : Only own σ (σ.set i v) :=
  ⟨List.length_set, fun j hj => List.getElem?_set_ne fun e => hj (by rw [← e]; exact h)⟩
theorem wipe_get (σ : L2.St) (j : Nat) : ∀ vs : List Nat, (L2.wipe σ vs)[j]? = if j ∈ vs then (if j < σ.length then some none else none) else σ[j]?
  | [] => by simp [L2.wipe]
  | v :: vs => by
    unfold L2.wipe
    by_cases e : v = j
    · subst e
      rw [if_pos List.mem_cons_self]
      by_cases hl : v < σ.length
      · rw [List.getElem?_set_self (by rw [L2.wipe_length]; exact hl), if_pos hl]
      · rw [List.getElem?_eq_none (by rw [List.length_set, L2.wipe_length]; omega), if_neg hl]
    · rw [List.getElem?_set_ne e, wipe_get σ j vs]
      by_cases hm : j ∈ vs
      · rw [if_pos hm, if_pos (List.mem_cons_of_mem _ hm)]
      · rw [if_neg hm, if_neg (fun z => (List.mem_cons.mp z).elim (fun q => e q.symm) hm)]
theorem Only.wipe {own : List Nat} {σ σ' : L2.St} (h : Only own (L2.wipe σ own) σ') : L2.wipe σ' own = L2.wipe σ own := by
  refine List.ext_getElem? fun j => ?_
  rw [wipe_get, wipe_get]
  by_cases hm : j ∈ own
  · rw [if_pos hm, if_pos hm, h.1, L2.wipe_length]
  · rw [if_neg hm, if_neg hm, h.2 j hm, wipe_get, if_neg hm]

def rdG (T : Tab) (K : PySem.W.Frag) (own : List Nat) (g : GM) : TG := fun x σ H Q => ∃ ρ ex sl h v sl' h', Rst K ρ ex H sl σ ∧ Rh T K ρ ex H h ∧ Rv K ρ ex H v x ∧ g v sl h = some (sl', h') ∧
  ∀ ρ' H' σ', Kp ρ H ρ' H' → Rh T K ρ' ex H' h' → Rst K ρ' ex H' sl' σ' → Only own σ σ' → Q σ' H'
def rdGs (T : Tab) (K : PySem.W.Frag) (own : List Nat) (g : GMs) : TGs := fun xs σ H Q => ∃ ρ ex sl h vs sl' h', Rst K ρ ex H sl σ ∧ Rh T K ρ ex H h ∧ Rvs K ρ ex H vs xs ∧ g vs sl h = some (sl', h') ∧
  ∀ ρ' H' σ', Kp ρ H ρ' H' → Rh T K ρ' ex H' h' → Rst K ρ' ex H' sl' σ' → Only own σ σ' → Q σ' H'
theorem imG {e : Expr} {t t' : TG} (h : PG X e t) (f : ∀ v σ H Q, t' v σ H Q → t v σ H Q) : PG X e t' := ⟨fun pins s σ H v u Q I r q => h.run pins s σ H v u Q I r (f v σ H Q q)⟩
theorem imGs {e : List Expr} {t t' : TGs} (h : PGs X e t) (f : ∀ v σ H Q, t' v σ H Q → t v σ H Q) : PGs X e t' := ⟨fun pins s σ H v u Q I r q => h.run pins s σ H v u Q I r (f v σ H Q q)⟩
theorem g_name {i : Nat} {x : Str} {pos : Pos} {own : List Nat} (hN : X.N.Nodup) (hi : X.N[i]? = some x) (hx : Loc X.env.scope x) (hf : X.fn x = true ∨ X.env.scope.names.lookup x = some .local) (ho : i ∈ own) : PG X (.Name x pos) (rdG T K own (tName i)) :=
  imG (pg_name hN hi hx hf) fun x σ H Q h => by
    obtain ⟨ρ, ex, sl, hp, v, sl', h', rs, rh, rv, e, q⟩ := h
    cases e
    exact q ρ H _ (Kp.refl _ _) rh (rs.set i rv) (.set ho)
theorem gs_nil {own : List Nat} : PGs X [] (rdGs T K own tNil) := imGs pgs_nil fun xs σ H Q h => by
  obtain ⟨ρ, ex, sl, hp, vs, sl', h', rs, rh, rv, e, q⟩ := h
  cases rv with
  | nil => cases e; exact ⟨rfl, q ρ H _ (Kp.refl _ _) rh rs (.refl _ _)⟩
  | cons _ _ => cases e
theorem gs_cons {own : List Nat} {e : Expr} {es : List Expr} {g : GM} {gs : GMs} (h1 : PG X e (rdG T K own g)) (h2 : PGs X es (rdGs T K own gs)) (hs : (assignEach (e :: es) X.env).map (·.2) = assign e X.env :: (assignEach es X.env).map (·.2)) : PGs X (e :: es) (rdGs T K own (tCons g gs)) :=
  imGs (pgs_cons h1 h2 hs) fun xs σ H Q h => by
    obtain ⟨ρ, ex, sl, hp, vs, sl', h', rs, rh, rv, e, q⟩ := h
    cases rv with
    | nil => cases e
    | cons r1 r2 =>
      unfold tCons at e
      simp only at e
      split at e
      · rename_i sl1 h1 e1
        refine ⟨_, _, rfl, ρ, ex, sl, hp, _, sl1, h1, rs, rh, r1, e1, fun ρ1 H1 σ1 k1 rh1 rs1 o1 => ?_⟩
        exact ⟨ρ1, ex, sl1, h1, _, sl', h', rs1, rh1, Rvs.mono k1 noex _ _ r2, e, fun ρ' H' σ' k2 rh2 rs2 o2 => q ρ' H' σ' (k1.trans k2) rh2 rs2 (o1.trans o2)⟩
      · cases e
theorem g_tup {own : List Nat} {es : List Expr} {k : Nat} {pos : Pos} {gs : GMs} (hc : X.calm = true) (h : PGs X es (rdGs T X.K own gs)) (hst : (assignEach es X.env).findIdx? (·.1) = none)
    (hlen : ∀ vs sl h' r, gs vs sl h' = some r → vs.length = (assignEach es X.env).length) : PG X (.Tuple es k pos) (rdG T X.K own (tTup gs)) :=
  imG (pg_tup hc h rfl hst) fun x σ H Q h => by
    obtain ⟨ρ, ex, sl, hp, v, sl', h', rs, rh, rv, e, q⟩ := h
    unfold tTup at e
    split at e
    · obtain ⟨a, xs, rfl, s1, r1⟩ := rv.tupT
      refine ⟨a, xs, rfl, s1, by rw [← r1.length]; exact hlen _ _ _ _ e, ?_⟩
      exact ⟨ρ, ex, sl, hp, _, sl', h', rs, rh, r1, e, q⟩
    · cases e
theorem set_any (hu : X.A.units + 1 < cLine) : PSet X (fun o i v H Q => ∃ ρ ex h uo ui uv h', Rh T X.K ρ ex H h ∧ Rv X.K ρ ex H uo o ∧ Rv X.K ρ ex H ui i ∧ Rv X.K ρ ex H uv v ∧ setIx uo ui uv h = some h' ∧ ∀ ρ' H', Kp ρ H ρ' H' → Rh T X.K ρ' ex H' h' → Q H') := by
  intro pins s σ H o i v ov iv u Q I ro ri rv h
  obtain ⟨ρ, ex, hp, uo, ui, uv, h', rh, r1, r2, r3, e, q⟩ := h
  unfold setIx at e
  split at e
  · split at e
    · rename_i n l el
      cases r1 with
      | ref er =>
        rename_i a
        obtain ⟨ls, ea, rl⟩ := rh.lstAt el er
        split at e
        · obtain ⟨j, ej, e2⟩ := Option.map_eq_some_iff.mp e
          subst e2
          cases r2
          refine set_list pins s σ H _ _ v ov iv u Q I ro ri rv ⟨a, ls, _, j, rfl, rfl, ea, ?_, ?_⟩
          · show Y.atI ls.length _ = _
            rw [← rl.length]; exact ej
          · exact q ρ _ (Kp.write er (nfL ea)) (rh.wlst er (nfL ea) (rl.set j r3))
        · cases e
    · rename_i n kvs el
      split at e
      · rename_i hc
        cases e
        have hc := Bool.and_eq_true_iff.mp hc
        cases r1 with
        | ref er =>
          rename_i a
          obtain ⟨ks, ea, rk⟩ := rh.dctAt el er
          cases (show ov = Value.ref a from ro)
          obtain ⟨k', rk', rfl⟩ := keyR_of hc.1 r2
          have hl : ks.length < sizeLine := by rw [← rk.length, ← line_eq]; exact Nat.blt_eq.mp hc.2
          exact d_setItem hu I (DPut.k ea hl) ri rv fun s' I' => ⟨_, I', q ρ _ (Kp.write er (nfD ea)) (rh.wdct er (nfD ea) (Rks.put rk' r3 rk))⟩
      · cases e
    · cases e
  · cases e
theorem R.opt_ok {α : Type} {r : R α} {a : α} {h : VH} (e : r.opt = some (a, h)) : r = .ok a h := by
  cases r with
  | ok b g => cases e; rfl
  | exc _ _ _ => cases e
  | bad => cases e
theorem g_sub {own : List Nat} {o i : Expr} {pos : Pos} {mo mi : EM} (hu : X.A.units + 1 < cLine) (ho : PE X o (rdE T X.K W mo)) (hi : PE X i (rdE T X.K W mi))
    (ha : ∀ v, assign (.Subscript o i pos) X.env v = (do
      let ov ← holding [v] (eval o X.env)
      let iv ← holding [v, ov] (eval i X.env)
      standAt pos
      holding [v, ov, iv] (setItem ov iv v)
      release [v, ov, iv] [])) : PG X (.Subscript o i pos) (rdG T X.K own (tSub mo mi)) :=
  imG (pg_sub ho hi (set_any (T := T) hu) ha) fun x σ H Q h => by
    obtain ⟨ρ, ex, sl, hp, v, sl', h', rs, rh, rv, e, q⟩ := h
    unfold tSub at e
    split at e
    · rename_i u1 h1 e1
      split at e
      · rename_i u2 h2 e2
        split at e
        · rename_i h3 e3
          cases e
          refine ⟨ρ, ex, sl, hp, rs, rh, ?_⟩
          rw [R.opt_ok e1]
          intro ρ1 H1 k1 rh1 x1 rx1
          refine ⟨ρ1, ex, sl, h1, rs.mono k1 noex, rh1, ?_⟩
          rw [R.opt_ok e2]
          intro ρ2 H2 k2 rh2 x2 rx2
          refine ⟨ρ2, ex, h2, u1, u2, v, _, rh2, rx1.mono k2 noex, rx2, rv.mono (k1.trans k2) noex, e3, fun ρ' H' k3 rh3 => ?_⟩
          exact q ρ' H' σ ((k1.trans k2).trans k3) rh3 (rs.mono ((k1.trans k2).trans k3) noex) (.refl _ _)
        · cases e
      · cases e
    · cases e

/-! ### what is walked -/
/-- J walks vs, from now on -/
def Wk (T : Tab) (K : PySem.W.Frag) (ρ : Pl) (ex : List Addr) (H : Hp) (J : It) (vs : List PV) : Prop := ∀ ρ1 H1 ex1, Kp ρ H ρ1 H1 → (∀ a ∈ ex1, a ∈ ex ∨ H a = none) → ∀ i : Nat, (vs.length ≤ i → J.stop i H1) ∧ ∀ d, vs[i]? = some d → J.go i H1 ∧
  ∀ x H2, J.yld i H1 x H2 → Kp ρ1 H1 ρ1 H2 ∧ (∀ D o, H1 D = some o → H2 D = some o) ∧ (∀ h, Rh T K ρ1 ex1 H1 h → Rh T K ρ1 ex1 H2 h) ∧ ∀ h, Rh T K ρ1 ex1 H1 h → Rv K ρ1 ex1 H2 d x
def rdI (T : Tab) (K : PySem.W.Frag) (W : WX) (m : IM) : TI := fun σ H R => ∃ ρ ex sl h, Rst K ρ ex H sl σ ∧ Rh T K ρ ex H h ∧ Fin T K W ρ ex σ H (m sl h) fun vs _ ρ' H' => ∀ J, Wk T K ρ' ex H' J vs → R J H'
theorem imI {tg e : Expr} {t t' : TI} (h : PI X tg e t) (f : ∀ σ H R, t' σ H R → t σ H R) : PI X tg e t' := ⟨fun pins s σ H R I q => h.run pins s σ H R I (f σ H R q)⟩
theorem wk_list {a : Addr} {vs : List V} {l : List PV} (e : H a = some (.lst vs)) (im : Im ρ ex a) (r : Rvs K ρ ex H l vs) : Wk T K ρ ex H (Itl K a) l := by
  intro ρ1 H1 ex1 k hx i
  have e1 := k.im hx im e
  have r1 := Rvs.mono k hx _ _ r
  have sq : SqL K H1 a vs := .inl (.inl e1.1)
  refine ⟨fun hi => ⟨vs, sq, by rw [← r.length]; exact hi⟩, fun d hd => ?_⟩
  obtain ⟨x, ex', rx⟩ := r1.get hd
  refine ⟨⟨vs, x, sq, ex'⟩, fun y H2 hy => ?_⟩
  obtain ⟨e2, hy⟩ := hy
  subst e2
  have := hy vs sq
  rw [ex'] at this
  cases this
  exact ⟨Kp.refl _ _, fun _ _ z => z, fun _ z => z, fun _ _ => rx⟩
theorem wk_scr {a : Addr} {l : List Int} (e : (Rd H a (.lst (l.map V.int)) ∧ Im ρ ex a) ∨ WrL K a (l.map V.int)) : Wk T K ρ ex H (Itl K a) (l.map PV.int) := by
  intro ρ1 H1 ex1 k hx i
  have sq : SqL K H1 a (l.map V.int) := by
    rcases e with ⟨e, im⟩ | e
    · exact .inl (k.rd hx im e).1
    · exact .inr e
  refine ⟨fun hi => ⟨_, sq, by rw [List.length_map] at hi ⊢; exact hi⟩, fun d hd => ?_⟩
  rw [List.getElem?_map] at hd
  obtain ⟨z, hz, rfl⟩ := Option.map_eq_some_iff.mp hd
  have ez : (l.map V.int)[i]? = some (.int z) := by rw [List.getElem?_map, hz]; rfl
  refine ⟨⟨_, _, sq, ez⟩, fun y H2 hy => ?_⟩
  obtain ⟨e2, hy⟩ := hy
  subst e2
  have := hy _ sq
  rw [ez] at this
  cases this
  exact ⟨Kp.refl _ _, fun _ _ z => z, fun _ z => z, fun _ _ => .int _⟩
theorem wk_tup {a : Addr} {vs : List V} {l : List PV} (e : (Rd H a (.tup vs) ∧ Im ρ ex a) ∨ WrT K a vs) (r : Rvs K ρ ex H l vs) : Wk T K ρ ex H (Itt K a) l := by
  intro ρ1 H1 ex1 k hx i
  have sq : SqT K H1 a vs := by
    rcases e with ⟨e, im⟩ | e
    · exact .inl (k.rd hx im e).1
    · exact .inr e
  have r1 := Rvs.mono k hx _ _ r
  refine ⟨fun hi => ⟨vs, sq, by rw [← r.length]; exact hi⟩, fun d hd => ?_⟩
  obtain ⟨x, ex', rx⟩ := r1.get hd
  refine ⟨⟨vs, x, sq, ex'⟩, fun y H2 hy => ?_⟩
  obtain ⟨e2, hy⟩ := hy
  subst e2
  have := hy vs sq
  rw [ex'] at this
  cases this
  exact ⟨Kp.refl _ _, fun _ _ z => z, fun _ z => z, fun _ _ => rx⟩
theorem wk_range {lo : Int} {n : Nat} : Wk T K ρ ex H (Itr lo n) (rangeL lo n) := by
  intro ρ1 H1 ex1 k hx i
  have el : (rangeL lo n).length = n := by simp [rangeL]
  refine ⟨fun hi => by rw [el] at hi; exact hi, fun d hd => ?_⟩
  have hi : i < n := by have := (List.getElem?_eq_some_iff.mp hd).1; omega
  have ed : d = .int (lo + (i : Int)) := by
    unfold rangeL at hd
    rw [List.getElem?_map, List.getElem?_range hi] at hd
    exact (Option.some.inj hd).symm
  refine ⟨hi, fun y H2 hy => ?_⟩
  obtain ⟨e2, e3⟩ := hy
  subst e2 e3 ed
  exact ⟨Kp.refl _ _, fun _ _ z => z, fun _ z => z, fun _ _ => .int _⟩

theorem wk_str {s : List Nat} {z : Str} (r : StrR s z) : Wk T K ρ ex H (Its z) (s.map fun c => PV.str [c]) := by
  intro ρ1 H1 ex1 k hx i
  have hl : z.cps.size = s.length := by rw [← r.eq]; simp
  have hg : z.cps[i]? = s[i]? := by rw [← r.eq]; simp
  refine ⟨fun hi => by rw [List.length_map] at hi; show z.cps.size ≤ i; omega, fun d hd => ?_⟩
  rw [List.getElem?_map] at hd
  obtain ⟨c, hc, rfl⟩ := Option.map_eq_some_iff.mp hd
  refine ⟨?_, fun y H2 hy => ?_⟩
  · show i < z.cps.size
    have := (List.getElem?_eq_some_iff.mp hc).1
    omega
  · obtain ⟨e2, c', e3, e4⟩ := hy
    subst e2 e4
    rw [hg, hc] at e3
    cases e3
    exact ⟨Kp.refl _ _, fun _ _ z => z, fun _ z => z, fun _ _ => .str (one_str r (List.mem_of_getElem? hc))⟩
theorem i_iter {tg e : Expr} {m : EM} (h : PE X e (rdE T X.K W m)) : PI X tg e (rdI T X.K W (mIter m)) := by
  refine ⟨fun pins s σ H R I q => ?_⟩
  obtain ⟨ρ, ex, sl, hp, rs, rh, q⟩ := q
  unfold mIter at q
  cases er : m sl hp with
  | bad => rw [er] at q; exact q.elim
  | exc c fs h1 =>
    rw [er] at q
    refine (pi_list (tg := tg) h).run pins s σ H R I ⟨ρ, ex, sl, hp, rs, rh, ?_⟩
    rw [er]
    exact q
  | ok u h1 =>
    rw [er] at q
    have recv : ∀ {k : VK}, (∀ ρ1 H1 x, Kp ρ H ρ1 H1 → Rh T X.K ρ1 ex H1 h1 → Rv X.K ρ1 ex H1 u x → k x H1) → rdE T X.K W m σ H k := fun {k} f => by
      refine ⟨ρ, ex, sl, hp, rs, rh, ?_⟩
      rw [er]
      exact fun ρ1 H1 k1 rh1 x rx => f ρ1 H1 x k1 rh1 rx
    cases u with
    | lst l =>
      refine (pi_list (tg := tg) h).run pins s σ H R I (recv fun ρ1 H1 x k1 rh1 rx => ?_)
      cases rx with
      | lst a im r => exact ⟨_, rfl, ⟨_, .inl (.inl a)⟩, q ρ1 H1 k1 rh1 _ (wk_list a im r)⟩
    | scr l =>
      refine (pi_list (tg := tg) h).run pins s σ H R I (recv fun ρ1 H1 x k1 rh1 rx => ?_)
      cases rx with
      | scr a => exact ⟨_, rfl, ⟨_, a.elim (fun z => .inl z.1) .inr⟩, q ρ1 H1 k1 rh1 _ (wk_scr a)⟩
    | tup l =>
      refine (pi_tup (tg := tg) h).run pins s σ H R I (recv fun ρ1 H1 x k1 rh1 rx => ?_)
      cases rx with
      | tup a r => exact ⟨_, rfl, ⟨_, a.elim (fun z => .inl z.1) .inr⟩, q ρ1 H1 k1 rh1 _ (wk_tup a r)⟩
    | str l =>
      refine (pi_str (tg := tg) h).run pins s σ H R I (recv fun ρ1 H1 x k1 rh1 rx => ?_)
      cases rx with
      | str r => exact ⟨_, rfl, q ρ1 H1 k1 rh1 _ (wk_str r)⟩
    | _ => exact q.elim
theorem rng_ok {i : Int} (h : rngOk i = true) : -(2 ^ 62) ≤ i ∧ i < 2 ^ 62 := by
  have := rngOk_out h
  omega
theorem i_range1 {tg a : Expr} {p pos : Pos} {m : AM} (hg : Gl X "range") (hm : X.mg "range" = none) (ha : PA X [a] (rdA T X.K W m)) (hs : starEach [a] X.env = [(false, eval a X.env)]) (hl : ∀ sl h vs h', m sl h = .ok vs h' → vs.length = 1) :
    PI X tg (.Call (.Name "range" p) [a] [] pos) (rdI T X.K W (mRange m)) := imI (pi_range1 hg hm ha hs) fun σ H R q => by
  obtain ⟨ρ, ex, sl, hp, rs, rh, q⟩ := q
  refine ⟨ρ, ex, sl, hp, rs, rh, ?_⟩
  have hl := hl sl hp
  unfold mRange at q
  cases er : m sl hp with
  | bad => rw [er] at q; exact q.elim
  | exc c fs h1 => rw [er] at q; exact q
  | ok us h1 =>
    rw [er] at q
    have hl := hl us h1 er
    intro ρ1 H1 k1 rh1 xs rxs
    replace q : Fin T X.K W ρ ex σ H (match us with
      | [.int j] => if rngOk j then .ok (rangeL 0 j.toNat) h1 else .bad
      | [.int i, .int j] => if rngOk i && rngOk j then .ok (rangeL i (j - i).toNat) h1 else .bad
      | _ => Y.R.bad) _ := q
    split at q
    · rename_i j
      split at q
      · rename_i hj
        cases rxs with
        | cons r1 r2 =>
          cases r2
          cases r1
          obtain ⟨b1, b2⟩ := rng_ok hj
          exact ⟨j, rfl, b1, b2, q ρ1 H1 k1 rh1 _ wk_range⟩
      · exact q.elim
    · simp at hl
    · exact q.elim
theorem i_range2 {tg a b : Expr} {p pos : Pos} {m : AM} (hg : Gl X "range") (hm : X.mg "range" = none) (ha : PA X [a, b] (rdA T X.K W m)) (hs : starEach [a, b] X.env = [(false, eval a X.env), (false, eval b X.env)]) (hs2 : starEach [b] X.env = [(false, eval b X.env)]) (hl : ∀ sl h vs h', m sl h = .ok vs h' → vs.length = 2) :
    PI X tg (.Call (.Name "range" p) [a, b] [] pos) (rdI T X.K W (mRange m)) := imI (pi_range2 hg hm ha hs hs2) fun σ H R q => by
  obtain ⟨ρ, ex, sl, hp, rs, rh, q⟩ := q
  refine ⟨ρ, ex, sl, hp, rs, rh, ?_⟩
  have hl := hl sl hp
  unfold mRange at q
  cases er : m sl hp with
  | bad => rw [er] at q; exact q.elim
  | exc c fs h1 => rw [er] at q; exact q
  | ok us h1 =>
    rw [er] at q
    have hl := hl us h1 er
    intro ρ1 H1 k1 rh1 xs rxs
    replace q : Fin T X.K W ρ ex σ H (match us with
      | [.int j] => if rngOk j then .ok (rangeL 0 j.toNat) h1 else .bad
      | [.int i, .int j] => if rngOk i && rngOk j then .ok (rangeL i (j - i).toNat) h1 else .bad
      | _ => Y.R.bad) _ := q
    split at q
    · simp at hl
    · rename_i i j
      split at q
      · rename_i hj
        have hj := Bool.and_eq_true_iff.mp hj
        cases rxs with
        | cons r1 r2 =>
          cases r2 with
          | cons r2 r3 =>
            cases r3
            cases r1
            cases r2
            obtain ⟨b1, b2⟩ := rng_ok hj.1
            obtain ⟨b3, b4⟩ := rng_ok hj.2
            exact ⟨i, j, rfl, ⟨b1, b2, b3, b4⟩, q ρ1 H1 k1 rh1 _ wk_range⟩
      · exact q.elim
    · exact q.elim

/-! ### comprehensions -/
def hide (H : Hp) (D : Addr) : Hp := fun b => if b = D then none else H b
theorem hide_ne {H : Hp} {D b : Addr} (h : b ≠ D) : hide H D b = H b := if_neg h
theorem hide_same {H : Hp} {D : Addr} : hide H D D = none := if_pos rfl
theorem hide_upd {H : Hp} {D : Addr} {o : HO} (e : H D = some o) : upd (hide H D) D o = H := by
  funext b
  by_cases h : b = D
  · subst h; rw [upd_same, e]
  · rw [upd_ne h, hide_ne h]
theorem rd_hide {D a : Addr} {u : HO} (h : a ≠ D) (r : Rd H a u) : Rd (hide H D) a u := by
  rcases r with r | ⟨o, r⟩
  · exact .inl (by rw [hide_ne h]; exact r)
  · exact .inr ⟨o, by rw [hide_ne h]; exact r⟩
theorem im_hide {D a : Addr} (im : Im ρ (D :: ex) a) : Im ρ ex a ∧ a ≠ D := ⟨⟨im.1, fun z => im.2 (List.mem_cons_of_mem _ z)⟩, fun z => im.2 (by rw [z]; exact List.mem_cons_self)⟩
mutual
theorem Rv.hide {D : Addr} : ∀ (d : PV) (v : V), Rv K ρ (D :: ex) H d v → Rv K ρ ex (Y.hide H D) d v
  | .non, _, h => by cases h; exact .non
  | .bl _, _, h => by cases h; exact .bl _
  | .int _, _, h => by cases h; exact .int _
  | .str _, _, h => by cases h with | str e => exact .str e
  | .tup l, _, h => by
    cases h with
    | tup e r =>
      refine .tup ?_ (Rvs.hide l _ r)
      rcases e with ⟨e, i⟩ | e
      · exact .inl ⟨rd_hide (im_hide i).2 e, (im_hide i).1⟩
      · exact .inr e
  | .lst l, _, h => by
    cases h with
    | lst e i r => exact .lst (by rw [hide_ne (im_hide i).2]; exact e) (im_hide i).1 (Rvs.hide l _ r)
  | .scr l, _, h => by
    cases h with
    | scr e =>
      refine .scr ?_
      rcases e with ⟨e, i⟩ | e
      · exact .inl ⟨rd_hide (im_hide i).2 e, (im_hide i).1⟩
      · exact .inr e
  | .dct l, _, h => by
    cases h with
    | dct e i r => exact .dct (rd_hide (im_hide i).2 e) (im_hide i).1 (Rks.hide l _ r)
  | .ref n, _, h => by cases h with | ref e => exact .ref e
  | .exn _ _, _, h => by cases h
theorem Rvs.hide {D : Addr} : ∀ (ds : List PV) (vs : List V), Rvs K ρ (D :: ex) H ds vs → Rvs K ρ ex (Y.hide H D) ds vs
  | [], _, h => by cases h; exact .nil
  | d :: ds, _, h => by cases h with | cons a r => exact .cons (Rv.hide d _ a) (Rvs.hide ds _ r)
theorem Rks.hide {D : Addr} : ∀ (ds : List (PV × PV)) (vs : List (Key × V)), Rks K ρ (D :: ex) H ds vs → Rks K ρ ex (Y.hide H D) ds vs
  | [], _, h => by cases h; exact .nil
  | (_, d) :: ds, _, h => by cases h with | cons e a r => exact .cons e (Rv.hide d _ a) (Rks.hide ds _ r)
end
theorem Rfs.hide {D : Addr} : ∀ {fs : List (Nat × PV)} {gs : List (Str × V)}, Rfs T K ρ (D :: ex) H fs gs → Rfs T K ρ ex (Y.hide H D) fs gs
  | _, _, .nil => .nil
  | _, _, .cons e r q => .cons e (Rv.hide _ _ r) q.hide
theorem Rh.hide {D : Addr} (r : Rh T K ρ (D :: ex) H h) (hx : D ∉ ex) : Rh T K ρ ex (Y.hide H D) h := by
  have nD : ∀ {n : Nat} {a : Addr}, ρ[n]? = some (some a) → a ≠ D := fun {n a} e z => (r.exs D List.mem_cons_self).2 ⟨n, by rw [← z]; exact e⟩
  refine ⟨r.len, r.inj, fun a ha => ⟨?_, (r.exs a (List.mem_cons_of_mem _ ha)).2⟩, fun n o p e1 e2 => ?_⟩
  · rw [hide_ne (fun z => hx (by rw [← z]; exact ha))]
    exact (r.exs a (List.mem_cons_of_mem _ ha)).1
  · have q := r.ob n o p e1 e2
    cases o with
    | gone => exact q
    | lst l =>
      obtain ⟨a, vs, h1, h2, h3⟩ := q
      subst h1
      exact ⟨a, vs, rfl, by rw [hide_ne (nD e2)]; exact h2, Rvs.hide _ _ h3⟩
    | dct l =>
      obtain ⟨a, vs, h1, h2, h3⟩ := q
      subst h1
      exact ⟨a, vs, rfl, by rw [hide_ne (nD e2)]; exact h2, Rks.hide _ _ h3⟩
    | ldct l =>
      obtain ⟨a, o, vs, h1, h2, h3⟩ := q
      subst h1
      exact ⟨a, o, vs, rfl, by rw [hide_ne (nD e2)]; exact h2, Rks.hide _ _ h3⟩
    | ins c fs =>
      obtain ⟨a, C, dx, gs, h1, h2, h3, h4, h5⟩ := q
      subst h1
      exact ⟨a, C, dx, gs, rfl, by rw [hide_ne (nD e2)]; exact h2, h3, h4, h5.hide⟩
theorem Kp.hide {ρ' : Pl} {H' : Hp} {D : Addr} (k : Kp ρ H ρ' H') (hD : H D = none) : Kp ρ H ρ' (Y.hide H' D) :=
  ⟨⟨k.up, fun a o e n => by rw [hide_ne (ne_of_none e hD)]; exact k.keep a o e n, k.new⟩, fun a o u e => by rw [hide_ne (ne_of_none e hD)]; exact k.fz a o u e⟩
def W0 : WX := fun _ _ _ _ => False
theorem takesW0 {X : Cx} : Takes X W0 := takes0
theorem Fin.calm {α : Type} {r : R α} {k : α → VH → Pl → Hp → Prop} {σ : L2.St} (f : Fin T K W ρ ex σ H r.calm k) : ∃ a h', r = .ok a h' ∧ Fin T K W0 ρ ex σ H r k := by
  cases r with
  | ok a h' => exact ⟨a, h', rfl, f⟩
  | exc _ _ _ => exact f.elim
  | bad => exact f.elim
theorem Rh.lay {D : Addr} {o : HO} (r : Rh T K ρ ex H h) (hD : H D = none) : Rh T K ρ (D :: ex) (upd H D o) h := by
  have f := r.fresh hD
  have rl := r.laid (o := o) hD
  refine ⟨rl.len, rl.inj, fun a ha => ?_, fun n u p e1 e2 => (r.ob n u p e1 e2).mono (Kp.laid hD) (fun a ha => (List.mem_cons.mp ha).elim (fun z => .inr (by rw [z]; exact hD)) .inl) fun a ea => ?_⟩
  · rcases List.mem_cons.mp ha with z | z
    · subst z; exact ⟨(by rw [upd_same]; exact fun z => by cases z), f.1⟩
    · exact rl.exs a z
  · subst ea
    obtain ⟨w, eu⟩ := r.has ⟨n, e2⟩
    exact upd_ne (ne_of_none eu hD)
theorem upd_hide {D : Addr} {o : HO} : upd (Y.hide H D) D o = upd H D o := by
  funext b
  by_cases h : b = D
  · subst h; rw [upd_same, upd_same]
  · rw [upd_ne h, upd_ne h, hide_ne h]
theorem laidx {D : Addr} : ∀ a ∈ D :: ex, a ∈ ex ∨ Y.hide H D a = none := fun a ha => (List.mem_cons.mp ha).elim (fun z => .inr (by rw [z]; exact hide_same)) .inl
theorem Rvs.over {D : Addr} {o : HO} {l : List PV} {vs : List V} (r : Rvs K ρ (D :: ex) H l vs) : Rvs K ρ (D :: ex) (upd H D o) l vs := by
  rw [← upd_hide]
  exact Rvs.mono (Kp.laid hide_same) laidx _ _ (Rvs.hide _ _ r)
theorem Rks.over {D : Addr} {o : HO} {l : List (PV × PV)} {vs : List (Key × V)} (r : Rks K ρ (D :: ex) H l vs) : Rks K ρ (D :: ex) (upd H D o) l vs := by
  rw [← upd_hide]
  exact Rks.mono (Kp.laid hide_same) laidx _ _ (Rks.hide _ _ r)
theorem Rv.over {D : Addr} {o : HO} {l : PV} {vs : V} (r : Rv K ρ (D :: ex) H l vs) : Rv K ρ (D :: ex) (upd H D o) l vs := by
  rw [← upd_hide]
  exact Rv.mono (Kp.laid hide_same) laidx _ _ (Rv.hide _ _ r)
theorem Rh.over {D : Addr} {o : HO} (r : Rh T K ρ (D :: ex) H h) (hx : D ∉ ex) : Rh T K ρ (D :: ex) (upd H D o) h := by
  rw [← upd_hide]
  exact (r.hide hx).lay hide_same
theorem Kp.over {ρ' : Pl} {H' : Hp} {D : Addr} {o : HO} (k : Kp ρ H ρ' H') (hD : H D = none) : Kp ρ H ρ' (upd H' D o) :=
  ⟨⟨k.up, fun a u e n => by rw [upd_ne (ne_of_none e hD)]; exact k.keep a u e n, k.new⟩, fun a o' u e => by rw [upd_ne (ne_of_none e hD)]; exact k.fz a o' u e⟩
/-- a turn's outcome, whatever waits behind: the rest of the loop -/
theorem rd_lc {it : IM} {tg : GM} {t : TM} {e : EM} {own : List Nat} {σ : L2.St} {H : Hp} {Q : VK} (h : rdL T K W (mLc it tg t e own) σ H Q) : tLc (rdI T K W it) (rdG T K own tg) (rdT T K W0 t) (rdE T K W0 e) own σ H Q := by
  obtain ⟨ρ, ex, sl, hp, rs, rh, q⟩ := h
  refine ⟨ρ, ex, sl, hp, rs, rh, q.bnd.imp fun vs h1 ρ1 H1 k1 rh1 q1 J wk D hD => ?_⟩
  have rs1 := rs.mono k1 noex
  have nDx : D ∉ ex := fun z => (rh1.exs D z).1 hD
  -- the word: behind i turns
  refine ⟨fun i m H2 => m = vs.length - i ∧ i ≤ vs.length ∧ ∃ ρ2 acc accV h2, Kp ρ1 H1 ρ2 H2 ∧ Rh T K ρ2 (D :: ex) H2 h2 ∧ H2 D = some (.lst accV) ∧ accV.length ≤ line ∧ Rvs K ρ2 (D :: ex) H2 acc accV ∧
      Fin T K W ρ1 ex σ H1 (lcLoop tg t e (Y.wipe sl own) (vs.drop i) acc h2) (fun l _ ρ' H' => ∀ p xs H3, H' p = none → H3 = upd H' p (.lst xs) → xs.length ≤ line → Rvs K ρ' ex H' l xs → Q (.ref p) H3), ⟨vs.length, ?_⟩, ?_⟩
  · have f := rh1.fresh hD
    refine ⟨by simp, Nat.zero_le _, ρ1, [], [], h1, Kp.laid hD, ?_, upd_same, Nat.zero_le _, .nil, q1⟩
    exact rh1.lay hD
  · rintro i m H2 ⟨em, hi, ρ2, acc, accV, h2, k2, rh2, hD2, hl2, racc, fin⟩
    have hx2 : ∀ a ∈ D :: ex, a ∈ ex ∨ H1 a = none := fun a ha => (List.mem_cons.mp ha).elim (fun z => .inr (by rw [z]; exact hD)) .inl
    obtain ⟨wstop, wgo⟩ := wk ρ2 H2 (D :: ex) k2 hx2 i
    by_cases hlt : i < vs.length
    · obtain ⟨go, yld⟩ := wgo vs[i] (List.getElem?_eq_getElem hlt)
      have ed : vs.drop i = vs[i] :: vs.drop (i + 1) := List.drop_eq_getElem_cons hlt
      rw [ed] at fin
      unfold lcLoop at fin
      refine .inr ⟨go, fun H' => ∃ ρ2 acc accV h2, Kp ρ1 H1 ρ2 H' ∧ Rh T K ρ2 (D :: ex) H' h2 ∧ H' D = some (.lst accV) ∧ accV.length ≤ line ∧ Rvs K ρ2 (D :: ex) H' acc accV ∧
        Fin T K W ρ1 ex σ H1 (lcLoop tg t e (Y.wipe sl own) (vs.drop (i + 1)) acc h2) (fun l _ ρ' H' => ∀ p xs H3, H' p = none → H3 = upd H' p (.lst xs) → xs.length ≤ line → Rvs K ρ' ex H' l xs → Q (.ref p) H3),
        fun H' hn => ⟨vs.length - (i + 1), by omega, rfl, by omega, hn⟩, fun x H3 hy => ?_⟩
      obtain ⟨k3, d3, r3, v3⟩ := yld x H3 hy
      have rh3 := r3 h2 rh2
      have rx := v3 h2 rh2
      have racc3 := Rvs.mono k3 noex _ _ racc
      have hD3 := d3 D _ hD2
      have k13 := k2.trans k3
      have rsw : Rst K ρ2 (D :: ex) H3 (Y.wipe sl own) (L2.wipe σ own) := (rs1.mono k13 hx2).wipe own
      cases eg : tg vs[i] (Y.wipe sl own) h2 with
      | none => simp only [eg] at fin; exact fin.elim
      | some p =>
        obtain ⟨sl4, h4⟩ := p
        simp only [eg] at fin
        refine ⟨ρ2, D :: ex, Y.wipe sl own, h2, _, sl4, h4, rsw, rh3, rx, eg, fun ρ4 H4 σ4 k4 rh4 rs4 o4 => ⟨o4.wipe, ?_⟩⟩
        have k14 := k13.trans k4
        have hx4 : ∀ a ∈ D :: ex, a ∈ ex ∨ H1 a = none := hx2
        have nD4 := (rh4.exs D List.mem_cons_self).2
        have hD4 := k4.keep D _ hD3 (rh3.exs D List.mem_cons_self).2
        have racc4 := Rvs.mono k4 noex _ _ racc3
        refine ⟨ρ4, D :: ex, sl4, h4, rs4, rh4, ?_⟩
        cases et : t sl4 h4 with
        | bad => rw [et] at fin; exact fin.elim
        | exc c fs h5 => rw [et] at fin; exact fin.elim
        | ok b h5 =>
          rw [et] at fin
          intro ρ5 H5 k5 rh5
          have hD5 := k5.keep D _ hD4 nD4
          have racc5 := Rvs.mono k5 noex _ _ racc4
          have nD5 := (rh5.exs D List.mem_cons_self).2
          have fin : Fin T K W ρ1 ex σ H1 (if b = true then ((e sl4 h5).calm).bnd fun y h3 => if Nat.blt acc.length line then lcLoop tg t e (Y.wipe sl own) (vs.drop (i + 1)) (acc ++ [y]) h3 else .bad
            else lcLoop tg t e (Y.wipe sl own) (vs.drop (i + 1)) acc h5) _ := fin
          cases b with
          | false =>
            rw [if_neg (by decide)] at fin
            simp only [Bool.false_eq_true, if_false]
            exact ⟨ρ5, acc, accV, h5, k14.trans k5, rh5, hD5, hl2, racc5, fin⟩
          | true =>
            rw [if_pos rfl] at fin
            simp only [if_true]
            refine ⟨ρ5, D :: ex, sl4, h5, rs4.mono k5 noex, rh5, ?_⟩
            cases ee : e sl4 h5 with
            | bad => rw [ee] at fin; exact fin.elim
            | exc c fs h6 => rw [ee] at fin; exact fin.elim
            | ok y h6 =>
              rw [ee] at fin
              intro ρ6 H6 k6 rh6 yv ry
              have hD6 := k6.keep D _ hD5 nD5
              have racc6 := Rvs.mono k6 noex _ _ racc5
              have fin : Fin T K W ρ1 ex σ H1 (if Nat.blt acc.length line then lcLoop tg t e (Y.wipe sl own) (vs.drop (i + 1)) (acc ++ [y]) h6 else .bad) _ := fin
              split at fin
              · rename_i hb
                have hb : acc.length < line := Nat.blt_eq.mp hb
                have el := racc.length
                refine ⟨accV, hD6, by rw [← line_eq, ← el]; exact hb, ρ6, acc ++ [y], accV ++ [yv], h6, ((k14.trans k5).trans k6).over hD, rh6.over nDx, upd_same, ?_, (racc6.snoc ry).over, ?_⟩
                · rw [List.length_append, ← el]; exact hb
                · exact fin
              · exact fin.elim
    · have ei : i = vs.length := by omega
      have ed : vs.drop i = [] := List.drop_eq_nil_of_le (by omega)
      rw [ed] at fin
      refine .inl ⟨wstop (by omega), ?_⟩
      have fin : ∀ ρ' H', Kp ρ1 H1 ρ' H' → Rh T K ρ' ex H' h2 → ∀ p xs H3, H' p = none → H3 = upd H' p (.lst xs) → xs.length ≤ line → Rvs K ρ' ex H' acc xs → Q (.ref p) H3 := fin
      exact fin ρ2 (Y.hide H2 D) (k2.hide hD) (rh2.hide nDx) D accV H2 hide_same (hide_upd hD2).symm hl2 (Rvs.hide _ _ racc)
end
end Y

set_option maxHeartbeats 1000000
namespace Y
open PySem PySem.Spec PyProof.Rows L2
/-! ### what a def's body may lean on -/
structure Ctx (X : Cx) (T : Tab) (W : WX) (L : Nat) : Prop where
  hc : X.calm = true
  hN : X.N.Nodup
  room : Room L X.A
  tk : Takes X W
  tok : T.Ok X.K
  hp : PassesOwn (model X.prog X.w) X.A X.env X.xe
section
variable {X : Cx} {T : Tab} {W : WX} {L : Nat}
theorem Ctx.hu (c : Ctx X T W L) : X.A.units + 65 < cLine := by have := c.room.un; omega
theorem Ctx.blk (c : Ctx X T W L) {s : Shared} {H : Hp} {sc : Scope} {e : Env} {fp : List Addr} : Ctx (X.blk s H sc e fp) T W0 L :=
  ⟨c.hc, c.hN, c.room, takesW0, c.tok, PassesOwn.never⟩
/-- a def that can be called: its name, what it does, how deep -/
structure Cal (P : Program) (w : World) (K : PySem.W.Frag) (mg : Str → Option Value) (base : Heap) (T : Tab) (k : Nat) (x : Str) (F : Fn) : Prop where
  ex : ∃ f fd ps, FnOk P w K mg base (L2.CX P w) k f fd ps (spF T K F) ∧ mg x = some (.ref f) ∧ PySem.W.keepIn K (.ref f) = true ∧ Binds K fd ps []
/-! #### expressions -/
theorem v (i : Nat) {x : Str} {pos : Pos} (hN : X.N[i]? = some x := by rfl) (hv : Vis X.env.scope x := by first | exact Or.inl rfl | exact Or.inr (Or.inl rfl) | exact Or.inr (Or.inr rfl)) (hd : (x == ("__debug__" : Str)) = false := by decide)
    (hcd : (x == ("__classdict__" : Str)) = false := by decide) : PE X (.Name x pos) (rdE T X.K W (mVar i)) := e_var hN hv hd hcd
/-- a value of the top -/
def Glb (K : PySem.W.Frag) (mg : Str → Option Value) (x : Str) (v : PV) : Prop := ∃ u z, mg x = some u ∧ RelV z u ∧ ∀ ρ ex H, Rv K ρ ex H v z
theorem glb {x : Str} {v : PV} {pos : Pos} (g : Glb X.K X.mg x v) (hg : Gl X x := by rfl) (hd : (x == ("__debug__" : Str)) = false := by decide) : PE X (.Name x pos) (rdE T X.K W (mC v)) := by
  refine ⟨fun pins s σ H Q I h => ?_⟩
  obtain ⟨u, z, hm, r, rv⟩ := g
  obtain ⟨ρ, ex, sl, hp, rs, rh, q⟩ := h
  exact (pe_glob hg hm r hd).run pins s σ H Q I (q ρ H (Kp.refl _ _) rh z (rv ρ ex H))
theorem bin (op : Operator) {a b : Expr} {ma mb : EM} {pos : Pos} (ha : PE X a (rdE T X.K W ma)) (hb : PE X b (rdE T X.K W mb)) : PE X (.BinOp a op b pos) (rdE T X.K W (mOp2 (binO op) ma mb)) := e_op2 (o_bin op) ha hb
def negO (x : PV) (_ : VH) : Option PV := match x with
  | .int i => some (.int (-i))
  | _ => none
theorem neg {a : Expr} {ma : EM} {pos : Pos} (ha : PE X a (rdE T X.K W ma)) : PE X (.UnaryOp .USub a pos) (rdE T X.K W (mOp1 negO ma)) := by
  refine imE (pe_un un_neg ha) fun σ H Q h => ?_
  obtain ⟨ρ, ex, sl, hp, rs, rh, q⟩ := h
  refine ⟨ρ, ex, sl, hp, rs, rh, q.bnd.imp fun u h1 ρ1 H1 k1 rh1 q1 x rx => ?_⟩
  obtain ⟨w, e, q3⟩ := q1.retO
  cases u with
  | int i => cases rx; cases e; exact ⟨i, rfl, q3 ρ1 H1 (Kp.refl _ _) rh1 _ (.int _)⟩
  | _ => cases e
theorem cmp (c : Ctx X T W L) (op : CmpOp) {a b : Expr} {ma mb : EM} {pos : Pos} (ha : PE X a (rdE T X.K W ma)) (hb : PE X b (rdE T X.K W mb)) (hm : behindInMarks op b = false := by first | exact nomark _ | rfl) : PE X (.Compare a [op] [b] pos) (rdE T X.K W (mOp2 (cmpV op) ma mb)) := e_cmp (o_cmp op c.hu) ha hb hm
theorem tcmp (c : Ctx X T W L) (op : CmpOp) {a b : Expr} {ma mb : EM} {pos : Pos} (ha : PE X a (rdE T X.K W ma)) (hb : PE X b (rdE T X.K W mb)) (hm : behindInMarks op b = false := by first | exact nomark _ | rfl) : PT X (.Compare a [op] [b] pos) (rdT T X.K W (mTest (mOp2 (cmpV op) ma mb))) := t_cmp (o_cmp op c.hu) ha hb hm
theorem ix (c : Ctx X T W L) {a b : Expr} {ma mb : EM} {pos : Pos} (ha : PE X a (rdE T X.K W ma)) (hb : PE X b (rdE T X.K W mb)) (hs : PlainIx b := by intro _ _; rfl) : PE X (.Subscript a b pos) (rdE T X.K W (mOp2 ixO ma mb)) :=
  e_ix (o_ix (Nat.lt_of_le_of_lt (Nat.add_le_add_left (by decide) _) c.hu)) ha hb hs
theorem sl {e : Expr} {lo hi : Option Expr} {p2 pos : Pos} {m : EM} {l u : OM} (he : PE X e (rdE T X.K W m)) (hl : PO X lo (rdO T X.K W l)) (hu : PO X hi (rdO T X.K W u)) : PE X (.Subscript e (.Slice lo hi none p2) pos) (rdE T X.K W (mSl m l u)) := e_sl o_sl he hl hu
/-! #### arguments -/
theorem ac {e : Expr} {es : List Expr} {m : EM} {r : AM} (ha : PE X e (rdE T X.K W m)) (hr : PA X es (rdA T X.K W r)) (hs : starEach (e :: es) X.env = (false, eval e X.env) :: starEach es X.env := by rfl) : PA X (e :: es) (rdA T X.K W (mCons m r)) := e_cons ha hr hs
theorem an : PA X [] (rdA T X.K W mNil) := e_nil
theorem tup {es : List Expr} {n : Nat} {pos : Pos} {m : AM} (h : PA X es (rdA T X.K W m)) : PE X (.Tuple es n pos) (rdE T X.K W (mTup m)) := e_tup h
theorem lstF {es : List Expr} {pos : Pos} {m : AM} (h : PA X es (rdA T X.K W m)) : PE X (.List es pos) (rdE T X.K W (mFz (mNewL m))) := e_fz (e_lst h)
theorem lstR {es : List Expr} {pos : Pos} {m : AM} (h : PA X es (rdA T X.K W m)) : PE X (.List es pos) (rdE T X.K W (mReg (mNewL m))) := e_reg (e_lst h)
/-! #### calls -/
theorem call (c : Ctx X T W L) {x : Str} {p pos : Pos} {e : Expr} {es : List Expr} {k : Nat} {F : Fn} {m : AM} (G : Cal X.prog X.w X.K X.mg X.base T k x F) (ha : PA X (e :: es) (rdA T X.K W m)) (hk : k ≤ L := by decide) (hg : Gl X x := by rfl)
    (hdb : (x == ("__debug__" : Str)) = false := by decide) (he : starEach (e :: es) X.env = (false, eval e X.env) :: starEach es X.env := by rfl) (hpl : (backTo pos (starEach es X.env)).any (·.1) = false := by rfl) : PE X (.Call (.Name x p) (e :: es) [] pos) (rdE T X.K W (mCall F m)) := by
  obtain ⟨f, fd, ps, FO, hm, hkp, hb⟩ := G.ex
  exact e_call FO (c.room.mono hk) hg hm hkp hb c.tk ha hdb he hpl
theorem bi {x : Str} {p pos : Pos} {e : Expr} {es : List Expr} {F : List PV → VH → Option PV} {m : AM} {id : String} (hr : CallR X (.builtin id) (rOA T X.K F)) (hv : bootBuiltins x = some (.builtin id)) (hm : X.mg x = none) (ha : PA X (e :: es) (rdA T X.K W m)) (hg : Gl X x := by rfl) (hn : x ≠ "__name__" := by decide)
    (hdb : (x == ("__debug__" : Str)) = false := by decide) (he : starEach (e :: es) X.env = (false, eval e X.env) :: starEach es X.env := by rfl) (hpl : (backTo pos (starEach es X.env)).any (·.1) = false := by rfl) : PE X (.Call (.Name x p) (e :: es) [] pos) (rdE T X.K W (mBi F m)) :=
  imE (pe_callB hr hg hm hv ha hn hdb he hpl) fun _ _ _ h => rd_bi h
end
end Y

set_option maxHeartbeats 1000000
namespace Y
open PySem PySem.Spec PyProof.Rows L2
section
variable {X : Cx} {T : Tab} {W : WX} {L : Nat}
/-- T(..), T a built-in type -/
theorem ty {x : Str} {p pos : Pos} {e : Expr} {es : List Expr} {F : List PV → VH → Option PV} {m : AM} {id : String} (hr : CallR X (.type id) (rOA T X.K F)) (hv : bootBuiltins x = some (.type id)) (hm : X.mg x = none) (ha : PA X (e :: es) (rdA T X.K W m)) (hg : Gl X x := by rfl) (hn : x ≠ "__name__" := by decide)
    (hdb : (x == ("__debug__" : Str)) = false := by decide) (he : starEach (e :: es) X.env = (false, eval e X.env) :: starEach es X.env := by rfl) (hpl : (backTo pos (starEach es X.env)).any (·.1) = false := by rfl) : PE X (.Call (.Name x p) (e :: es) [] pos) (rdE T X.K W (mBi F m)) :=
  imE (pe_callTy hr hg hm hv ha hn hdb he hpl) fun _ _ _ h => rd_bi h
theorem tyL {x : Str} {p pos : Pos} {e : Expr} {es : List Expr} {F : List PV → VH → Option (List PV)} {m : AM} {id : String} (hr : CallR X (.type id) (rOL T X.K F)) (hv : bootBuiltins x = some (.type id)) (hm : X.mg x = none) (ha : PA X (e :: es) (rdA T X.K W m)) (hg : Gl X x := by rfl) (hn : x ≠ "__name__" := by decide)
    (hdb : (x == ("__debug__" : Str)) = false := by decide) (he : starEach (e :: es) X.env = (false, eval e X.env) :: starEach es X.env := by rfl) (hpl : (backTo pos (starEach es X.env)).any (·.1) = false := by rfl) : PE X (.Call (.Name x p) (e :: es) [] pos) (rdL T X.K W (mBiL F m)) :=
  imE (pe_callTy hr hg hm hv ha hn hdb he hpl) fun _ _ _ h => rd_bil h
section
variable {p pos : Pos} {e : Expr} {es : List Expr} {m : AM}
theorem biLen (hm : X.mg "len" = none) (ha : PA X (e :: es) (rdA T X.K W m)) (hg : Gl X "len" := by rfl) (he : starEach (e :: es) X.env = (false, eval e X.env) :: starEach es X.env := by rfl) (hpl : (backTo pos (starEach es X.env)).any (·.1) = false := by rfl) : PE X (.Call (.Name "len" p) (e :: es) [] pos) (rdE T X.K W (mBi bLen m)) :=
  bi b_len PySem.boot_len hm ha hg (by decide) (by decide) he hpl
theorem biOrd (hm : X.mg "ord" = none) (ha : PA X (e :: es) (rdA T X.K W m)) (hg : Gl X "ord" := by rfl) (he : starEach (e :: es) X.env = (false, eval e X.env) :: starEach es X.env := by rfl) (hpl : (backTo pos (starEach es X.env)).any (·.1) = false := by rfl) : PE X (.Call (.Name "ord" p) (e :: es) [] pos) (rdE T X.K W (mBi bOrd m)) :=
  bi b_ord (by decide +kernel) hm ha hg (by decide) (by decide) he hpl
theorem biAbs (hm : X.mg "abs" = none) (ha : PA X (e :: es) (rdA T X.K W m)) (hg : Gl X "abs" := by rfl) (he : starEach (e :: es) X.env = (false, eval e X.env) :: starEach es X.env := by rfl) (hpl : (backTo pos (starEach es X.env)).any (·.1) = false := by rfl) : PE X (.Call (.Name "abs" p) (e :: es) [] pos) (rdE T X.K W (mBi bAbs m)) :=
  bi b_abs (by decide +kernel) hm ha hg (by decide) (by decide) he hpl
theorem biSum (c : Ctx X T W L) (hm : X.mg "sum" = none) (ha : PA X (e :: es) (rdA T X.K W m)) (hg : Gl X "sum" := by rfl) (he : starEach (e :: es) X.env = (false, eval e X.env) :: starEach es X.env := by rfl) (hpl : (backTo pos (starEach es X.env)).any (·.1) = false := by rfl) : PE X (.Call (.Name "sum" p) (e :: es) [] pos) (rdE T X.K W (mBi bSum m)) :=
  bi (b_sum c.hc) (by decide +kernel) hm ha hg (by decide) (by decide) he hpl
theorem biAny (c : Ctx X T W L) (hm : X.mg "any" = none) (ha : PA X (e :: es) (rdA T X.K W m)) (hg : Gl X "any" := by rfl) (he : starEach (e :: es) X.env = (false, eval e X.env) :: starEach es X.env := by rfl) (hpl : (backTo pos (starEach es X.env)).any (·.1) = false := by rfl) : PE X (.Call (.Name "any" p) (e :: es) [] pos) (rdE T X.K W (mBi bAny m)) :=
  bi (b_any c.hc) (by decide +kernel) hm ha hg (by decide) (by decide) he hpl
theorem biAll (c : Ctx X T W L) (hm : X.mg "all" = none) (ha : PA X (e :: es) (rdA T X.K W m)) (hg : Gl X "all" := by rfl) (he : starEach (e :: es) X.env = (false, eval e X.env) :: starEach es X.env := by rfl) (hpl : (backTo pos (starEach es X.env)).any (·.1) = false := by rfl) : PE X (.Call (.Name "all" p) (e :: es) [] pos) (rdE T X.K W (mBi bAll m)) :=
  bi (b_all c.hc) (by decide +kernel) hm ha hg (by decide) (by decide) he hpl
theorem biInt (hm : X.mg "int" = none) (ha : PA X (e :: es) (rdA T X.K W m)) (hg : Gl X "int" := by rfl) (he : starEach (e :: es) X.env = (false, eval e X.env) :: starEach es X.env := by rfl) (hpl : (backTo pos (starEach es X.env)).any (·.1) = false := by rfl) : PE X (.Call (.Name "int" p) (e :: es) [] pos) (rdE T X.K W (mBi bInt m)) :=
  ty b_int (by decide +kernel) hm ha hg (by decide) (by decide) he hpl
theorem biStr (hm : X.mg "str" = none) (ha : PA X (e :: es) (rdA T X.K W m)) (hg : Gl X "str" := by rfl) (he : starEach (e :: es) X.env = (false, eval e X.env) :: starEach es X.env := by rfl) (hpl : (backTo pos (starEach es X.env)).any (·.1) = false := by rfl) : PE X (.Call (.Name "str" p) (e :: es) [] pos) (rdE T X.K W (mBi bStr m)) :=
  ty b_str (by decide +kernel) hm ha hg (by decide) (by decide) he hpl
theorem biTuple (hm : X.mg "tuple" = none) (ha : PA X (e :: es) (rdA T X.K W m)) (hg : Gl X "tuple" := by rfl) (he : starEach (e :: es) X.env = (false, eval e X.env) :: starEach es X.env := by rfl) (hpl : (backTo pos (starEach es X.env)).any (·.1) = false := by rfl) : PE X (.Call (.Name "tuple" p) (e :: es) [] pos) (rdE T X.K W (mBi bTuple m)) :=
  ty b_tuple (by decide +kernel) hm ha hg (by decide) (by decide) he hpl
theorem biListF (hm : X.mg "list" = none) (ha : PA X (e :: es) (rdA T X.K W m)) (hg : Gl X "list" := by rfl) (he : starEach (e :: es) X.env = (false, eval e X.env) :: starEach es X.env := by rfl) (hpl : (backTo pos (starEach es X.env)).any (·.1) = false := by rfl) : PE X (.Call (.Name "list" p) (e :: es) [] pos) (rdE T X.K W (mFz (mBiL bList m))) :=
  e_fz (tyL b_list (by decide +kernel) hm ha hg (by decide) (by decide) he hpl)
theorem biListR (hm : X.mg "list" = none) (ha : PA X (e :: es) (rdA T X.K W m)) (hg : Gl X "list" := by rfl) (he : starEach (e :: es) X.env = (false, eval e X.env) :: starEach es X.env := by rfl) (hpl : (backTo pos (starEach es X.env)).any (·.1) = false := by rfl) : PE X (.Call (.Name "list" p) (e :: es) [] pos) (rdE T X.K W (mReg (mBiL bList m))) :=
  e_reg (tyL b_list (by decide +kernel) hm ha hg (by decide) (by decide) he hpl)
end
theorem isiS {p p2 pos : Pos} {e : Expr} {m : EM} (hm : X.mg "isinstance" = none) (hmt : X.mg "str" = none) (he : PE X e (rdE T X.K W m)) (hg : Gl X "isinstance" := by rfl) (hgt : Gl X "str" := by rfl)
    (hs : starEach [e, .Name "str" p2] X.env = (false, eval e X.env) :: starEach [.Name "str" p2] X.env := by rfl) : PE X (.Call (.Name "isinstance" p) [e, .Name "str" p2] [] pos) (rdE T X.K W (mIsi "str" m)) :=
  e_isi (t := "str") hg hm hgt hmt (by decide +kernel) (by decide) (by decide) he hs
theorem isiT {p p2 pos : Pos} {e : Expr} {m : EM} (hm : X.mg "isinstance" = none) (hmt : X.mg "tuple" = none) (he : PE X e (rdE T X.K W m)) (hg : Gl X "isinstance" := by rfl) (hgt : Gl X "tuple" := by rfl)
    (hs : starEach [e, .Name "tuple" p2] X.env = (false, eval e X.env) :: starEach [.Name "tuple" p2] X.env := by rfl) : PE X (.Call (.Name "isinstance" p) [e, .Name "tuple" p2] [] pos) (rdE T X.K W (mIsi "tuple" m)) :=
  e_isi (t := "tuple") hg hm hgt hmt (by decide +kernel) (by decide) (by decide) he hs
/-! #### methods of built-ins -/
theorem bok_append : BOk X T "append" bAppend "list" := ⟨by decide, _, PySem.F.plainAttrs_list, PySem.F.slot_list_append, PySem.F.type_list_append, m_append⟩
theorem bok_popL : BOk X T "pop" bPop "list" := ⟨by decide, _, PySem.F.plainAttrs_list, PySem.F.slot_list_pop, PySem.F.type_list_pop, m_popL⟩
theorem bok_popD (c : Ctx X T W L) : BOk X T "pop" bPop "dict" := ⟨by decide, _, PySem.F.plainAttrs_dict, PySem.F.slot_dict_pop, PySem.F.type_dict_pop, m_popD⟩
theorem bok_get (c : Ctx X T W L) : BOk X T "get" bGet "dict" := ⟨by decide, _, PySem.F.plainAttrs_dict, PySem.F.slot_dict_get, PySem.F.type_dict_get, m_get (by have := c.hu; omega)⟩
theorem bok_setdefault : BOk X T "setdefault" bSetdefault "dict" := ⟨by decide, _, PySem.F.plainAttrs_dict, PySem.F.slot_dict_setdefault, PySem.F.type_dict_setdefault, m_setdefault⟩
theorem bok_join : BOk X T "join" bJoin "str" := ⟨by decide, _, PySem.F.plainAttrs_str, PySem.F.slot_str_join, PySem.F.type_str_join, m_join⟩
abbrev noC : Nat → Option Fn := fun _ => none
/-- o.m(..), m a built-in's alone -/
theorem bm1 (c : Ctx X T W L) {m : Str} {B : Bm} {ks : List String} {o : Expr} {apos pos : Pos} {e : Expr} {es : List Expr} {mo : EM} {ma : AM} (hB : ∀ k ∈ ks, BOk X T m B k) (ho : PE X o (rdE T X.K W mo)) (ha : PA X (e :: es) (rdA T X.K W ma)) (pl : Sem Bool)
    (ht : eval (.Call (.Attribute o m apos) (e :: es) [] pos) X.env = (do
      let ov ← eval o X.env
      standAt apos.atName
      let (f, first) ← holding [ov] (getMethod ov m pl)
      callWith pos f first (backTo pos (starEach (e :: es) X.env)) (backToKw pos (keywordEach [] X.env))) := by rfl)
    (hst : starEach (e :: es) X.env = (false, eval e X.env) :: starEach es X.env := by rfl) (hpl : (backTo pos (starEach es X.env)).any (·.1) = false := by rfl)
    (hbase : attributeBase o m X.env (eval o X.env) = eval o X.env := by rfl)
    (hfew : ((backTo pos (starEach (e :: es) X.env)).all (fun x => !x.1) && (backToKw pos (keywordEach [] X.env)).all (fun x => x.1.isSome)
      && decide ((e :: es).length + ([] : List Keyword).length + (if ([] : List Keyword).isEmpty then 0 else 1) < 30)) = true := by rfl)
    (hline : (apos.endLine == pos.line) = true := by rfl) : PE X (.Call (.Attribute o m apos) (e :: es) [] pos) (rdE T X.K W (mMeth noC ks B mo ma)) :=
  e_meth (L := L) (fun _ _ z => nomatch z) c.room c.tok c.tk hB ho ha hst hpl ht hbase hfew hline
/-! #### what is walked, comprehensions -/
theorem it {tg e : Expr} {m : EM} (h : PE X e (rdE T X.K W m)) : PI X tg e (rdI T X.K W (mIter m)) := i_iter h
theorem len1 {m : EM} {sl : Sl} {h h' : VH} {vs : List PV} (e : mCons m mNil sl h = .ok vs h') : vs.length = 1 := by
  unfold mCons at e
  cases e1 : m sl h with
  | ok a h1 => rw [e1] at e; cases e; rfl
  | exc _ _ _ => rw [e1] at e; cases e
  | bad => rw [e1] at e; cases e
theorem len2 {m n : EM} {sl : Sl} {h h' : VH} {vs : List PV} (e : mCons m (mCons n mNil) sl h = .ok vs h') : vs.length = 2 := by
  unfold mCons at e
  cases e1 : m sl h with
  | ok a h1 =>
    rw [e1] at e
    cases e2 : n sl h1 with
    | ok b h2 =>
      have e : ((n sl h1).bnd fun x h1 => (mNil sl h1).bnd fun xs h2 => Y.R.ok (x :: xs) h2).bnd (fun xs h2 => Y.R.ok (a :: xs) h2) = Y.R.ok vs h' := e
      rw [e2] at e
      cases e
      rfl
    | exc _ _ _ =>
      have e : ((n sl h1).bnd fun x h1 => (mNil sl h1).bnd fun xs h2 => Y.R.ok (x :: xs) h2).bnd (fun xs h2 => Y.R.ok (a :: xs) h2) = Y.R.ok vs h' := e
      rw [e2] at e; cases e
    | bad =>
      have e : ((n sl h1).bnd fun x h1 => (mNil sl h1).bnd fun xs h2 => Y.R.ok (x :: xs) h2).bnd (fun xs h2 => Y.R.ok (a :: xs) h2) = Y.R.ok vs h' := e
      rw [e2] at e; cases e
  | exc _ _ _ => rw [e1] at e; cases e
  | bad => rw [e1] at e; cases e
theorem rng1 {tg a : Expr} {p pos : Pos} {m : EM} (hm : X.mg "range" = none) (ha : PE X a (rdE T X.K W m)) (hg : Gl X "range" := by rfl) (hs : starEach [a] X.env = [(false, eval a X.env)] := by rfl) : PI X tg (.Call (.Name "range" p) [a] [] pos) (rdI T X.K W (mRange (mCons m mNil))) :=
  i_range1 hg hm (ac ha an hs) hs fun _ _ _ _ e => len1 e
theorem rng2 {tg a b : Expr} {p pos : Pos} {m n : EM} (hm : X.mg "range" = none) (ha : PE X a (rdE T X.K W m)) (hb : PE X b (rdE T X.K W n)) (hg : Gl X "range" := by rfl) (hs : starEach [a, b] X.env = [(false, eval a X.env), (false, eval b X.env)] := by rfl)
    (hs2 : starEach [b] X.env = [(false, eval b X.env)] := by rfl) : PI X tg (.Call (.Name "range" p) [a, b] [] pos) (rdI T X.K W (mRange (mCons m (mCons n mNil)))) :=
  i_range2 hg hm (ac ha (ac hb an hs2) (hs.trans (by rw [hs2]))) hs hs2 fun _ _ _ _ e => len2 e
theorem yes : PTs X [] (rdT T X.K W mYes) := ⟨fun pins s σ H Q I h => pts_nil.run pins s σ H Q I (by
  obtain ⟨ρ, ex, sl, hp, rs, rh, q⟩ := h
  exact q ρ H (Kp.refl _ _) rh)⟩
theorem lc (c : Ctx X T W L) {elt tg iter : Expr} {ifs : List Expr} {scope : Scope} {own : List (Str × Nat)} {pos : Pos} {i : IM} {g : GM} {t : TM} {m : EM} (hi : PI X tg iter (rdI T X.K W i)) (ok : blkC X.N X.env.scope scope own = true)
    (hg : ∀ (s : Shared) (H : Hp) (C : Addr) (cl : List (Str × Addr)) (fp : List Addr), PG (X.blk s H scope (compEnvC scope cl C X.env) fp) tg (rdG T X.K (own.map (·.2)) g))
    (ht : ∀ (s : Shared) (H : Hp) (C : Addr) (cl : List (Str × Addr)) (fp : List Addr), PTs (X.blk s H scope (compEnvC scope cl C X.env) fp) ifs (rdT T X.K W0 t))
    (he : ∀ (s : Shared) (H : Hp) (C : Addr) (cl : List (Str × Addr)) (fp : List Addr), PE (X.blk s H scope (compEnvC scope cl C X.env) fp) elt (rdE T X.K W0 m)) (hs : ∀ x, foldedSetIterable iter X.env x = pure x := by intro _; rfl) :
    PE X (.ListComp elt [⟨tg, iter, ifs, 0⟩] scope pos) (rdL T X.K W (mLc i g t m (own.map (·.2)))) :=
  imE (pe_lc c.hc c.hN hi (blkOk_by ok) hg ht he hs) fun _ _ _ h => rd_lc h
theorem rd_regL {m : AM} {σ : L2.St} {H : Hp} {Q : VK} (h : rdE T X.K W (mReg m) σ H Q) : rdL T X.K W m σ H Q := by
  obtain ⟨ρ, ex, sl, hp, rs, rh, q⟩ := h
  refine ⟨ρ, ex, sl, hp, rs, rh, q.bnd.imp fun us h1 ρ1 H1 k1 rh1 q1 p xs H2 hp e hl rxs => ?_⟩
  subst e
  have k : Kp ρ1 H1 (ρ1 ++ [some p]) (upd H1 p (.lst xs)) := Kp.reg hp
  have e1 : (ρ1 ++ [some p])[h1.length]? = some (some p) := by
    rw [← rh1.len, List.getElem?_append_right (Nat.le_refl _), Nat.sub_self]; rfl
  exact q1 _ _ k (rh1.reg hp ⟨p, xs, rfl, upd_same, Rvs.mono k noex _ _ rxs⟩) _ (.ref e1)
theorem rd_fzL {m : AM} {σ : L2.St} {H : Hp} {Q : VK} (h : rdE T X.K W (mFz m) σ H Q) : rdL T X.K W m σ H Q := by
  obtain ⟨ρ, ex, sl, hp, rs, rh, q⟩ := h
  refine ⟨ρ, ex, sl, hp, rs, rh, q.bnd.imp fun us h1 ρ1 H1 k1 rh1 q1 p xs H2 hp e hl rxs => ?_⟩
  subst e
  have k : Kp ρ1 H1 ρ1 (upd H1 p (.lst xs)) := Kp.laid hp
  exact q1 ρ1 _ k (rh1.laid hp) _ (.lst upd_same (rh1.fresh hp) (Rvs.mono k noex _ _ rxs))
/-! #### tests -/
theorem tr {e : Expr} {m : EM} (h : PE X e (rdE T X.K W m)) (he : ∀ whole, isTrue e X.env whole = (do let v ← whole; standAt e.pos; holding [v] (truthy v)) := by intro _; rfl) : PT X e (rdT T X.K W (mTruth m)) := t_truth h he
theorem nt {a : Expr} {m : TM} {pos : Pos} (h : PT X a (rdT T X.K W m)) : PT X (.UnaryOp .Not a pos) (rdT T X.K W (mNot m)) := t_not h
theorem ta1 {a : Expr} {t : TM} {pos : Pos} (h : PT X a (rdT T X.K W t)) : PW X (.BoolOp .And [a] pos) (rdT T X.K W t) := pw_and1 h
theorem to1 {a : Expr} {t : TM} {pos : Pos} (h : PT X a (rdT T X.K W t)) : PW X (.BoolOp .Or [a] pos) (rdT T X.K W t) := pw_or1 h
theorem ta {a b : Expr} {rest : List Expr} {t u : TM} {pos : Pos} (ha : PT X a (rdT T X.K W t)) (hb : PW X (.BoolOp .And (b :: rest) pos) (rdT T X.K W u)) : PW X (.BoolOp .And (a :: b :: rest) pos) (rdT T X.K W (mAnd t u)) := imW (pw_and ha hb) fun _ _ _ h => rd_and h
theorem to {a b : Expr} {rest : List Expr} {t u : TM} {pos : Pos} (ha : PT X a (rdT T X.K W t)) (hb : PW X (.BoolOp .Or (b :: rest) pos) (rdT T X.K W u)) : PW X (.BoolOp .Or (a :: b :: rest) pos) (rdT T X.K W (mOr t u)) := imW (pw_or ha hb) fun _ _ _ h => rd_or h
theorem ife {c a b : Expr} {mc : TM} {ma mb : EM} {pos : Pos} (hc : PT X c (rdT T X.K W mc)) (ha : PE X a (rdE T X.K W ma)) (hb : PE X b (rdE T X.K W mb)) : PE X (.IfExp c a b pos) (rdE T X.K W (mIf mc ma mb)) := e_if hc ha hb
theorem if1 {c : Expr} {t : TM} (h : PT X c (rdT T X.K W t)) : PTs X [c] (rdT T X.K W t) := pts_one h
/-! #### targets -/
abbrev allS : List Nat := List.range 64
theorem gn (c : Ctx X T W L) (i : Nat) {x : Str} {pos : Pos} {own : List Nat} (hi : X.N[i]? = some x := by rfl) (hx : Loc X.env.scope x := by first | exact Or.inl rfl | exact Or.inr rfl)
    (hf : X.fn x = true ∨ X.env.scope.names.lookup x = some .local := by first | exact .inl rfl | exact .inr rfl) (ho : i ∈ own := by decide) : PG X (.Name x pos) (rdG T X.K own (tName i)) := g_name c.hN hi hx hf ho
theorem gnil {own : List Nat} : PGs X [] (rdGs T X.K own tNil) := gs_nil
theorem gcons {own : List Nat} {e : Expr} {es : List Expr} {g : GM} {gs : GMs} (h1 : PG X e (rdG T X.K own g)) (h2 : PGs X es (rdGs T X.K own gs)) (hs : (assignEach (e :: es) X.env).map (·.2) = assign e X.env :: (assignEach es X.env).map (·.2) := by rfl) : PGs X (e :: es) (rdGs T X.K own (tCons g gs)) := gs_cons h1 h2 hs
theorem gtup (c : Ctx X T W L) {own : List Nat} {es : List Expr} {k : Nat} {pos : Pos} {gs : GMs} (h : PGs X es (rdGs T X.K own gs)) (hst : (assignEach es X.env).findIdx? (·.1) = none := by rfl)
    (hlen : ∀ vs sl h' r, gs vs sl h' = some r → vs.length = (assignEach es X.env).length) : PG X (.Tuple es k pos) (rdG T X.K own (tTup gs)) := g_tup c.hc h hst hlen
theorem tcons_len {g : GM} {gs : GMs} {n : Nat} (h : ∀ vs sl h' r, gs vs sl h' = some r → vs.length = n) : ∀ vs sl h' r, tCons g gs vs sl h' = some r → vs.length = n + 1 := by
  intro vs sl h' r e
  unfold tCons at e
  split at e
  · split at e
    · rw [List.length_cons, h _ _ _ _ e]
    · cases e
  · cases e
theorem tnil_len : ∀ vs sl h' r, tNil vs sl h' = some r → vs.length = 0 := by
  intro vs sl h' r e
  unfold tNil at e
  split at e
  · rfl
  · cases e
theorem gsub (c : Ctx X T W L) {own : List Nat} {o i : Expr} {pos : Pos} {mo mi : EM} (ho : PE X o (rdE T X.K W mo)) (hi : PE X i (rdE T X.K W mi))
    (ha : ∀ v, assign (.Subscript o i pos) X.env v = (do
      let ov ← holding [v] (eval o X.env)
      let iv ← holding [v, ov] (eval i X.env)
      standAt pos
      holding [v, ov, iv] (setItem ov iv v)
      release [v, ov, iv] []) := by intro _; rfl) : PG X (.Subscript o i pos) (rdG T X.K own (tSub mo mi)) := g_sub (Nat.lt_of_le_of_lt (Nat.add_le_add_left (by decide) _) c.hu) ho hi ha
end
end Y

set_option maxHeartbeats 1000000
namespace Y
open PySem PySem.Spec PyProof.Rows L2
section
variable (T : Tab) (K : PySem.W.Frag) (W : WX) (ρ : Pl) (ex : List Addr) (H : Hp) (D : Ends)
/-- what a statement's end is worth -/
def FinS (r : RS) : Prop := match r with
  | .nx sl h => ∀ ρ' H' σ', Kp ρ H ρ' H' → Rh T K ρ' ex H' h → Rst K ρ' ex H' sl σ' → D.nx σ' H'
  | .ret v h => ∀ ρ' H' x, Kp ρ H ρ' H' → Rh T K ρ' ex H' h → Rv K ρ' ex H' v x → D.rt x H'
  | .brk sl h => ∀ ρ' H' σ', Kp ρ H ρ' H' → Rh T K ρ' ex H' h → Rst K ρ' ex H' sl σ' → D.bk σ' H'
  | .cnt sl h => ∀ ρ' H' σ', Kp ρ H ρ' H' → Rh T K ρ' ex H' h → Rst K ρ' ex H' sl σ' → D.ct σ' H'
  | .exc c fs sl h => ∀ ρ' H' σ' cls d, Kp ρ H ρ' H' → Rh T K ρ' ex H' h → Rst K ρ' ex H' sl σ' → Rx T K ρ' ex H' c fs cls d → W cls d σ' H'
  | .bad => False
end
def rdS (T : Tab) (K : PySem.W.Frag) (W : WX) (m : SM) : TS := fun D σ H => ∃ ρ ex sl h, Rst K ρ ex H sl σ ∧ Rh T K ρ ex H h ∧ FinS T K W ρ ex H D (m sl h)
section
variable {T : Tab} {K : PySem.W.Frag} {W : WX} {ρ ρ1 : Pl} {ex : List Addr} {H H1 : Hp} {D D' : Ends} {σ : L2.St} {sl : Sl} {h : VH}
theorem FinS.later {r : RS} (f : FinS T K W ρ ex H D r) (k : Kp ρ H ρ1 H1) : FinS T K W ρ1 ex H1 D r := by
  cases r with
  | nx sl h => exact fun ρ' H' σ' kp rh rs => f ρ' H' σ' (k.trans kp) rh rs
  | ret v h => exact fun ρ' H' σ' kp rh rs => f ρ' H' σ' (k.trans kp) rh rs
  | brk sl h => exact fun ρ' H' σ' kp rh rs => f ρ' H' σ' (k.trans kp) rh rs
  | cnt sl h => exact fun ρ' H' σ' kp rh rs => f ρ' H' σ' (k.trans kp) rh rs
  | exc c fs sl h => exact fun ρ' H' σ' cls d kp rh rs rx => f ρ' H' σ' cls d (k.trans kp) rh rs rx
  | bad => exact f
theorem FinS.thn {α : Type} {r : R α} {f : α → VH → RS} (rs : Rst K ρ ex H sl σ) (q : FinS T K W ρ ex H D (r.thn sl f)) : Fin T K W ρ ex σ H r fun a h1 ρ1 H1 => FinS T K W ρ1 ex H1 D (f a h1) := by
  cases r with
  | ok a h1 => exact fun ρ' H' kp rh => FinS.later q kp
  | exc c fs h1 => exact fun ρ' H' cls d kp rh rx => q ρ' H' σ cls d kp rh (rs.mono kp noex) rx
  | bad => exact q
/-- an end with other wishes -/
theorem FinS.other {W' : WX} {r : RS} (q : FinS T K W ρ ex H D r) (hn : ∀ sl h, r = .nx sl h → ∀ ρ' H' σ', Kp ρ H ρ' H' → Rh T K ρ' ex H' h → Rst K ρ' ex H' sl σ' → D.nx σ' H' → D'.nx σ' H') (hr : ∀ v H', D.rt v H' → D'.rt v H')
    (hb : ∀ σ' H', D.bk σ' H' → D'.bk σ' H') (hc : ∀ σ' H', D.ct σ' H' → D'.ct σ' H') (he : ∀ cls d σ' H', W cls d σ' H' → W' cls d σ' H') : FinS T K W' ρ ex H D' r := by
  cases r with
  | nx sl h => exact fun ρ' H' σ' kp rh rs => hn _ _ rfl _ _ _ kp rh rs (q ρ' H' σ' kp rh rs)
  | ret v h => exact fun ρ' H' σ' kp rh rs => hr _ _ (q ρ' H' σ' kp rh rs)
  | brk sl h => exact fun ρ' H' σ' kp rh rs => hb _ _ (q ρ' H' σ' kp rh rs)
  | cnt sl h => exact fun ρ' H' σ' kp rh rs => hc _ _ (q ρ' H' σ' kp rh rs)
  | exc c fs sl h => exact fun ρ' H' σ' cls d kp rh rs rx => he _ _ _ _ (q ρ' H' σ' cls d kp rh rs rx)
  | bad => exact q
end
section
variable {X : Cx} {T : Tab} {K : PySem.W.Frag} {W : WX} {L : Nat}
theorem imS {st : Stmt} {t t' : TS} (h : PS X st t) (f : ∀ D σ H, t' D σ H → t D σ H) : PS X st t' := ⟨fun pins s σ H D I q => h.run pins s σ H D I (f D σ H q)⟩
theorem imSs {st : List Stmt} {t t' : TS} (h : PSs X st t) (f : ∀ D σ H, t' D σ H → t D σ H) : PSs X st t' := ⟨fun pins s σ H D I q => h.run pins s σ H D I (f D σ H q)⟩
theorem nil : PSs X [] (rdS T X.K W sSkip) := imSs pss_nil fun D σ H h => by
  obtain ⟨ρ, ex, sl, hp, rs, rh, q⟩ := h
  exact q ρ H σ (Kp.refl _ _) rh rs
theorem cons {st : Stmt} {rest : List Stmt} {a b : SM} (h1 : PS X st (rdS T X.K W a)) (h2 : PSs X rest (rdS T X.K W b)) : PSs X (st :: rest) (rdS T X.K W (sSeq a b)) := imSs (pss_cons h1 h2) fun D σ H h => by
  obtain ⟨ρ, ex, sl, hp, rs, rh, q⟩ := h
  refine ⟨ρ, ex, sl, hp, rs, rh, ?_⟩
  unfold sSeq at q
  cases e : a sl hp with
  | nx sl' h' =>
    rw [e] at q
    exact fun ρ' H' σ' kp rh' rs' => ⟨ρ', ex, sl', h', rs', rh', FinS.later q kp⟩
  | ret v h' => rw [e] at q; exact q
  | brk sl' h' => rw [e] at q; exact q
  | cnt sl' h' => rw [e] at q; exact q
  | exc c fs sl' h' => rw [e] at q; exact q
  | bad => rw [e] at q; exact q
theorem one {st : Stmt} {a : SM} (h1 : PS X st (rdS T X.K W a)) : PSs X [st] (rdS T X.K W a) := imSs (pss_one h1) fun _ _ _ h => h
theorem rd_asg {m : EM} {t : GM} {own : List Nat} {D : Ends} {σ : L2.St} {H : Hp} (h : rdS T K W (sAsg m t) D σ H) : tAsg (rdE T K W m) (rdG T K own t) D σ H := by
  obtain ⟨ρ, ex, sl, hp, rs, rh, q⟩ := h
  refine ⟨ρ, ex, sl, hp, rs, rh, (q.thn rs).imp fun v h1 ρ1 H1 k1 rh1 q1 x rx => ?_⟩
  cases e : t v sl h1 with
  | none => simp only [e] at q1; exact q1.elim
  | some p =>
    obtain ⟨sl', h'⟩ := p
    simp only [e] at q1
    exact ⟨ρ1, ex, sl, h1, v, sl', h', rs.mono k1 noex, rh1, rx, e, fun ρ' H' σ' kp rh' rs' _ => q1 ρ' H' σ' kp rh' rs'⟩
theorem rd_name {i : Nat} {x : V} {σ : L2.St} {H : Hp} {Q : L2.St → Hp → Prop} (h : rdG T K [i] (tName i) x σ H Q) : gName i x σ H Q := by
  obtain ⟨ρ, ex, sl, hp, v, sl', h', rs, rh, rv, e, q⟩ := h
  cases e
  exact q ρ H _ (Kp.refl _ _) rh (rs.set i rv) (.set (List.mem_singleton_self i))
theorem rd_set {i : Nat} {m : EM} {D : Ends} {σ : L2.St} {H : Hp} (h : rdS T K W (sAsg m (tName i)) D σ H) : tAsg (rdE T K W m) (gName i) D σ H := by
  have q := rd_asg (own := [i]) h
  obtain ⟨ρ, ex, sl, hp, rs, rh, q⟩ := q
  exact ⟨ρ, ex, sl, hp, rs, rh, q.imp fun v h1 ρ1 H1 k1 rh1 q1 x rx => rd_name (q1 x rx)⟩
/-- name = e -/
theorem sset (c : Ctx X T W L) (i : Nat) {x : Str} {e : Expr} {m : EM} {pos pos' : Pos} (he : PE X e (rdE T X.K W m)) (hi : X.N[i]? = some x := by rfl) (hx : Loc X.env.scope x := by first | exact Or.inl rfl | exact Or.inr rfl) (hs : swapsWith e (some (.Name x pos')) pos.line X.env = pure false := by rfl)
    (hf : X.fn x = true ∨ X.env.scope.names.lookup x = some .local := by first | exact .inl rfl | exact .inr rfl) : PS X (.Assign [.Name x pos'] e pos) (rdS T X.K W (sAsg m (tName i))) := imS (ps_set c.hN hi hx he hs hf) fun _ _ _ h => rd_set h
theorem asg {tg e : Expr} {m : EM} {g : GM} {pos : Pos} (he : PE X e (rdE T X.K W m)) (hg : PG X tg (rdG T X.K allS g)) (hs : swapsWithSole [tg] e pos.line X.env = pure false := by rfl) (hw : swappedStores [tg] e X.env = pure none := by rfl)
    (h1 : (assignEach [tg] X.env).map (·.2) = [assign tg X.env] := by rfl) : PS X (.Assign [tg] e pos) (rdS T X.K W (sAsg m g)) := imS (ps_asg he hg hs hw h1) fun _ _ _ h => rd_asg h
def sPar2 (i j : Nat) (m : AM) : SM := fun σ h => (m σ h).thn σ fun vs h1 => match vs with
  | [a, b] => .nx ((σ.set i (some a)).set j (some b)) h1
  | _ => .bad
def sPar3 (i j l : Nat) (m : AM) : SM := fun σ h => (m σ h).thn σ fun vs h1 => match vs with
  | [a, b, d] => .nx (((σ.set i (some a)).set j (some b)).set l (some d)) h1
  | _ => .bad
theorem par2 (c : Ctx X T W L) (i j : Nat) {x y : Str} {a b : Expr} {m : AM} {px py pt pt2 pos : Pos} {kt k2} (ha : PA X [a, b] (rdA T X.K W m)) (hi : X.N[i]? = some x := by rfl) (hj : X.N[j]? = some y := by rfl) (hij : i ≠ j := by decide)
    (hx : X.env.scope.names.lookup x = some .local := by rfl) (hy : X.env.scope.names.lookup y = some .local := by rfl) (hw : swappedStores [.Tuple [.Name x px, .Name y py] kt pt] (.Tuple [a, b] k2 pt2) X.env = pure (some [x, y]) := by rfl)
    (hs : swapsWithSole [.Tuple [.Name x px, .Name y py] kt pt] (.Tuple [a, b] k2 pt2) pos.line X.env = pure false := by rfl) : PS X (.Assign [.Tuple [.Name x px, .Name y py] kt pt] (.Tuple [a, b] k2 pt2) pos) (rdS T X.K W (sPar2 i j m)) :=
  imS (ps_par c.hc c.hN hi hj hij hx hy ha hw hs) fun D σ H h => by
    obtain ⟨ρ, ex, sl, hp, rs, rh, q⟩ := h
    refine ⟨ρ, ex, sl, hp, rs, rh, (q.thn rs).imp fun vs h1 ρ1 H1 k1 rh1 q1 xs rx => ?_⟩
    split at q1
    · cases rx with
      | cons r1 rx => cases rx with
        | cons r2 rx =>
          cases rx
          exact ⟨_, _, rfl, q1 ρ1 H1 _ (Kp.refl _ _) rh1 (((rs.mono k1 noex).set i r1).set j r2)⟩
    · exact q1.elim
theorem par3 (c : Ctx X T W L) (i j l : Nat) {x y z : Str} {a b d : Expr} {m : AM} {px py pz pt pt2 pos : Pos} {kt k2} (ha : PA X [a, b, d] (rdA T X.K W m)) (hi : X.N[i]? = some x := by rfl) (hj : X.N[j]? = some y := by rfl) (hl : X.N[l]? = some z := by rfl) (hij : i ≠ j := by decide) (hil : i ≠ l := by decide) (hjl : j ≠ l := by decide)
    (hx : X.env.scope.names.lookup x = some .local := by rfl) (hy : X.env.scope.names.lookup y = some .local := by rfl) (hz : X.env.scope.names.lookup z = some .local := by rfl) (hw : swappedStores [.Tuple [.Name x px, .Name y py, .Name z pz] kt pt] (.Tuple [a, b, d] k2 pt2) X.env = pure (some [x, y, z]) := by rfl)
    (hs : swapsWithSole [.Tuple [.Name x px, .Name y py, .Name z pz] kt pt] (.Tuple [a, b, d] k2 pt2) pos.line X.env = pure false := by rfl) : PS X (.Assign [.Tuple [.Name x px, .Name y py, .Name z pz] kt pt] (.Tuple [a, b, d] k2 pt2) pos) (rdS T X.K W (sPar3 i j l m)) :=
  imS (ps_par3 c.hc c.hN hi hj hl hij hil hjl hx hy hz ha hw hs) fun D σ H h => by
    obtain ⟨ρ, ex, sl, hp, rs, rh, q⟩ := h
    refine ⟨ρ, ex, sl, hp, rs, rh, (q.thn rs).imp fun vs h1 ρ1 H1 k1 rh1 q1 xs rx => ?_⟩
    split at q1
    · cases rx with
      | cons r1 rx => cases rx with
        | cons r2 rx => cases rx with
          | cons r3 rx =>
            cases rx
            exact ⟨_, _, _, rfl, q1 ρ1 H1 _ (Kp.refl _ _) rh1 ((((rs.mono k1 noex).set i r1).set j r2).set l r3)⟩
    · exact q1.elim
/-- name = [.. for ..] on one line -/
theorem ssetLc (c : Ctx X T W L) (k : Nat) {y : Str} {py : Pos} {elt tg iter : Expr} {ifs : List Expr} {scope : Scope} {own : List (Str × Nat)} {pos spos : Pos} {i : IM} {g : GM} {t : TM} {m : EM} (hi : PI X tg iter (rdI T X.K W i)) (ok : blkC X.N X.env.scope scope own = true)
    (hg : ∀ (s : Shared) (H : Hp) (C : Addr) (cl : List (Str × Addr)) (fp : List Addr), PG (X.blk s H scope (compEnvC scope cl C X.env) fp) tg (rdG T X.K (own.map (·.2)) g))
    (ht : ∀ (s : Shared) (H : Hp) (C : Addr) (cl : List (Str × Addr)) (fp : List Addr), PTs (X.blk s H scope (compEnvC scope cl C X.env) fp) ifs (rdT T X.K W0 t))
    (he : ∀ (s : Shared) (H : Hp) (C : Addr) (cl : List (Str × Addr)) (fp : List Addr), PE (X.blk s H scope (compEnvC scope cl C X.env) fp) elt (rdE T X.K W0 m))
    (hy : X.N[k]? = some y := by rfl) (hyl : X.env.scope.names.lookup y = some .local := by rfl) (hsw : swapsWith (.ListComp elt [⟨tg, iter, ifs, 0⟩] scope pos) (some (.Name y py)) spos.line X.env = pure true := by rfl) (hs : ∀ x, foldedSetIterable iter X.env x = pure x := by intro _; rfl) :
    PS X (.Assign [.Name y py] (.ListComp elt [⟨tg, iter, ifs, 0⟩] scope pos) spos) (rdS T X.K W (sAsg (mReg (mLc i g t m (own.map (·.2)))) (tName k))) :=
  imS (ps_setLc c.hc c.hN hy hyl hsw hi (blkOk_by ok) hg ht he hs) fun D σ H h => rd_lc (rd_regL (rd_set h))
theorem ssetLcF (c : Ctx X T W L) (k : Nat) {y : Str} {py : Pos} {elt tg iter : Expr} {ifs : List Expr} {scope : Scope} {own : List (Str × Nat)} {pos spos : Pos} {i : IM} {g : GM} {t : TM} {m : EM} (hi : PI X tg iter (rdI T X.K W i)) (ok : blkC X.N X.env.scope scope own = true)
    (hg : ∀ (s : Shared) (H : Hp) (C : Addr) (cl : List (Str × Addr)) (fp : List Addr), PG (X.blk s H scope (compEnvC scope cl C X.env) fp) tg (rdG T X.K (own.map (·.2)) g))
    (ht : ∀ (s : Shared) (H : Hp) (C : Addr) (cl : List (Str × Addr)) (fp : List Addr), PTs (X.blk s H scope (compEnvC scope cl C X.env) fp) ifs (rdT T X.K W0 t))
    (he : ∀ (s : Shared) (H : Hp) (C : Addr) (cl : List (Str × Addr)) (fp : List Addr), PE (X.blk s H scope (compEnvC scope cl C X.env) fp) elt (rdE T X.K W0 m))
    (hy : X.N[k]? = some y := by rfl) (hyl : X.env.scope.names.lookup y = some .local := by rfl) (hsw : swapsWith (.ListComp elt [⟨tg, iter, ifs, 0⟩] scope pos) (some (.Name y py)) spos.line X.env = pure true := by rfl) (hs : ∀ x, foldedSetIterable iter X.env x = pure x := by intro _; rfl) :
    PS X (.Assign [.Name y py] (.ListComp elt [⟨tg, iter, ifs, 0⟩] scope pos) spos) (rdS T X.K W (sAsg (mFz (mLc i g t m (own.map (·.2)))) (tName k))) :=
  imS (ps_setLc c.hc c.hN hy hyl hsw hi (blkOk_by ok) hg ht he hs) fun D σ H h => rd_lc (rd_fzL (rd_set h))
/-! #### op= -/
def augO (op : Operator) (x y : PV) (_ : VH) : Option PV := match op, x, y with
  | .Add, .int a, .int b => some (.int (a + b))
  | .Sub, .int a, .int b => some (.int (a - b))
  | .FloorDiv, .int a, .int b => if divOk b then some (.int (a / b)) else none
  | .Add, .str a, .str b => if a.length + b.length ≤ line then some (.str (a ++ b)) else none
  | _, _, _ => none
theorem o_aug (op : Operator) : PIp X op (rO2 T X.K (augO op)) := by
  intro pins s σ H x y v u Q I rx ry h
  obtain ⟨ρ, ex, hp, a, b, w, rh, ra, rb, e, q⟩ := h
  have same := fun z (rz : Rv X.K ρ ex H w z) => q ρ H z (Kp.refl _ _) rh rz
  unfold augO at e
  split at e
  · cases ra; cases rb; cases e
    exact ip_add pins s σ H _ _ _ _ Q I rx ry ⟨_, _, rfl, rfl, same _ (.int _)⟩
  · cases ra; cases rb; cases e
    exact ip_sub pins s σ H _ _ _ _ Q I rx ry ⟨_, _, rfl, rfl, same _ (.int _)⟩
  · cases ra; cases rb
    split at e
    · rename_i hc
      cases e
      obtain ⟨t, rfl⟩ := rx
      obtain ⟨t', rfl⟩ := ry
      obtain ⟨h1, h2⟩ := divOk_out hc
      refine ifloordiv_int (by omega) ?_ (.inl (PyProof.noPylong_small (by omega)))
      rw [Int.fdiv_eq_ediv_of_nonneg _ (by omega)]
      exact ⟨.int _, H, I.tok _, ⟨_, rfl⟩, same _ (.int _)⟩
    · cases e
  · cases ra with
    | str r1 =>
      cases rb with
      | str r2 =>
        split at e
        · rename_i hc
          cases e
          exact iop_add_str pins s σ H _ _ _ _ Q I rx ry ⟨_, _, rfl, rfl, by rw [r1.length, r2.length, ← line_eq]; exact hc, same _ (.str (r1.append r2 hc))⟩
        · cases e
  · cases e
theorem saug (c : Ctx X T W L) (i : Nat) (op : Operator) {x : Str} {e : Expr} {m : EM} {pos pos' : Pos} (he : PE X e (rdE T X.K W m)) (hi : X.N[i]? = some x := by rfl) (hx : Loc X.env.scope x := by first | exact Or.inl rfl | exact Or.inr rfl)
    (hf : X.fn x = true ∨ X.env.scope.names.lookup x = some .local := by first | exact .inl rfl | exact .inr rfl) : PS X (.AugAssign (.Name x pos') op e pos) (rdS T X.K W (sAug i (augO op) m)) := imS (ps_aug c.hN hi hx he (o_aug (T := T) op) hf) fun D σ H h => by
  obtain ⟨ρ, ex, sl, hp, rs, rh, q⟩ := h
  unfold sAug at q
  unfold mVar at q
  split at q
  · rename_i v e
    split at q
    · rename_i hn
      obtain ⟨y, e1, r⟩ := rs.at_ i v e hn
      rw [R.thn_ok] at q
      refine ⟨y, e1, ρ, ex, sl, hp, rs, rh, (FinS.thn rs q).imp fun u h1 ρ1 H1 k1 rh1 q1 x rx => ?_⟩
      cases eo : augO op v u h1 with
      | none => simp only [eo] at q1; exact q1.elim
      | some w =>
        simp only [eo] at q1
        exact ⟨ρ1, ex, h1, v, u, w, rh1, r.mono k1 noex, rx, eo, fun ρ' H' z kp rh' rz => q1 ρ' H' _ kp rh' (((rs.mono k1 noex).mono kp noex).set i rz)⟩
    · exact q.elim
  · exact q.elim
/-! #### flow -/
theorem ex (c : Ctx X T W L) {e : Expr} {m : EM} {pos : Pos} (he : PE X e (rdE T X.K W m)) (hs : swapsWith e none pos.line X.env = pure false := by rfl) : PS X (.Expr e pos) (rdS T X.K W (sExpr m)) := imS (ps_expr he hs) fun D σ H h => by
  obtain ⟨ρ, ex, sl, hp, rs, rh, q⟩ := h
  exact ⟨ρ, ex, sl, hp, rs, rh, (q.thn rs).imp fun v h1 ρ1 H1 k1 rh1 q1 x rx => q1 ρ1 H1 σ (Kp.refl _ _) rh1 (rs.mono k1 noex)⟩
theorem sif {t : Expr} {a b : List Stmt} {m : TM} {ma mb : SM} {pos : Pos} (ht : PT X t (rdT T X.K W m)) (ha : PSs X a (rdS T X.K W ma)) (hb : PSs X b (rdS T X.K W mb)) : PS X (.If t a b pos) (rdS T X.K W (sIf m ma mb)) := imS (ps_if ht ha hb) fun D σ H h => by
  obtain ⟨ρ, ex, sl, hp, rs, rh, q⟩ := h
  refine ⟨ρ, ex, sl, hp, rs, rh, (q.thn rs).imp fun b h1 ρ1 H1 k1 rh1 q1 => ?_⟩
  cases b with
  | true => exact ⟨ρ1, ex, sl, h1, rs.mono k1 noex, rh1, q1⟩
  | false => exact ⟨ρ1, ex, sl, h1, rs.mono k1 noex, rh1, q1⟩
theorem ret {e : Expr} {m : EM} {pos : Pos} (he : PE X e (rdE T X.K W m)) : PS X (.Return (some e) pos) (rdS T X.K W (sRet m)) := imS (ps_ret he) fun D σ H h => by
  obtain ⟨ρ, ex, sl, hp, rs, rh, q⟩ := h
  exact ⟨ρ, ex, sl, hp, rs, rh, (q.thn rs).imp fun v h1 ρ1 H1 k1 rh1 q1 x rx => q1 ρ1 H1 x (Kp.refl _ _) rh1 rx⟩
theorem retN {pos : Pos} : PS X (.Return none pos) (rdS T X.K W sRetN) := imS ps_retN fun D σ H h => by
  obtain ⟨ρ, ex, sl, hp, rs, rh, q⟩ := h
  exact q ρ H _ (Kp.refl _ _) rh .non
theorem pass {pos : Pos} : PS X (.Pass pos) (rdS T X.K W sSkip) := imS ps_pass fun D σ H h => by
  obtain ⟨ρ, ex, sl, hp, rs, rh, q⟩ := h
  exact q ρ H σ (Kp.refl _ _) rh rs
theorem brk {pos : Pos} : PS X (.Break pos) (rdS T X.K W sBrk) := imS ps_break fun D σ H h => by
  obtain ⟨ρ, ex, sl, hp, rs, rh, q⟩ := h
  exact q ρ H σ (Kp.refl _ _) rh rs
theorem cnt {pos : Pos} : PS X (.Continue pos) (rdS T X.K W sCnt) := imS ps_continue fun D σ H h => by
  obtain ⟨ρ, ex, sl, hp, rs, rh, q⟩ := h
  exact q ρ H σ (Kp.refl _ _) rh rs
/-- a turn -/
theorem FinS.turn {ρ : Pl} {ex : List Addr} {H : Hp} {D : Ends} {r : RS} {k : Sl → VH → RS} (q : FinS T K W ρ ex H D (r.again k)) :
    FinS T K W ρ ex H { D with nx := fun σ' H' => ∃ ρ' sl h, Kp ρ H ρ' H' ∧ Rh T K ρ' ex H' h ∧ Rst K ρ' ex H' sl σ' ∧ FinS T K W ρ' ex H' D (k sl h), ct := fun σ' H' => ∃ ρ' sl h, Kp ρ H ρ' H' ∧ Rh T K ρ' ex H' h ∧ Rst K ρ' ex H' sl σ' ∧ FinS T K W ρ' ex H' D (k sl h), bk := D.nx } r := by
  cases r with
  | nx sl h => exact fun ρ' H' σ' kp rh rs => ⟨ρ', sl, h, kp, rh, rs, FinS.later q kp⟩
  | ret v h => exact q
  | brk sl h => exact q
  | cnt sl h => exact fun ρ' H' σ' kp rh rs => ⟨ρ', sl, h, kp, rh, rs, FinS.later q kp⟩
  | exc c fs sl h => exact q
  | bad => exact q
theorem sfor (c : Ctx X T W L) {tg iter : Expr} {body : List Stmt} {i : IM} {g : GM} {b : SM} {pos : Pos} (hi : PI X tg iter (rdI T X.K W i)) (hg : PG X tg (rdG T X.K allS g)) (hb : PSs X body (rdS T X.K W b)) (hs : ∀ x, foldedSetIterable iter X.env x = pure x := by intro _; rfl) :
    PS X (.For tg iter body [] pos) (rdS T X.K W (sFor i g b)) := imS (ps_for c.hp c.hc hi hg hb hs) fun D σ H h => by
  obtain ⟨ρ, ex, sl, hp, rs, rh, q⟩ := h
  refine ⟨ρ, ex, sl, hp, rs, rh, (q.thn rs).imp fun vs h1 ρ1 H1 k1 rh1 q1 J wk => ?_⟩
  refine ⟨fun i m σ H2 => m = vs.length - i ∧ i ≤ vs.length ∧ ∃ ρ2 sl h2, Kp ρ1 H1 ρ2 H2 ∧ Rh T X.K ρ2 ex H2 h2 ∧ Rst X.K ρ2 ex H2 sl σ ∧ FinS T X.K W ρ2 ex H2 D (forL g b (vs.drop i) sl h2), ⟨vs.length, by simp, Nat.zero_le _, ρ1, sl, h1, Kp.refl _ _, rh1, rs.mono k1 noex, q1⟩, ?_⟩
  rintro i m σ2 H2 ⟨em, hi, ρ2, sl2, h2, k2, rh2, rs2, fin⟩
  obtain ⟨wstop, wgo⟩ := wk ρ2 H2 ex k2 noex i
  by_cases hlt : i < vs.length
  · obtain ⟨go, yld⟩ := wgo vs[i] (List.getElem?_eq_getElem hlt)
    rw [List.drop_eq_getElem_cons hlt] at fin
    unfold forL at fin
    refine .inr ⟨go, fun σ' H' => ∃ ρ' sl h, Kp ρ1 H1 ρ' H' ∧ Rh T X.K ρ' ex H' h ∧ Rst X.K ρ' ex H' sl σ' ∧ FinS T X.K W ρ' ex H' D (forL g b (vs.drop (i + 1)) sl h), fun σ' H' hn => ⟨vs.length - (i + 1), by omega, rfl, by omega, hn⟩, fun x H3 hy => ?_⟩
    obtain ⟨k3, d3, r3, v3⟩ := yld x H3 hy
    cases eg : g vs[i] sl2 h2 with
    | none => simp only [eg] at fin; exact fin.elim
    | some p =>
      obtain ⟨sl4, h4⟩ := p
      simp only [eg] at fin
      refine ⟨ρ2, ex, sl2, h2, _, sl4, h4, rs2.mono k3 noex, r3 h2 rh2, v3 h2 rh2, eg, fun ρ4 H4 σ4 k4 rh4 rs4 _ => ?_⟩
      have k14 := (k2.trans k3).trans k4
      refine ⟨ρ4, ex, sl4, h4, rs4, rh4, ?_⟩
      refine (FinS.turn (FinS.later fin (k3.trans k4))).other (fun sl h _ ρ' H' σ' kp rh' rs' hn => ?_) (fun _ _ z => z) (fun _ _ z => z) (fun σ' H' hn => ?_) (fun _ _ _ _ z => z)
      all_goals
        obtain ⟨ρ5, sl5, h5, k5, rh5, rs5, f5⟩ := hn
        exact ⟨ρ5, sl5, h5, k14.trans k5, rh5, rs5, f5⟩
  · rw [List.drop_eq_nil_of_le (by omega)] at fin
    exact .inl ⟨wstop (by omega), fin ρ2 H2 σ2 (Kp.refl _ _) rh2 rs2⟩
theorem swh (c : Ctx X T W L) {test : Expr} {body : List Stmt} {t : TM} {b : SM} {pos : Pos} (ht : PT X test (rdT T X.K W t)) (hb : PSs X body (rdS T X.K W b)) : PS X (.While test body [] pos) (rdS T X.K W (sWhile t b)) := imS (ps_while c.hp ht hb) fun D σ H h => by
  obtain ⟨ρ, ex, sl, hp, rs, rh, q⟩ := h
  refine ⟨fun m σ H => ∃ ρ ex sl h, Rst X.K ρ ex H sl σ ∧ Rh T X.K ρ ex H h ∧ FinS T X.K W ρ ex H D (whN t b m sl h), ?_, ?_⟩
  · unfold sWhile at q
    split at q
    · exact ⟨_, ρ, ex, sl, hp, rs, rh, q⟩
    · exact q.elim
  · rintro m σ2 H2 ⟨ρ, ex, sl, h2, rs, rh, q⟩
    cases m with
    | zero => exact q.elim
    | succ n =>
      unfold whN at q
      refine ⟨ρ, ex, sl, h2, rs, rh, (FinS.thn rs q).imp fun d h1 ρ1 H1 k1 rh1 q1 => ?_⟩
      cases d with
      | false =>
        rw [if_neg (by decide)] at q1
        exact q1 ρ1 H1 σ2 (Kp.refl _ _) rh1 (rs.mono k1 noex)
      | true =>
        rw [if_pos rfl] at q1
        rw [if_pos rfl]
        refine ⟨fun σ' H' => ∃ ρ ex sl h, Rst X.K ρ ex H' sl σ' ∧ Rh T X.K ρ ex H' h ∧ FinS T X.K W ρ ex H' D (whN t b n sl h), fun σ' H' hn => ⟨n, Nat.lt_succ_self n, hn⟩, ρ1, ex, sl, h1, rs.mono k1 noex, rh1, ?_⟩
        refine (FinS.turn q1).other (fun sl h _ ρ' H' σ' kp rh' rs' hn => ?_) (fun _ _ z => z) (fun _ _ z => z) (fun σ' H' hn => ?_) (fun _ _ _ _ z => z)
        all_goals
          obtain ⟨ρ5, sl5, h5, k5, rh5, rs5, f5⟩ := hn
          exact ⟨ρ5, ex, sl5, h5, rs5, rh5, f5⟩
end
end Y

set_option maxHeartbeats 1000000
namespace Y
open PySem PySem.Spec PyProof.Rows L2
section
variable {X : Cx} {T : Tab} {K : PySem.W.Frag} {W : WX} {L : Nat}
/-- raise X('..'), X without an __init__ -/
def sRaise0 (c : Nat) : SM := fun σ h => .exc c [] σ h
/-- an own exception's class without an __init__: its name, its number -/
structure EOk (K : PySem.W.Frag) (mg : Str → Option Value) (T : Tab) (x : Str) (c : Nat) : Prop where
  ex : ∃ C bmB B newId initId, T.exc[c]? = some C ∧ ExcBaseFacts B newId initId bmB ∧ PySem.W.excIn K C bmB newId = true ∧ mg x = some (.ref C) ∧ PySem.W.keepIn K (.ref C) = true ∧
    PySem.W.subIn K (.ref C) (.type "BaseException") = some true ∧ PySem.W.typeIn K (.ref C) = some (.type "type")
theorem raise0 (c : Ctx X T W L) {x s : Str} {n j : Nat} {p p2 pos' pos : Pos} (E : EOk X.K X.mg T x n) (hg : Gl X x := by rfl) (hdb : (x == ("__debug__" : Str)) = false := by decide) :
    PS X (.Raise (some (.Call (.Name x p) [.Constant (.str s) j p2] [] pos')) none pos) (rdS T X.K W (sRaise0 n)) := by
  obtain ⟨C, bmB, B, newId, initId, hc, F, q, gC, kC, h1, h2⟩ := E.ex
  refine imS (ps_raise c.hc c.tk (pmk_own F q gC kC (raises_own h1 h2) hg hdb)) fun D σ H h => ?_
  obtain ⟨ρ, ex, sl, hp, rs, rh, q⟩ := h
  exact q ρ H σ (.ref C) none (Kp.refl _ _) rh rs ⟨C, hc, rfl, .inl ⟨rfl, rfl⟩⟩
/-- what the clause catches, by the exceptions' numbers -/
def Caught (K : PySem.W.Frag) (T : Tab) (c : Value) (cs : Nat → Option Bool) : Prop := ∀ n C b, T.exc[n]? = some C → cs n = some b → PySem.W.exmOne K (.ref C) c = some b
theorem stry (c : Ctx X T W L) {x : Str} {cv : Value} {cs : Nat → Option Bool} {body suite : List Stmt} {b₀ : Stmt} {np pos pos' : Pos} {mb ms : SM} (hc : Names X x cv) (hcs : Caught X.K T cv cs)
    (hb : ∀ (W : WX) (pn : List (Addr × Obj)) (xe : Value → Shared → Prop), Ctx (X.tr pn xe) T W L → PSs (X.tr pn xe) body (rdS T X.K W mb))
    (hsu : ∀ (a : Addr) (pn : List (Addr × Obj)), PSs (X.suite a pn) (b₀ :: suite) (rdS T X.K W0 ms))
    (hs : X.stack = X.env :: X.outer := by rfl) (hf : X.env.frame = some X.env.locals := by rfl) :
    PS X (.Try body [.ExceptHandler (some (.Name x np)) none (b₀ :: suite) pos'] [] [] pos) (rdS T X.K W (sTry mb cs ms)) := by
  refine imS (ps_try_only (Wout := W) (tb := fun W => rdS T X.K W mb) (ts := fun _ _ _ => rdS T X.K W0 ms) hs hf hc c.tk (fun W' pn xe tk hp => hb W' pn xe ⟨c.hc, c.hN, c.room, tk, c.tok, hp⟩) (fun a oe cls d pn _ _ => hsu a _)) fun D σ H h => ?_
  obtain ⟨ρ, ex, sl, hp, rs, rh, q⟩ := h
  refine ⟨ρ, ex, sl, hp, rs, rh, ?_⟩
  unfold sTry at q
  cases e : mb sl hp with
  | nx sl' h' => rw [e] at q; exact q
  | ret v h' => rw [e] at q; exact q
  | brk sl' h' => rw [e] at q; exact q
  | cnt sl' h' => rw [e] at q; exact q
  | bad => rw [e] at q; exact q.elim
  | exc n fs sl' h' =>
    rw [e] at q
    intro ρ' H' σ' cls d kp rh' rs' rx
    obtain ⟨C, eC, ecls, rest⟩ := id rx
    cases ec : cs n with
    | none => simp only [ec] at q; exact q.elim
    | some b =>
      refine ⟨b, ?_, fun hb a _ => ?_, fun hb => ?_⟩
      · rw [ecls]; exact hcs n C b eC ec
      · subst hb
        simp only [ec] at q
        have q2 := FinS.later q kp
        refine ⟨ρ', ex, sl', h', rs', rh', ?_⟩
        revert q2
        cases ems : ms sl' h' with
        | exc c2 fs2 sl2 h2 => exact fun q2 => q2.elim
        | _ => exact fun q2 => q2
      · subst hb
        simp only [ec] at q
        exact q ρ' H' σ' cls d kp rh' rs' rx
end
/-! ### defs -/
section
variable {P : Program} {w : World} {K : PySem.W.Frag} {mg : Str → Option Value} {base : Heap} {T : Tab}
theorem rst_start {ρ : Pl} {ex : List Addr} {H : Hp} : ∀ {us : List PV} {vs : List V} {N : List Str}, Rvs K ρ ex H us vs → Rst K ρ ex H (startS N.length us) (L2.start N vs)
  | us, vs, N, r => by
    have el := r.length
    refine ⟨by unfold startS L2.start; rw [List.length_append, List.length_append, List.length_map, List.length_map, el, List.length_replicate, List.length_replicate], fun i v e n => ?_⟩
    unfold startS at e
    by_cases hi : i < us.length
    · rw [List.getElem?_append_left (by simpa using hi), List.getElem?_map] at e
      obtain ⟨d, hd, e2⟩ := Option.map_eq_some_iff.mp e
      cases e2
      obtain ⟨x, hx, rx⟩ := r.get hd
      refine ⟨x, ?_, rx⟩
      unfold L2.start
      rw [List.getElem?_append_left (by rw [List.length_map, ← el]; exact hi), List.getElem?_map, hx]
      rfl
    · rw [List.getElem?_append_right (by simpa using hi), List.getElem?_replicate] at e
      split at e <;> cases e
/-- THE RULE for a def: it does what its body does -/
theorem does {x qual : Str} {st : Stmt} {f : Addr} {fd : FuncData} {N ps : List Str} {k np n : Nat} {m : SM} (F : L2.Fun K x qual st f fd) (S : FnScope N ps (defScope st)) (tok : T.Ok K) (hnp : ps.length = np) (hn : N.length = n)
    (hbody : ∀ (cdv : Value) (A : Around) (outer : List Env) (s : Shared) (H : Hp) (E : XK), Ctx (cxOf (L2.CX P w) P w K mg base N qual (defScope st) f cdv A outer s H E) T (fun cls d _ H' => E cls d H') k →
      PSs (cxOf (L2.CX P w) P w K mg base N qual (defScope st) f cdv A outer s H E) (defBody st) (rdS T K (fun cls d _ H' => E cls d H') m)) : FnOk P w K mg base (L2.CX P w) (k + 1) f fd ps (spF T K (runDef np n m)) := by
  subst hnp hn
  refine F.okX S (fun vs H Q E h => ?_) (fun cdv A outer s H vs Q E hr h => ?_)
  · obtain ⟨ρ, ex, hp, us, rh, rv, q⟩ := h
    unfold runDef at q
    split at q
    · rename_i e; rw [← rv.length]; exact e
    · exact q.elim
  · obtain ⟨ρ, ex, hp, us, rh, rv, q⟩ := h
    refine ⟨_, hbody cdv A outer s H E ⟨rfl, S.nd, hr, takes_of rfl rfl rfl rfl, tok, passes_of rfl⟩, ρ, ex, _, hp, rst_start rv, rh, ?_⟩
    unfold runDef at q
    split at q
    · cases e : m (startS N.length us) hp with
      | nx sl' h' => simp only [e] at q; exact fun ρ' H' σ' kp rh' rs' => q ρ' H' kp rh' _ .non
      | ret v h' => simp only [e] at q; exact fun ρ' H' x kp rh' rx => q ρ' H' kp rh' x rx
      | brk sl' h' => simp only [e] at q; exact q.elim
      | cnt sl' h' => simp only [e] at q; exact q.elim
      | exc c fs sl' h' => simp only [e] at q; exact fun ρ' H' σ' cls d kp rh' rs' rx => q ρ' H' cls d kp rh' rx
      | bad => simp only [e] at q; exact q.elim
    · exact q.elim
end
end Y

set_option maxHeartbeats 1000000
namespace Y
open PySem PySem.Spec PyProof.Rows L2
section
variable {X : Cx} {T : Tab} {K : PySem.W.Frag} {W : WX} {L : Nat}
theorem reg_at {ρ : Pl} {h : VH} : ∀ {p : Addr}, ρ.length = h.length → (ρ ++ [some p])[h.length]? = some (some p) := fun e => by
  rw [← e, List.getElem?_append_right (Nat.le_refl _), Nat.sub_self]; rfl
theorem rd_dnew {σ : L2.St} {H : Hp} {Q : VK} (h : rdE T K W (mRegD mPNil) σ H Q) : tDNewK σ H Q := by
  obtain ⟨ρ, ex, sl, hp, rs, rh, q⟩ := h
  intro p hn
  exact q _ _ (Kp.reg hn) (rh.reg hn ⟨p, [], rfl, upd_same, .nil⟩) _ (.ref (reg_at rh.len))
theorem dct0 {pos : Pos} : PE X (.Dict [] [] pos) (rdE T X.K W (mRegD mPNil)) := imE pe_dnewK fun _ _ _ h => rd_dnew h
theorem rd_dnewF {σ : L2.St} {H : Hp} {Q : VK} (h : rdE T K W (mFzD mPNil) σ H Q) : tDNewK σ H Q := by
  obtain ⟨ρ, ex, sl, hp, rs, rh, q⟩ := h
  intro p hn
  exact q _ _ (Kp.laid hn) (rh.laid hn) _ (.dct (.inl upd_same) (rh.fresh hn) .nil)
theorem dct0F {pos : Pos} : PE X (.Dict [] [] pos) (rdE T X.K W (mFzD mPNil)) := imE pe_dnewK fun _ _ _ h => rd_dnewF h
structure DP (X : Cx) (T : Tab) (W : WX) (pos : Pos) (keys : List (Option Expr)) (values : List Expr) (m : DM) : Prop where
  ex : ∃ trs, PPs X pos keys values trs ∧ ∀ σ H ρ ex sl h Q, Rst X.K ρ ex H sl σ → Rh T X.K ρ ex H h → Fin T X.K W ρ ex σ H (m sl h) (fun kvs _ ρ' H' => ∀ ks, Rks X.K ρ' ex H' kvs ks → Q (ks.map fun kv => (kV kv.1, kv.2)) H') → tPairs trs σ H Q
  all : keys.all (·.isSome) = true
  len : keys.length = values.length
  few : ∀ sl h kvs h', m sl h = .ok kvs h' → kvs.length = keys.length
theorem dpn {pos : Pos} : DP X T W pos [] [] mPNil where
  ex := ⟨[], pps_nil, fun σ H ρ ex sl h Q rs rh q => q ρ H (Kp.refl _ _) rh [] .nil⟩
  all := rfl
  len := rfl
  few := fun sl h kvs h' e => by cases e; rfl
theorem dpc {pos : Pos} {k v : Expr} {ks : List (Option Expr)} {vs : List Expr} {mk mv : EM} {m : DM} (hk : PE X k (rdE T X.K W mk)) (hv : PE X v (rdE T X.K W mv)) (r : DP X T W pos ks vs m) : DP X T W pos (some k :: ks) (v :: vs) (mPCons mk mv m) where
  ex := by
    obtain ⟨trs, pp, rd⟩ := r.ex
    refine ⟨_, pps_cons hk hv pp, fun σ H ρ ex sl h Q rs rh q => ?_⟩
    refine ⟨ρ, ex, sl, h, rs, rh, q.bnd.imp fun x h1 ρ1 H1 k1 rh1 q1 x' rx => ?_⟩
    refine ⟨ρ1, ex, sl, h1, rs.mono k1 noex, rh1, q1.bnd.imp fun y h2 ρ2 H2 k2 rh2 q2 y' ry => ?_⟩
    split at q2
    · rename_i hc
      refine rd _ _ ρ2 ex sl h2 _ ((rs.mono k1 noex).mono k2 noex) rh2 (q2.bnd.imp fun kvs h3 ρ3 H3 k3 rh3 q3 ks rks => ?_)
      obtain ⟨k', rk, e⟩ := keyR_of hc rx
      subst e
      exact q3 ρ3 H3 (Kp.refl _ _) rh3 ((k', y') :: ks) (.cons rk (ry.mono k3 noex) rks)
    · exact q2.elim
  all := by rw [List.all_cons, r.all]; rfl
  len := by rw [List.length_cons, List.length_cons, r.len]
  few := fun sl h kvs h' e => by
    unfold mPCons at e
    cases e1 : mk sl h with
    | ok x h1 =>
      rw [e1] at e
      simp only [R.bnd_ok] at e
      cases e2 : mv sl h1 with
      | ok y h2 =>
        rw [e2] at e
        simp only [R.bnd_ok] at e
        split at e
        · cases e3 : m sl h2 with
          | ok l h3 => rw [e3] at e; cases e; rw [List.length_cons, List.length_cons, r.few _ _ _ _ e3]
          | exc _ _ _ => rw [e3] at e; cases e
          | bad => rw [e3] at e; cases e
        · cases e
      | exc _ _ _ => rw [e2] at e; cases e
      | bad => rw [e2] at e; cases e
    | exc _ _ _ => rw [e1] at e; cases e
    | bad => rw [e1] at e; cases e
theorem Rks.merge {ρ : Pl} {ex : List Addr} {H : Hp} : ∀ {more : List (PV × PV)} {ms : List (Key × V)} {kvs : List (PV × PV)} {ks : List (Key × V)}, Rks K ρ ex H more ms → Rks K ρ ex H kvs ks → Rks K ρ ex H (kmerge kvs more) (mergeK ks ms)
  | [], _, _, _, r, q => by cases r; exact q
  | (_, _) :: _, _, _, _, r, q => by
    cases r with
    | cons rk rv r2 =>
      have z := Rks.merge r2 (Rks.put rk rv q)
      exact z
theorem rd_disp {pos : Pos} {keys : List (Option Expr)} {values : List Expr} {m : DM} (dp : DP X T W pos keys values m) (h15 : keys.length ≤ 15) {trs : List (TE × TE)}
    (rd : ∀ σ H ρ ex sl h Q, Rst X.K ρ ex H sl σ → Rh T X.K ρ ex H h → Fin T X.K W ρ ex σ H (m sl h) (fun kvs _ ρ' H' => ∀ ks, Rks X.K ρ' ex H' kvs ks → Q (ks.map fun kv => (kV kv.1, kv.2)) H') → tPairs trs σ H Q)
    {σ : L2.St} {H : Hp} {Q : VK} (h : rdE T X.K W (mRegD (mDisp m)) σ H Q) : tDisp trs σ H Q := by
  obtain ⟨ρ, ex, sl, hp, rs, rh, q⟩ := h
  intro p hn
  have hx : ∀ a ∈ p :: ex, a ∈ ex ∨ H a = none := fun a ha => (List.mem_cons.mp ha).elim (fun z => .inr (by rw [z]; exact hn)) .inl
  have npx : p ∉ ex := fun z => (rh.exs p z).1 hn
  have kl : Kp ρ H ρ (upd H p (.dK [])) := Kp.laid hn
  refine rd _ _ ρ (p :: ex) sl hp _ (rs.mono kl hx) (rh.lay hn) ?_
  have len := dp.few sl hp
  revert q
  unfold mRegD mDisp
  cases e : m sl hp with
  | bad => exact fun q => q
  | exc c fs h1 => exact fun q => q.elim
  | ok kvs h1 =>
    intro q ρ' H' kp rh' ks rks
    have hp' := kp.keep p _ upd_same (rh.fresh hn).1
    have np := (rh'.exs p List.mem_cons_self).2
    refine ⟨hp', ks, rfl, by rw [← rks.length, len kvs h1 e]; exact h15, ?_⟩
    have k1 : Kp ρ H ρ' (Y.hide H' p) := (kl.trans kp).hide hn
    have rh1 := rh'.hide npx
    have r1 := Rks.hide _ _ rks
    have k2 : Kp ρ' (Y.hide H' p) (ρ' ++ [some p]) (upd (Y.hide H' p) p (.dK (mergeK [] ks))) := Kp.reg hide_same
    have := q (ρ' ++ [some p]) (upd (Y.hide H' p) p (.dK (mergeK [] ks))) (k1.trans k2) (rh1.reg hide_same ⟨p, _, rfl, upd_same, Rks.merge (Rks.mono k2 noex _ _ r1) .nil⟩) _ (.ref (reg_at rh1.len))
    rw [upd_hide] at this
    exact this
theorem disp {pos : Pos} {keys : List (Option Expr)} {values : List Expr} {m : DM} (dp : DP X T W pos keys values m) (h0 : keys ≠ [] := by exact List.cons_ne_nil _ _) (h15 : keys.length ≤ 15 := by decide) : PE X (.Dict keys values pos) (rdE T X.K W (mRegD (mDisp m))) := by
  obtain ⟨trs, pp, rd⟩ := dp.ex
  exact imE (pe_disp pp dp.all dp.len h0 h15) fun _ _ _ h => rd_disp dp h15 rd h
end
end Y
namespace Y
open PySem PySem.Spec PyProof.Rows L2
section
variable {X : Cx} {T : Tab} {W : WX} {L : Nat}
theorem bo1 {op : BoolOp} {a : Expr} {m : EM} {pos : Pos} (h : PE X a (rdE T X.K W m)) : PE X (.BoolOp op [a] pos) (rdE T X.K W m) := pe_one h
/-- a written text and its signs -/
structure Lit (x : Str) (l : List Nat) : Prop where
  eq : x.cps.toList = l
  len : l.length ≤ line
  ok : chOk l
theorem lit {x : Str} {l : List Nat} (h : (decide (x.cps.toList = l) && Nat.ble l.length line && l.all fun c => decide (c < 0x110000)) = true) : Lit x l := by
  have h1 := Bool.and_eq_true_iff.mp h
  have h2 := Bool.and_eq_true_iff.mp h1.1
  exact ⟨of_decide_eq_true h2.1, Nat.ble_eq.mp h2.2, fun c hc => of_decide_eq_true (List.all_eq_true.mp h1.2 c hc)⟩
theorem str {x : Str} {l : List Nat} {j : Nat} {pos : Pos} (h : Lit x l) : PE X (.Constant (.str x) j pos) (rdE T X.K W (mC (.str l))) := by
  have := h.eq
  subst this
  exact e_str h.len h.ok
theorem notv {a : Expr} {m : EM} {pos : Pos} (h : PE X a (rdE T X.K W m)) : PE X (.UnaryOp .Not a pos) (rdE T X.K W (mNotV (mTest m))) := imE (pe_not h) fun σ H Q h => by
  obtain ⟨ρ, ex, sl, hp, rs, rh, q⟩ := h
  have q2 := q.bnd
  have q3 := (rd_test (K := X.K) (T := T) (W := W) (m := m) (σ := σ) (H := H) (Q := fun b H' => Q (.bl (!b)) H') ⟨ρ, ex, sl, hp, rs, rh, q2.imp fun b h1 ρ1 H1 k1 rh1 q1 => q1 ρ1 H1 (Kp.refl _ _) rh1 _ (.bl _)⟩)
  exact q3
end
end Y

set_option maxHeartbeats 1000000
/-! the words, reckoned -/
namespace Y
section
variable {α : Type} (σ : Sl) (h : VH)
@[simp] theorem mC_e (v : PV) : mC v σ h = .ok v h := rfl
theorem mVar_e {i : Nat} {v : PV} {σ : Sl} {h : VH} (e : σ[i]? = some (some v)) (n : notExn v = true) : mVar i σ h = .ok v h := by
  unfold mVar
  rw [e]
  simp only [n, if_true]
@[simp] theorem notExn_str (s : List Nat) : notExn (.str s) = true := rfl
@[simp] theorem notExn_int (s : Int) : notExn (.int s) = true := rfl
@[simp] theorem notExn_ref (s : Nat) : notExn (.ref s) = true := rfl
@[simp] theorem notExn_tup (s : List PV) : notExn (.tup s) = true := rfl
@[simp] theorem notExn_lst (s : List PV) : notExn (.lst s) = true := rfl
@[simp] theorem notExn_bl (s : Bool) : notExn (.bl s) = true := rfl
@[simp] theorem notExn_non : notExn .non = true := rfl
@[simp] theorem notExn_scr (s : List Int) : notExn (.scr s) = true := rfl
@[simp] theorem notExn_dct (s : List (PV × PV)) : notExn (.dct s) = true := rfl
@[simp] theorem v0_str (s : List Nat) (r : Sl) : mVar 0 (some (.str s) :: r) h = .ok (.str s) h := rfl
@[simp] theorem v0_int (s : Int) (r : Sl) : mVar 0 (some (.int s) :: r) h = .ok (.int s) h := rfl
@[simp] theorem v0_ref (s : Nat) (r : Sl) : mVar 0 (some (.ref s) :: r) h = .ok (.ref s) h := rfl
@[simp] theorem v0_tup (s : List PV) (r : Sl) : mVar 0 (some (.tup s) :: r) h = .ok (.tup s) h := rfl
@[simp] theorem v0_lst (s : List PV) (r : Sl) : mVar 0 (some (.lst s) :: r) h = .ok (.lst s) h := rfl
@[simp] theorem v0_bl (s : Bool) (r : Sl) : mVar 0 (some (.bl s) :: r) h = .ok (.bl s) h := rfl
@[simp] theorem v0_non  (r : Sl) : mVar 0 (some (.non) :: r) h = .ok (.non) h := rfl
@[simp] theorem v0_scr (s : List Int) (r : Sl) : mVar 0 (some (.scr s) :: r) h = .ok (.scr s) h := rfl
@[simp] theorem v0_dct (s : List (PV × PV)) (r : Sl) : mVar 0 (some (.dct s) :: r) h = .ok (.dct s) h := rfl
theorem v0 (v : PV) (r : Sl) (n : notExn v = true) : mVar 0 (some v :: r) h = .ok v h := mVar_e rfl n
theorem vs (i : Nat) (v : Option PV) (r : Sl) : mVar (i + 1) (v :: r) h = mVar i r h := rfl
@[simp] theorem vs1 (v : Option PV) (r : Sl) : mVar 1 (v :: r) h = mVar 0 r h := rfl
@[simp] theorem vs2 (v : Option PV) (r : Sl) : mVar 2 (v :: r) h = mVar 1 r h := rfl
@[simp] theorem vs3 (v : Option PV) (r : Sl) : mVar 3 (v :: r) h = mVar 2 r h := rfl
@[simp] theorem vs4 (v : Option PV) (r : Sl) : mVar 4 (v :: r) h = mVar 3 r h := rfl
@[simp] theorem vs5 (v : Option PV) (r : Sl) : mVar 5 (v :: r) h = mVar 4 r h := rfl
@[simp] theorem vs6 (v : Option PV) (r : Sl) : mVar 6 (v :: r) h = mVar 5 r h := rfl
@[simp] theorem vs7 (v : Option PV) (r : Sl) : mVar 7 (v :: r) h = mVar 6 r h := rfl
@[simp] theorem vs8 (v : Option PV) (r : Sl) : mVar 8 (v :: r) h = mVar 7 r h := rfl
@[simp] theorem vs9 (v : Option PV) (r : Sl) : mVar 9 (v :: r) h = mVar 8 r h := rfl
@[simp] theorem vs10 (v : Option PV) (r : Sl) : mVar 10 (v :: r) h = mVar 9 r h := rfl
@[simp] theorem vs11 (v : Option PV) (r : Sl) : mVar 11 (v :: r) h = mVar 10 r h := rfl
@[simp] theorem vs12 (v : Option PV) (r : Sl) : mVar 12 (v :: r) h = mVar 11 r h := rfl
@[simp] theorem vs13 (v : Option PV) (r : Sl) : mVar 13 (v :: r) h = mVar 12 r h := rfl
@[simp] theorem vs14 (v : Option PV) (r : Sl) : mVar 14 (v :: r) h = mVar 13 r h := rfl
@[simp] theorem vs15 (v : Option PV) (r : Sl) : mVar 15 (v :: r) h = mVar 14 r h := rfl
@[simp] theorem vs16 (v : Option PV) (r : Sl) : mVar 16 (v :: r) h = mVar 15 r h := rfl
@[simp] theorem vs17 (v : Option PV) (r : Sl) : mVar 17 (v :: r) h = mVar 16 r h := rfl
@[simp] theorem vs18 (v : Option PV) (r : Sl) : mVar 18 (v :: r) h = mVar 17 r h := rfl
@[simp] theorem vs19 (v : Option PV) (r : Sl) : mVar 19 (v :: r) h = mVar 18 r h := rfl
@[simp] theorem vs20 (v : Option PV) (r : Sl) : mVar 20 (v :: r) h = mVar 19 r h := rfl
@[simp] theorem mOp1_e (f : PV → VH → Option PV) (a : EM) : mOp1 f a σ h = (a σ h).bnd fun x h1 => retO (f x h1) h1 := rfl
@[simp] theorem mOp2_e (f : PV → PV → VH → Option PV) (a b : EM) : mOp2 f a b σ h = (a σ h).bnd fun x h1 => (b σ h1).bnd fun y h2 => retO (f x y h2) h2 := rfl
@[simp] theorem mNil_e : mNil σ h = .ok [] h := rfl
@[simp] theorem mCons_e (a : EM) (r : AM) : mCons a r σ h = (a σ h).bnd fun x h1 => (r σ h1).bnd fun xs h2 => .ok (x :: xs) h2 := rfl
@[simp] theorem mCall_e (F : Fn) (as : AM) : mCall F as σ h = (as σ h).bnd F := rfl
@[simp] theorem mBi_e (F : List PV → VH → Option PV) (as : AM) : mBi F as σ h = (as σ h).bnd fun vs h1 => retO (F vs h1) h1 := rfl
@[simp] theorem mBiL_e (F : List PV → VH → Option (List PV)) (as : AM) : mBiL F as σ h = (as σ h).bnd fun vs h1 => retO (F vs h1) h1 := rfl
@[simp] theorem calm_ok (a : α) (h : VH) : (R.ok a h).calm = .ok a h := rfl
theorem mMethB_e (ks : List String) (B : Bm) (o : EM) (as : AM) : mMeth noC ks B o as σ h = ((o σ h).calm).bnd fun x h1 => match clsOf x h1 with
  | some _ => .bad
  | none => if kind x h1 ∈ ks then (as σ h1).bnd fun vs h2 => retH (if kind x h2 = kind x h1 then B x vs h2 else none) else .bad := by
  unfold mMeth
  congr 1
@[simp] theorem mIf_e (t : TM) (a b : EM) : mIf t a b σ h = (t σ h).bnd fun c h1 => if c = true then a σ h1 else b σ h1 := rfl
@[simp] theorem mTest_e (a : EM) : mTest a σ h = (a σ h).bnd fun x h1 => match x with
  | .bl b => .ok b h1
  | _ => .bad := rfl
@[simp] theorem mTruth_e (a : EM) : mTruth a σ h = (a σ h).bnd truth := rfl
@[simp] theorem mAnd_e (t u : TM) : mAnd t u σ h = (t σ h).bnd fun c h1 => if c = true then u σ h1 else .ok false h1 := rfl
@[simp] theorem mOr_e (t u : TM) : mOr t u σ h = (t σ h).bnd fun c h1 => if c = true then .ok true h1 else u σ h1 := rfl
@[simp] theorem mNot_e (t : TM) : mNot t σ h = (t σ h).bnd fun c h1 => .ok (!c) h1 := rfl
@[simp] theorem mAndV_e (a b : EM) : mAndV a b σ h = (a σ h).bnd fun x h1 => match x with
  | .bl true => b σ h1
  | .bl false => .ok (.bl false) h1
  | _ => .bad := rfl
@[simp] theorem mOrV_e (a b : EM) : mOrV a b σ h = (a σ h).bnd fun x h1 => match x with
  | .bl false => b σ h1
  | .bl true => .ok (.bl true) h1
  | _ => .bad := rfl
@[simp] theorem mNoPart_e : mNoPart σ h = .ok none h := rfl
@[simp] theorem mPart_e (a : EM) : mPart a σ h = (a σ h).bnd fun x h1 => match x with
  | .int i => .ok (some i) h1
  | _ => .bad := rfl
@[simp] theorem mSl_e (a : EM) (lo hi : OM) : mSl a lo hi σ h = (a σ h).bnd fun x h1 => (lo σ h1).bnd fun l h2 => (hi σ h2).bnd fun u h3 => retO (slO x l u h3) h3 := rfl
@[simp] theorem mTup_e (as : AM) : mTup as σ h = (as σ h).bnd fun xs h1 => if xs.length ≤ line then .ok (.tup xs) h1 else .bad := rfl
@[simp] theorem mFz_e (m : AM) : mFz m σ h = (m σ h).bnd fun xs h1 => .ok (.lst xs) h1 := rfl
@[simp] theorem mReg_e (m : AM) : mReg m σ h = (m σ h).bnd fun xs h1 => .ok (.ref h1.length) (h1 ++ [.lst xs]) := rfl
@[simp] theorem mNewL_e (as : AM) : mNewL as σ h = (as σ h).bnd fun xs h1 => if xs.length ≤ line then .ok xs h1 else .bad := rfl
@[simp] theorem mRegD_e (m : DM) : mRegD m σ h = (m σ h).bnd fun kvs h1 => .ok (.ref h1.length) (h1 ++ [.dct kvs]) := rfl
@[simp] theorem mPNil_e : mPNil σ h = .ok [] h := rfl
@[simp] theorem mPCons_e (k v : EM) (r : DM) : mPCons k v r σ h = (k σ h).bnd fun x h1 => (v σ h1).bnd fun y h2 => if keyOk x then (r σ h2).bnd fun kvs h3 => .ok ((x, y) :: kvs) h3 else .bad := rfl
@[simp] theorem mDisp_e (m : DM) : mDisp m σ h = ((m σ h).calm).bnd fun kvs h1 => .ok (kmerge [] kvs) h1 := rfl
@[simp] theorem mIter_e (a : EM) : mIter a σ h = (a σ h).bnd fun x h1 => match x with
  | .lst l => .ok l h1
  | .tup l => .ok l h1
  | .str s => .ok (s.map fun c => .str [c]) h1
  | .scr l => .ok (l.map PV.int) h1
  | _ => .bad := rfl
@[simp] theorem mRange_e (as : AM) : mRange as σ h = (as σ h).bnd fun xs h1 => match xs with
  | [.int j] => if rngOk j then .ok (rangeL 0 j.toNat) h1 else .bad
  | [.int i, .int j] => if rngOk i && rngOk j then .ok (rangeL i (j - i).toNat) h1 else .bad
  | _ => .bad := rfl
@[simp] theorem tName_e (i : Nat) (v : PV) : tName i v σ h = some (σ.set i (some v), h) := rfl
@[simp] theorem tNil_e : tNil [] σ h = some (σ, h) := rfl
@[simp] theorem tCons_e (t : GM) (u : GMs) (v : PV) (r : List PV) : tCons t u (v :: r) σ h = match t v σ h with
  | some (σ', h') => u r σ' h'
  | none => none := rfl
@[simp] theorem tTup_e (t : GMs) (l : List PV) : tTup t (.tup l) σ h = t l σ h := rfl
@[simp] theorem tSub_e (o i : EM) (v : PV) : tSub o i v σ h = match (o σ h).opt with
  | some (x, h1) => match (i σ h1).opt with
    | some (y, h2) => match setIx x y v h2 with
      | some h3 => some (σ, h3)
      | none => none
    | none => none
  | none => none := rfl
@[simp] theorem opt_ok (a : α) (h : VH) : (R.ok a h).opt = some (a, h) := rfl
@[simp] theorem mYes_e : mYes σ h = .ok true h := rfl
@[simp] theorem mLc_e (it : IM) (tg : GM) (t : TM) (e : EM) (own : List Nat) : mLc it tg t e own σ h = (it σ h).bnd fun xs h1 => lcLoop tg t e (wipe σ own) xs [] h1 := rfl
@[simp] theorem sSkip_e : sSkip σ h = .nx σ h := rfl
@[simp] theorem sAsg_e (e : EM) (t : GM) : sAsg e t σ h = (e σ h).thn σ fun v h1 => match t v σ h1 with
  | some (σ', h2) => .nx σ' h2
  | none => .bad := rfl
@[simp] theorem sAug_e (i : Nat) (f : PV → PV → VH → Option PV) (e : EM) : sAug i f e σ h = (mVar i σ h).thn σ fun x h0 => (e σ h0).thn σ fun y h1 => match f x y h1 with
  | some z => .nx (σ.set i (some z)) h1
  | none => .bad := rfl
@[simp] theorem sExpr_e (e : EM) : sExpr e σ h = (e σ h).thn σ fun _ h1 => .nx σ h1 := rfl
@[simp] theorem sIf_e (t : TM) (a b : SM) : sIf t a b σ h = (t σ h).thn σ fun c h1 => if c = true then a σ h1 else b σ h1 := rfl
@[simp] theorem sRet_e (e : EM) : sRet e σ h = (e σ h).thn σ fun v h1 => .ret v h1 := rfl
@[simp] theorem sRetN_e : sRetN σ h = .ret .non h := rfl
@[simp] theorem sBrk_e : sBrk σ h = .brk σ h := rfl
@[simp] theorem sCnt_e : sCnt σ h = .cnt σ h := rfl
@[simp] theorem sRaise0_e (c : Nat) : sRaise0 c σ h = .exc c [] σ h := rfl
@[simp] theorem sPar2_e (i j : Nat) (m : AM) : sPar2 i j m σ h = (m σ h).thn σ fun vs h1 => match vs with
  | [a, b] => .nx ((σ.set i (some a)).set j (some b)) h1
  | _ => .bad := rfl
@[simp] theorem sPar3_e (i j l : Nat) (m : AM) : sPar3 i j l m σ h = (m σ h).thn σ fun vs h1 => match vs with
  | [a, b, d] => .nx (((σ.set i (some a)).set j (some b)).set l (some d)) h1
  | _ => .bad := rfl
@[simp] theorem sFor_e (it : IM) (tg : GM) (b : SM) : sFor it tg b σ h = (it σ h).thn σ fun xs h1 => forL tg b xs σ h1 := rfl
@[simp] theorem forL_nil (tg : GM) (b : SM) : forL tg b [] σ h = .nx σ h := rfl
@[simp] theorem forL_cons (tg : GM) (b : SM) (x : PV) (r : List PV) : forL tg b (x :: r) σ h = match tg x σ h with
  | some (σ', h1) => (b σ' h1).again (forL tg b r)
  | none => .bad := rfl
@[simp] theorem again_nx (k : Sl → VH → RS) : (RS.nx σ h).again k = k σ h := rfl
@[simp] theorem again_cnt (k : Sl → VH → RS) : (RS.cnt σ h).again k = k σ h := rfl
@[simp] theorem again_brk (k : Sl → VH → RS) : (RS.brk σ h).again k = .nx σ h := rfl
@[simp] theorem again_ret (v : PV) (k : Sl → VH → RS) : (RS.ret v h).again k = .ret v h := rfl
@[simp] theorem again_exc (c : Nat) (fs : List (Nat × PV)) (k : Sl → VH → RS) : (RS.exc c fs σ h).again k = .exc c fs σ h := rfl
@[simp] theorem lc_nil (tg : GM) (t : TM) (e : EM) (acc : List PV) : lcLoop tg t e σ [] acc h = .ok acc h := rfl
@[simp] theorem sSeq_e (a b : SM) : sSeq a b σ h = match a σ h with
  | .nx σ' h' => b σ' h'
  | r => r := rfl
@[simp] theorem strLe_line : (16777216 : Nat) = line := rfl
@[simp] theorem sTry_e (a : SM) (cs : Nat → Option Bool) (b : SM) : sTry a cs b σ h = match a σ h with
  | .exc c fs σ' h' => match cs c with
    | some true => (b σ' h').calm
    | some false => .exc c fs σ' h'
    | none => .bad
  | r => r := rfl
end
theorem Seq {a b : SM} {σ σ' : Sl} {h h' : VH} {Q : RS → Prop} (e : a σ h = .nx σ' h') (k : Q (b σ' h')) : Q (sSeq a b σ h) := by
  rw [sSeq_e, e]; exact k
theorem seqE {a b : SM} {σ σ' : Sl} {h h' : VH} (e : a σ h = .nx σ' h') : sSeq a b σ h = b σ' h' := by rw [sSeq_e, e]
/-! ### while, turn by turn -/
theorem again_bad {r : RS} {k : Sl → VH → RS} (h : r.again k ≠ .bad) : ∀ {σ : Sl} {g : VH}, (r = .nx σ g ∨ r = .cnt σ g) → k σ g ≠ .bad := by
  intro σ g e
  rcases e with e | e <;> subst e <;> exact h
theorem again_eq {r : RS} {k k' : Sl → VH → RS} (h : ∀ σ g, (r = .nx σ g ∨ r = .cnt σ g) → k σ g = k' σ g) : r.again k = r.again k' := by
  cases r with
  | nx σ g => exact h σ g (.inl rfl)
  | cnt σ g => exact h σ g (.inr rfl)
  | _ => rfl
theorem whN_mono (t : TM) (b : SM) : ∀ (n m : Nat) (σ : Sl) (h : VH), whN t b n σ h ≠ .bad → n ≤ m → whN t b m σ h = whN t b n σ h
  | 0, m, σ, h, e, _ => absurd rfl e
  | n + 1, 0, σ, h, e, l => by omega
  | n + 1, m + 1, σ, h, e, l => by
    unfold whN at e ⊢
    cases et : t σ h with
    | ok c h1 =>
      rw [et] at e
      simp only [R.thn_ok] at e ⊢
      cases c with
      | true =>
        simp only [if_true] at e ⊢
        exact again_eq fun σ' g hr => whN_mono t b n m σ' g (again_bad e hr) (by omega)
      | false => rfl
    | exc c fs h1 => rfl
    | bad => rfl
open Classical in
theorem sWhile_e (t : TM) (b : SM) (σ : Sl) (h : VH) : sWhile t b σ h = (t σ h).thn σ fun c h1 => if c = true then (b σ h1).again (sWhile t b) else .nx σ h1 := by
  have key : ∀ σ h n, whN t b n σ h ≠ .bad → sWhile t b σ h = whN t b n σ h := fun σ h n hn => by
    have ex : ∃ n, whN t b n σ h ≠ .bad := ⟨n, hn⟩
    unfold sWhile
    rw [dif_pos ex]
    rcases Nat.le_total (Classical.choose ex) n with l | l
    · exact (whN_mono t b _ _ σ h (Classical.choose_spec ex) l).symm
    · exact whN_mono t b _ _ σ h hn l
  have none_ : ∀ σ h, (∀ n, whN t b n σ h = .bad) → sWhile t b σ h = .bad := fun σ h hn => by
    unfold sWhile
    rw [dif_neg fun ⟨n, z⟩ => z (hn n)]
  by_cases ex : ∃ n, whN t b n σ h ≠ .bad
  · obtain ⟨n, hn⟩ := ex
    rw [key σ h n hn]
    cases n with
    | zero => exact absurd rfl hn
    | succ n =>
      unfold whN at hn ⊢
      cases et : t σ h with
      | ok c h1 =>
        rw [et] at hn
        simp only [R.thn_ok] at hn ⊢
        cases c with
        | true =>
          simp only [if_true] at hn ⊢
          exact again_eq fun σ' g hr => (key σ' g n (again_bad hn hr)).symm
        | false => rfl
      | exc c fs h1 => rfl
      | bad => rfl
  · have all : ∀ n, whN t b n σ h = .bad := fun n => Classical.byContradiction fun z => ex ⟨n, z⟩
    rw [none_ σ h all]
    have h1 := all 1
    unfold whN at h1
    cases et : t σ h with
    | ok c h1' =>
      have alls : ∀ n, (if c = true then (b σ h1').again (whN t b n) else .nx σ h1') = RS.bad := fun n => by
        have := all (n + 1)
        unfold whN at this
        rw [et] at this
        exact this
      simp only [R.thn_ok]
      cases c with
      | false => exact (alls 0).symm
      | true =>
        simp only [if_true] at alls ⊢
        cases eb : b σ h1' with
        | nx σ' g => rw [eb] at alls; exact (none_ σ' g alls).symm
        | cnt σ' g => rw [eb] at alls; exact (none_ σ' g alls).symm
        | brk σ' g => have := alls 0; rw [eb] at this; cases this
        | ret v g => have := alls 0; rw [eb] at this; cases this
        | exc c fs σ' g => have := alls 0; rw [eb] at this; cases this
        | bad => rfl
    | exc c fs h2 => rw [et] at h1; cases h1
    | bad => rfl
/-! ### comprehensions -/
/-- each turn gives f of the item, and the heap stays -/
theorem lc_map {tg : GM} {e : EM} {σ : Sl} {h : VH} (f : PV → PV) : ∀ (xs acc : List PV), acc.length + xs.length ≤ line → (∀ x ∈ xs, ∃ σ', tg x σ h = some (σ', h) ∧ e σ' h = .ok (f x) h) → lcLoop tg mYes e σ xs acc h = .ok (acc ++ xs.map f) h
  | [], acc, _, _ => by simp
  | x :: r, acc, hl, hx => by
    obtain ⟨σ', e1, e2⟩ := hx x List.mem_cons_self
    unfold lcLoop
    rw [List.length_cons] at hl
    simp only [e1, mYes_e, calm_ok, R.bnd_ok, if_true, e2]
    rw [if_pos (Nat.blt_eq.mpr (by omega)), lc_map f r _ (by simp; omega) fun y hy => hx y (List.mem_cons_of_mem _ hy)]
    simp
/-- each turn keeps I of the heap and gives something of which P holds -/
theorem lc_inv {tg : GM} {e : EM} {σ : Sl} (I : VH → Prop) (Pp : PV → Prop) : ∀ (xs acc : List PV) (h : VH), acc.length + xs.length ≤ line → I h → (∀ x ∈ xs, ∀ h, I h → ∃ σ', tg x σ h = some (σ', h) ∧ ∃ y h', e σ' h = .ok y h' ∧ I h' ∧ Pp y) →
    ∃ ys h', lcLoop tg mYes e σ xs acc h = .ok (acc ++ ys) h' ∧ I h' ∧ (∀ y ∈ ys, Pp y) ∧ ys.length = xs.length
  | [], acc, h, _, i, _ => ⟨[], h, by simp, i, by simp, rfl⟩
  | x :: r, acc, h, hl, i, hx => by
    obtain ⟨σ', e1, y, h1, e2, i1, py⟩ := hx x List.mem_cons_self h i
    rw [List.length_cons] at hl
    obtain ⟨ys, h', e3, i', ps, l⟩ := lc_inv I Pp r (acc ++ [y]) h1 (by simp; omega) i1 fun z hz => hx z (List.mem_cons_of_mem _ hz)
    refine ⟨y :: ys, h', ?_, i', ?_, by simp [l]⟩
    · unfold lcLoop
      simp only [e1, mYes_e, calm_ok, R.bnd_ok, if_true, e2]
      rw [if_pos (Nat.blt_eq.mpr (by omega)), e3]
      simp
    · intro z hz
      rcases List.mem_cons.mp hz with q | q
      · rw [q]; exact py
      · exact ps z q
/-- a for whose turns keep an invariant -/
theorem for_inv {tg : GM} {b : SM} (I : Nat → Sl → VH → Prop) : ∀ (xs : List PV) (i : Nat) (σ : Sl) (h : VH), I i σ h → (∀ j x, xs[j]? = some x → ∀ σ h, I (i + j) σ h → ∃ σ1 h1, tg x σ h = some (σ1, h1) ∧ ∃ σ2 h2, (b σ1 h1 = .nx σ2 h2 ∨ b σ1 h1 = .cnt σ2 h2) ∧ I (i + j + 1) σ2 h2) →
    ∃ σ' h', forL tg b xs σ h = .nx σ' h' ∧ I (i + xs.length) σ' h'
  | [], i, σ, h, hi, _ => ⟨σ, h, rfl, hi⟩
  | x :: r, i, σ, h, hi, hx => by
    obtain ⟨σ1, h1, e1, σ2, h2, e2, i2⟩ := hx 0 x rfl σ h hi
    obtain ⟨σ', h', e3, i3⟩ := for_inv I r (i + 1) σ2 h2 i2 fun j y hy σ h hj => by
      have := hx (j + 1) y (by simpa using hy) σ h (by rw [show i + (j + 1) = i + 1 + j by omega]; exact hj)
      rw [show i + (j + 1) + 1 = i + 1 + j + 1 by omega] at this
      exact this
    refine ⟨σ', h', ?_, by rw [List.length_cons, show i + (r.length + 1) = i + 1 + r.length by omega]; exact i3⟩
    rw [forL_cons, e1]
    rcases e2 with e2 | e2
    · simp only [e2, again_nx]; exact e3
    · simp only [e2, again_cnt]; exact e3
/-! ### slices of texts and lists -/
theorem cutIx_nn (n d i : Nat) : cutIx n d (some (i : Int)) = min i n := by
  show (if (i : Int) < 0 then ((i : Int) + n).toNat else min (i : Int).toNat n) = _
  rw [if_neg (by omega), Int.toNat_natCast]
theorem cut_nn {α : Type} (l : List α) (i k : Nat) : cut l (some (i : Int)) (some (k : Int)) = (l.drop i).take (k - i) := by
  unfold cut
  rw [cutIx_nn, cutIx_nn]
  by_cases h : i ≤ l.length
  · rw [Nat.min_eq_left h]
    by_cases h2 : k ≤ l.length
    · rw [Nat.min_eq_left h2]
    · have e : min k l.length = l.length := Nat.min_eq_right (by omega)
      have ed := List.length_drop (i := i) (l := l)
      rw [e, List.take_of_length_le (Nat.le_of_eq ed), List.take_of_length_le (show (l.drop i).length ≤ k - i by omega)]
  · have e : min i l.length = l.length := Nat.min_eq_right (by omega)
    rw [e, List.drop_eq_nil_of_le (show l.length ≤ i by omega), List.drop_eq_nil_of_le (Nat.le_refl _)]
    simp
theorem cut_lo {α : Type} (l : List α) (i : Nat) : cut l (some (i : Int)) none = l.drop i := by
  unfold cut
  rw [cutIx_nn]
  show (l.drop (min i l.length)).take (l.length - min i l.length) = _
  by_cases h : i ≤ l.length
  · rw [Nat.min_eq_left h]
    exact List.take_of_length_le (Nat.le_of_eq List.length_drop)
  · have e : min i l.length = l.length := Nat.min_eq_right (by omega)
    rw [e, List.drop_eq_nil_of_le (show l.length ≤ i by omega), List.drop_eq_nil_of_le (Nat.le_refl _)]
    simp
theorem cut_hi {α : Type} (l : List α) (k : Nat) : cut l none (some (k : Int)) = l.take k := by
  unfold cut
  rw [cutIx_nn]
  show (l.drop 0).take (min k l.length - 0) = _
  rw [Nat.sub_zero, List.drop_zero]
  by_cases h2 : k ≤ l.length
  · rw [Nat.min_eq_left h2]
  · have e : min k l.length = l.length := Nat.min_eq_right (by omega)
    rw [e, List.take_of_length_le (Nat.le_refl _), List.take_of_length_le (show l.length ≤ k by omega)]
theorem atI_nn {n i : Nat} (h : i < n) : atI n (i : Int) = some i := by
  unfold atI
  simp
  omega
theorem itO_nn {α : Type} (l : List α) (i : Nat) : itO l (i : Int) = l[i]? := by
  unfold itO
  by_cases h : i < l.length
  · rw [atI_nn h]; rfl
  · rw [List.getElem?_eq_none (by omega)]
    have : atI l.length (i : Int) = none := by
      unfold atI
      simp
      omega
    rw [this]
    rfl
theorem get_p {h0 : VH} {a : VO} {r : VH} : (h0 ++ a :: r)[h0.length]? = some a := by simp
theorem get_q {h0 : VH} {a b : VO} {r : VH} : (h0 ++ a :: b :: r)[h0.length + 1]? = some b := by simp
/-! ### operations on values -/
section
variable (h : VH)
@[simp] theorem add_int (a b : Int) : binO .Add (.int a) (.int b) h = some (.int (a + b)) := rfl
@[simp] theorem sub_int (a b : Int) : binO .Sub (.int a) (.int b) h = some (.int (a - b)) := rfl
@[simp] theorem mul_int (a b : Int) : binO .Mult (.int a) (.int b) h = if mulOk a || mulOk b then some (.int (a * b)) else none := rfl
@[simp] theorem div_int (a b : Int) : binO .FloorDiv (.int a) (.int b) h = if divOk b then some (.int (a / b)) else none := rfl
@[simp] theorem mod_int (a b : Int) : binO .Mod (.int a) (.int b) h = if 0 < b then some (.int (a % b)) else none := rfl
@[simp] theorem add_str (a b : List Nat) : binO .Add (.str a) (.str b) h = if a.length + b.length ≤ line then some (.str (a ++ b)) else none := rfl
@[simp] theorem mul_str (a : List Nat) (b : Int) : binO .Mult (.str a) (.int b) h = if a.length * b.toNat ≤ line ∧ rngOk b = true then some (.str (rep a b.toNat)) else none := rfl
@[simp] theorem mul_tup (a : List PV) (b : Int) : binO .Mult (.tup a) (.int b) h = if a.length * b.toNat ≤ line ∧ rngOk b = true then some (.tup (rep a b.toNat)) else none := rfl
@[simp] theorem aadd_int (a b : Int) : augO .Add (.int a) (.int b) h = some (.int (a + b)) := rfl
@[simp] theorem asub_int (a b : Int) : augO .Sub (.int a) (.int b) h = some (.int (a - b)) := rfl
@[simp] theorem adiv_int (a b : Int) : augO .FloorDiv (.int a) (.int b) h = if divOk b then some (.int (a / b)) else none := rfl
@[simp] theorem aadd_str (a b : List Nat) : augO .Add (.str a) (.str b) h = if a.length + b.length ≤ line then some (.str (a ++ b)) else none := rfl
@[simp] theorem neg_int (a : Int) : negO (.int a) h = some (.int (-a)) := rfl
@[simp] theorem lt_int (a b : Int) : cmpV .Lt (.int a) (.int b) h = some (.bl (decide (a < b))) := rfl
@[simp] theorem le_int (a b : Int) : cmpV .LtE (.int a) (.int b) h = some (.bl (decide (a ≤ b))) := rfl
@[simp] theorem gt_int (a b : Int) : cmpV .Gt (.int a) (.int b) h = some (.bl (decide (b < a))) := rfl
@[simp] theorem ge_int (a b : Int) : cmpV .GtE (.int a) (.int b) h = some (.bl (decide (b ≤ a))) := rfl
@[simp] theorem is_non (a : PV) : cmpV .Is a .non h = some (.bl (decide (a = .non))) := by simp [cmpV, cmpO]
@[simp] theorem isnot_non (a : PV) : cmpV .IsNot a .non h = some (.bl (!decide (a = .non))) := by simp [cmpV, cmpO]
theorem dec_inj {α β : Type} [DecidableEq α] [DecidableEq β] {f : α → β} (hf : ∀ a b, f a = f b → a = b) (a b : α) : decide (f a = f b) = decide (a = b) := by
  by_cases e : a = b
  · rw [decide_eq_true e, decide_eq_true (congrArg f e)]
  · rw [decide_eq_false e, decide_eq_false fun z => e (hf a b z)]
@[simp] theorem eq_int (a b : Int) : cmpV .Eq (.int a) (.int b) h = some (.bl (decide (a = b))) := by
  show some (PV.bl (decide (PV.int a = PV.int b))) = _
  rw [dec_inj fun _ _ e => PV.int.inj e]
@[simp] theorem ne_int (a b : Int) : cmpV .NotEq (.int a) (.int b) h = some (.bl (!decide (a = b))) := by
  show some (PV.bl (!decide (PV.int a = PV.int b))) = _
  rw [dec_inj fun _ _ e => PV.int.inj e]
@[simp] theorem eq_str (a b : List Nat) : cmpV .Eq (.str a) (.str b) h = some (.bl (decide (a = b))) := by
  show some (PV.bl (decide (PV.str a = PV.str b))) = _
  rw [dec_inj fun _ _ e => PV.str.inj e]
@[simp] theorem ne_str (a b : List Nat) : cmpV .NotEq (.str a) (.str b) h = some (.bl (!decide (a = b))) := by
  show some (PV.bl (!decide (PV.str a = PV.str b))) = _
  rw [dec_inj fun _ _ e => PV.str.inj e]
theorem eq_plain {x y : PV} (hx : (look x h).plain = true) (hy : (look y h).plain = true) (nx : ∀ b, look x h ≠ .bl b) (dx : (look x h).dep ≤ 60) (dy : (look y h).dep ≤ 60) : cmpV .Eq x y h = some (.bl (decide (look x h = look y h))) := by
  show (eqO (look x h) (look y h)).map PV.bl = _
  have : eqO (look x h) (look y h) = some (decide (look x h = look y h)) := by
    unfold eqO
    split
    · rename_i a b e1 e2; exact absurd e1 (nx a)
    · rw [hx, hy, Nat.ble_eq.mpr dx, Nat.ble_eq.mpr dy]; rfl
  rw [this]; rfl
theorem ne_plain {x y : PV} (hx : (look x h).plain = true) (hy : (look y h).plain = true) (nx : ∀ b, look x h ≠ .bl b) (dx : (look x h).dep ≤ 60) (dy : (look y h).dep ≤ 60) : cmpV .NotEq x y h = some (.bl (!decide (look x h = look y h))) := by
  have e := eq_plain h hx hy nx dx dy
  show ((eqO (look x h) (look y h)).map (!·)).map PV.bl = _
  have e : (eqO (look x h) (look y h)).map PV.bl = some (.bl (decide (look x h = look y h))) := e
  cases q : eqO (look x h) (look y h) with
  | none => rw [q] at e; cases e
  | some b => rw [q] at e; cases e; rfl
@[simp] theorem in_str (a b : List Nat) : cmpV .In (.str a) (.str b) h = some (.bl (within a b)) := rfl
@[simp] theorem ix_str (s : List Nat) (i : Int) : ixO (.str s) (.int i) h = (itO s i).map fun c => .str [c] := rfl
@[simp] theorem ix_tup (s : List PV) (i : Int) : ixO (.tup s) (.int i) h = itO s i := rfl
@[simp] theorem ix_lst (s : List PV) (i : Int) : ixO (.lst s) (.int i) h = itO s i := rfl
theorem ix_refl {n : Nat} {l : List PV} {i : Int} {h : VH} (e : h[n]? = some (.lst l)) : ixO (.ref n) (.int i) h = itO l i := by
  unfold ixO asSeq asList
  simp only [e]
theorem ix_refd {n : Nat} {kvs : List (PV × PV)} {k : PV} {h : VH} (e : h[n]? = some (.dct kvs)) : ixO (.ref n) k h = if keyOk k then kget kvs k else none := by
  unfold ixO asSeq asList asDict
  simp only [e]
@[simp] theorem sl_str (s : List Nat) (lo hi : Option Int) : slO (.str s) lo hi h = some (.str (cut s lo hi)) := rfl
@[simp] theorem sl_lst (s : List PV) (lo hi : Option Int) : slO (.lst s) lo hi h = some (.lst (cut s lo hi)) := rfl
theorem sl_refl {n : Nat} {l : List PV} {lo hi : Option Int} {h : VH} (e : h[n]? = some (.lst l)) : slO (.ref n) lo hi h = some (.lst (cut l lo hi)) := by
  unfold slO asList
  simp only [e]
  rfl
@[simp] theorem truth_bl (b : Bool) : truth (.bl b) h = .ok b h := rfl
@[simp] theorem truth_str (b : List Nat) : truth (.str b) h = .ok (!b.isEmpty) h := rfl
@[simp] theorem truth_int (b : Int) : truth (.int b) h = .ok (b != 0) h := rfl
@[simp] theorem truth_non : truth .non h = .ok false h := rfl
@[simp] theorem len_str (s : List Nat) : bLen [.str s] h = some (.int s.length) := rfl
@[simp] theorem len_tup (s : List PV) : bLen [.tup s] h = some (.int s.length) := rfl
@[simp] theorem len_lst (s : List PV) : bLen [.lst s] h = some (.int s.length) := rfl
theorem len_ref {n : Nat} {l : List PV} {h : VH} (e : h[n]? = some (.lst l)) : bLen [.ref n] h = some (.int l.length) := by
  unfold bLen asSeq asList
  simp only [e]
@[simp] theorem ord_1 (c : Nat) : bOrd [.str [c]] h = some (.int c) := rfl
@[simp] theorem abs_1 (i : Int) : bAbs [.int i] h = some (.int (if i < 0 then -i else i)) := rfl
@[simp] theorem int_1 (i : Int) : bInt [.int i] h = some (.int i) := rfl
@[simp] theorem str_1 (i : Int) : bStr [.int i] h = if strOk i then some (.str (numS i.toNat)) else none := rfl
@[simp] theorem sum_1 (l : List PV) : bSum [.lst l] h = (intsOf l).map fun is => .int is.sum := rfl
@[simp] theorem any_1 (l : List PV) : bAny [.lst l] h = (blsOf l).map fun bs => .bl (bs.any id) := rfl
@[simp] theorem all_1 (l : List PV) : bAll [.lst l] h = (blsOf l).map fun bs => .bl (bs.all id) := rfl
theorem tuple_ref {n : Nat} {l : List PV} {h : VH} (e : h[n]? = some (.lst l)) : bTuple [.ref n] h = some (.tup l) := by
  unfold bTuple asList
  simp only [e]
  rfl
theorem list_ref {n : Nat} {l : List PV} {h : VH} (e : h[n]? = some (.lst l)) : bList [.ref n] h = some l := by
  unfold bList asSeq asList
  simp only [e]
@[simp] theorem isi_ss (a : List Nat) : isiO "str" (.str a) = some (.bl true) := rfl
@[simp] theorem isi_st (a : List PV) : isiO "str" (.tup a) = some (.bl false) := rfl
@[simp] theorem isi_tt (a : List PV) : isiO "tuple" (.tup a) = some (.bl true) := rfl
@[simp] theorem isi_ts (a : List Nat) : isiO "tuple" (.str a) = some (.bl false) := rfl
@[simp] theorem mIsi_e (t : String) (a : EM) (σ : Sl) : mIsi t a σ h = (a σ h).bnd fun x h1 => retO (isiO t x) h1 := rfl
@[simp] theorem keyOk_str (a : List Nat) : keyOk (.str a) = true := rfl
@[simp] theorem keyOk_int (a : Int) : keyOk (.int a) = true := rfl
/-! methods -/
theorem bm_list {B : Bm} {o : EM} {as : AM} {σ : Sl} {h : VH} {n : Nat} {l : List PV} {vs : List PV} (eo : o σ h = .ok (.ref n) h) (e : h[n]? = some (.lst l)) (ea : as σ h = .ok vs h) : mMeth noC ["list"] B o as σ h = retH (B (.ref n) vs h) := by
  rw [mMethB_e, eo]
  simp only [calm_ok, R.bnd_ok]
  have e1 : clsOf (.ref n) h = none := by unfold clsOf; simp only [e]
  have e2 : kind (.ref n) h = "list" := by unfold kind; simp only [e]
  rw [e1, e2]
  simp [ea, e2]
theorem bm_dict {B : Bm} {o : EM} {as : AM} {σ : Sl} {h : VH} {n : Nat} {l : List (PV × PV)} {vs : List PV} (eo : o σ h = .ok (.ref n) h) (e : h[n]? = some (.dct l)) (ea : as σ h = .ok vs h) : mMeth noC ["dict"] B o as σ h = retH (B (.ref n) vs h) := by
  rw [mMethB_e, eo]
  simp only [calm_ok, R.bnd_ok]
  have e1 : clsOf (.ref n) h = none := by unfold clsOf; simp only [e]
  have e2 : kind (.ref n) h = "dict" := by unfold kind; simp only [e]
  rw [e1, e2]
  simp [ea, e2]
theorem bm_str {B : Bm} {o : EM} {as : AM} {σ : Sl} {h h1 : VH} {s : List Nat} {vs : List PV} (eo : o σ h = .ok (.str s) h) (ea : as σ h = .ok vs h1) : mMeth noC ["str"] B o as σ h = retH (B (.str s) vs h1) := by
  rw [mMethB_e, eo]
  simp only [calm_ok, R.bnd_ok]
  have e1 : ∀ h, clsOf (.str s) h = none := fun _ => rfl
  have e2 : ∀ h, kind (.str s) h = "str" := fun _ => rfl
  simp [e1, e2, ea]
theorem append_ref {n : Nat} {l : List PV} {v : PV} {h : VH} (e : h[n]? = some (.lst l)) (hl : l.length < line) : bAppend (.ref n) [v] h = some (.non, h.set n (.lst (l ++ [v]))) := by
  unfold bAppend
  simp only [e]
  rw [if_pos (Nat.blt_eq.mpr hl)]
  rfl
/-- append, in a list that something else may have met in between -/
theorem bm_append {o : EM} {as : AM} {σ : Sl} {h h1 : VH} {n : Nat} {l l1 : List PV} {v : PV} (eo : o σ h = .ok (.ref n) h) (e : h[n]? = some (.lst l)) (ea : as σ h = .ok [v] h1) (e1 : h1[n]? = some (.lst l1)) (hl : l1.length < line) :
    mMeth noC ["list"] bAppend o as σ h = .ok .non (h1.set n (.lst (l1 ++ [v]))) := by
  rw [mMethB_e, eo]
  simp only [calm_ok, R.bnd_ok]
  have c1 : clsOf (.ref n) h = none := by unfold clsOf; simp only [e]
  have c2 : kind (.ref n) h = "list" := by unfold kind; simp only [e]
  have c3 : kind (.ref n) h1 = "list" := by unfold kind; simp only [e1]
  rw [c1, c2]
  simp [ea, c3, append_ref e1 hl]
end
theorem run_ret {np n : Nat} {b : SM} {vs : List PV} {h h' : VH} {v : PV} (hl : vs.length = np) (e : b (startS n vs) h = .ret v h') : runDef np n b vs h = .ok v h' := by
  unfold runDef
  rw [if_pos hl, e]
theorem run_nx {np n : Nat} {b : SM} {vs : List PV} {h h' : VH} {σ : Sl} (hl : vs.length = np) (e : b (startS n vs) h = .nx σ h') : runDef np n b vs h = .ok .non h' := by
  unfold runDef
  rw [if_pos hl, e]
theorem run_exc {np n : Nat} {b : SM} {vs : List PV} {h h' : VH} {σ : Sl} {c : Nat} {fs : List (Nat × PV)} (hl : vs.length = np) (e : b (startS n vs) h = .exc c fs σ h') : runDef np n b vs h = .exc c fs h' := by
  unfold runDef
  rw [if_pos hl, e]
end Y

set_option maxHeartbeats 1000000
namespace Y
open PySem PySem.Spec PyProof.Rows L2
section
variable {X : Cx} {T : Tab} {K : PySem.W.Frag} {W : WX} {L : Nat}
theorem Rh.wins {ρ : Pl} {ex : List Addr} {H : Hp} {h : VH} {n c f : Nat} {fs : List (Nat × PV)} {gs : List (Str × V)} {a C : Addr} {dx : Addr} {x : Str} {v : PV} {w : V} (rh : Rh T K ρ ex H h) (er : ρ[n]? = some (some a)) (hC : T.cls[c]? = some C) (ho : ∀ p ∈ fs, T.ok c p.1 = true)
    (nd : T.fnm.Nodup) (hf : T.fnm[f]? = some x) (hok : T.ok c f = true) (nf : NF H a) (rf : Rfs T K ρ ex H fs gs) (rv : Rv K ρ ex H v w) : Rh T K ρ ex (upd H a (.ins C dx (putF x w gs))) (vset h n (.ins c (fput f v fs))) := by
  have k : Kp ρ H ρ (upd H a (.ins C dx (putF x w gs))) := Kp.write er nf
  exact rh.write er nf ⟨a, C, dx, _, rfl, upd_same, hC, fput_ok hok ho, (rf.put nd hf rv).mono k noex⟩
/-- o.f = e -/
theorem fld (c : Ctx X T W L) (f : Nat) {o value : Expr} {x : Str} {mo mv : EM} {pos pos' : Pos} (ho : PE X o (rdE T X.K W mo)) (hv : PE X value (rdE T X.K W mv)) (hf : T.fnm[f]? = some x) (hs : swapsWith value (some (.Attribute o x pos')) pos.line X.env = pure false := by rfl) :
    PS X (.Assign [.Attribute o x pos'] value pos) (rdS T X.K W (sAt T.ok f mo mv)) := imS (ps_fld ho hv hs) fun D σ H h => by
  obtain ⟨ρ, ex, sl, hp, rs, rh, q⟩ := h
  refine ⟨ρ, ex, sl, hp, rs, rh, (q.thn rs).imp fun v h1 ρ1 H1 k1 rh1 q1 y ry => ?_⟩
  have rs1 := rs.mono k1 noex
  refine ⟨ρ1, ex, sl, h1, rs1, rh1, (FinS.thn rs1 q1).imp fun u h2 ρ2 H2 k2 rh2 q2 z rz => ?_⟩
  have rs2 := rs1.mono k2 noex
  cases es : setAt T.ok f u v h2 with
  | none => simp only [es] at q2; exact q2.elim
  | some h3 =>
    simp only [es] at q2
    unfold setAt at es
    split at es
    · split at es
      · rename_i n cc fs eh
        split at es
        · rename_i hc
          cases es
          obtain ⟨hok, hl⟩ := Bool.and_eq_true_iff.mp hc
          cases rz with
          | ref er =>
            rename_i a
            obtain ⟨C, dx, gs, ea, eC, eo, rf⟩ := rh2.insAt eh er
            have hl : fs.length < 900 := Nat.blt_eq.mp hl
            refine ⟨a, C, dx, gs, rfl, ea, c.tok.cl _ _ eC, c.tok.no _ _ _ _ eC hok hf, by rw [← rf.length]; omega, ?_⟩
            exact q2 ρ2 _ σ (Kp.write er (nfI ea)) (rh2.wins er eC eo c.tok.nd hf hok (nfI ea) rf (ry.mono k2 noex)) (rs2.mono (Kp.write er (nfI ea)) noex)
        · cases es
      · cases es
    · cases es
theorem at_ins {ok : Nat → Nat → Bool} {f : Nat} {u v : PV} {h : VH} (e : atO ok f u h = some v) : ∃ n c fs, u = .ref n ∧ h[n]? = some (.ins c fs) ∧ ok c f = true ∧ fget fs f = some v := atO_out e
/-- o.f op= e -/
theorem flda (c : Ctx X T W L) (f : Nat) (op : Operator) {o value : Expr} {x : Str} {mo mv : EM} {pos pos' : Pos} (ho : PE X o (rdE T X.K W mo)) (hv : PE X value (rdE T X.K W mv)) (hf : T.fnm[f]? = some x) :
    PS X (.AugAssign (.Attribute o x pos') op value pos) (rdS T X.K W (sAugAt T.ok f (augO op) mo mv)) := imS (ps_fldaug (op := op) ho hv (o_aug (T := T) op)) fun D σ H h => by
  obtain ⟨ρ, ex, sl, hp, rs, rh, q⟩ := h
  refine ⟨ρ, ex, sl, hp, rs, rh, (q.thn rs).imp fun u h1 ρ1 H1 k1 rh1 q1 z rz => ?_⟩
  have rs1 := rs.mono k1 noex
  cases ea : atO T.ok f u h1 with
  | none => simp only [ea] at q1; exact q1.elim
  | some old =>
    simp only [ea] at q1
    obtain ⟨n, cc, fs, rfl, eh, hok, eg⟩ := atO_out ea
    cases rz with
    | ref er =>
      rename_i a
      obtain ⟨C, dx, gs, eA, eC, eo, rf⟩ := rh1.insAt eh er
      obtain ⟨w, ew, rw'⟩ := (rf.look c.tok.nd hf).1 old eg
      refine ⟨a, C, dx, gs, w, rfl, eA, c.tok.cl _ _ eC, c.tok.no _ _ _ _ eC hok hf, ew, ?_⟩
      refine ⟨ρ1, ex, sl, h1, rs1, rh1, (FinS.thn rs1 q1).imp fun y h3 ρ3 H3 k3 rh3 q3 yv ry => ?_⟩
      have rs3 := rs1.mono k3 noex
      cases ez : augO op old y h3 with
      | none => simp only [ez] at q3; exact q3.elim
      | some z =>
        simp only [ez] at q3
        cases es : (if clsOf (.ref n) h3 = clsOf (.ref n) h1 then setAt T.ok f (.ref n) z h3 else none) with
        | none => simp only [es] at q3; exact q3.elim
        | some h5 =>
          simp only [es] at q3
          refine ⟨ρ3, ex, h3, old, y, z, rh3, rw'.mono k3 noex, ry, ez, fun ρ4 H4 zv k4 rh4 rz4 => ?_⟩
          have er4 := k4.up _ _ (k3.up _ _ er)
          have ecl : clsOf (.ref n) h3 = clsOf (.ref n) h1 := by
            by_cases z : clsOf (.ref n) h3 = clsOf (.ref n) h1
            · exact z
            · rw [if_neg z] at es; cases es
          rw [if_pos ecl] at es
          have ec1 : clsOf (.ref n) h1 = some cc := by unfold clsOf; simp only [eh]
          rw [ec1] at ecl
          unfold setAt at es
          simp only at es
          split at es
          · rename_i c4 fs4 eh4
            split at es
            · rename_i hc
              cases es
              obtain ⟨hok4, hl⟩ := Bool.and_eq_true_iff.mp hc
              obtain ⟨C4, dx4, gs4, ea4, eC4, eo4, rf4⟩ := rh4.insAt eh4 er4
              have hl : fs4.length < 900 := Nat.blt_eq.mp hl
              have e4 : c4 = cc := by
                unfold clsOf at ecl
                simp only [eh4] at ecl
                exact Option.some.inj ecl
              subst e4
              rw [eC] at eC4
              cases eC4
              refine ⟨dx4, gs4, ea4, by rw [← rf4.length]; omega, ?_⟩
              exact q3 ρ4 _ σ (k4.trans (Kp.write er4 (nfI ea4))) (rh4.wins er4 eC eo4 c.tok.nd hf hok4 (nfI ea4) rf4 rz4) ((rs3.mono k4 noex).mono (Kp.write er4 (nfI ea4)) noex)
            · cases es
          · cases es
end
end Y

set_option maxHeartbeats 1000000
namespace Y
open PySem PySem.Spec PyProof.Rows L2
section
variable {X : Cx} {T : Tab} {K : PySem.W.Frag} {W : WX} {L : Nat}
/-! ### dicts that are walked -/
/-- while m runs, the dict of src is locked -/
def mLock (src : EM) (m : AM) : AM := fun σ h => match src σ h with
  | .ok (.ref n) _ => match h[n]? with
    | some (.dct kvs) => ((m σ (h.set n (.ldct kvs))).calm).bnd fun ys h2 => match h2[n]? with
      | some (.ldct _) => .ok ys (h2.set n (.dct kvs))
      | _ => .bad
    | _ => .bad
  | _ => .bad
def mKeys (src : EM) : IM := fun σ h => (src σ h).bnd fun x h1 => match x with
  | .ref n => match h1[n]? with
    | some (.ldct kvs) => .ok (kvs.map (·.1)) h1
    | _ => .bad
  | _ => .bad
def mItems (src : EM) : IM := fun σ h => (src σ h).bnd fun x h1 => match x with
  | .ref n => match h1[n]? with
    | some (.ldct kvs) => .ok (kvs.map fun p => .tup [p.1, p.2]) h1
    | _ => .bad
  | _ => .bad
theorem Rh.lockAt {ρ : Pl} {ex : List Addr} {H : Hp} {h : VH} {n : Nat} {l : List (PV × PV)} {a : Addr} (rh : Rh T K ρ ex H h) (e : h[n]? = some (.ldct l)) (er : ρ[n]? = some (some a)) : ∃ o vs, H a = some (.frz o (.dK vs)) ∧ Rks K ρ ex H l vs := by
  obtain ⟨b, o, vs, e1, e2, r⟩ := rh.ob _ _ _ e er
  cases e1
  exact ⟨o, vs, e2, r⟩
theorem rd_lock {src : EM} {m : AM} {σ : L2.St} {H : Hp} {Q : VK} (h : rdL T K W (mLock src m) σ H Q) : tLockE (rdL T K W m) σ H Q := by
  obtain ⟨ρ, ex, sl, hp, rs, rh, q⟩ := h
  unfold mLock at q
  split at q
  · rename_i n h0 es
    split at q
    · rename_i kvs eh
      have hn : n < hp.length := (List.getElem?_eq_some_iff.mp eh).1
      have hr : n < ρ.length := by rw [rh.len]; exact hn
      obtain ⟨a, ks, ep, ea, rk⟩ := rh.ob n _ ρ[n] eh (List.getElem?_eq_getElem hr)
      have er : ρ[n]? = some (some a) := by rw [List.getElem?_eq_getElem hr, ep]
      refine ⟨a, .dK ks, ea, trivial, fun od => ?_⟩
      have kw : Kp ρ H ρ (upd H a (.frz od (.dK ks))) := Kp.write er (nfD ea)
      have rh1 : Rh T K ρ ex (upd H a (.frz od (.dK ks))) (hp.set n (.ldct kvs)) := rh.write er (nfD ea) ⟨a, od, ks, rfl, upd_same, Rks.mono kw noex _ _ rk⟩
      refine ⟨ρ, ex, sl, _, rs.mono kw noex, rh1, ?_⟩
      cases em : m sl (hp.set n (.ldct kvs)) with
      | bad => rw [em] at q; exact q.elim
      | exc _ _ _ => rw [em] at q; exact q.elim
      | ok ys h2 =>
        rw [em] at q
        intro ρ' H' k' rh' p xs H2 hp' e2 hl rxs
        have q : Fin T K W ρ ex σ H (match h2[n]? with
          | some (.ldct _) => .ok ys (h2.set n (.dct kvs))
          | _ => Y.R.bad) _ := q
        split at q
        · rename_i kv2 eh2
          have fz := k'.fz a od (.dK ks) upd_same
          have er' := k'.up _ _ er
          have npa : p ≠ a := fun z => by rw [z, fz] at hp'; cases hp'
          subst e2
          refine ⟨by rw [upd_ne npa.symm]; exact fz, ?_⟩
          -- the lock is taken away
          have kx : Kp ρ H ρ' (upd H' a (.dK ks)) := by
            refine ⟨⟨k'.up, fun b o eb nb => ?_, fun b hb => ?_⟩, fun b o u eb => ?_⟩
            · have nba : b ≠ a := fun z => nb (by rw [z]; exact ⟨n, er⟩)
              rw [upd_ne nba]
              exact k'.keep b o (by rw [upd_ne nba]; exact eb) nb
            · rcases k'.new b hb with z | z
              · exact .inl z
              · by_cases nba : b = a
                · exact .inl (by rw [nba]; exact ⟨n, er⟩)
                · rw [upd_ne nba] at z; exact .inr z
            · have nba : b ≠ a := fun z => by rw [z, ea] at eb; cases eb
              rw [upd_ne nba]
              exact k'.fz b o u (by rw [upd_ne nba]; exact eb)
          have k0 : Kp0 ρ' H' ρ' (upd H' a (.dK ks)) := by
            refine ⟨fun _ _ z => z, fun b o eb nb => ?_, fun b z => .inl z⟩
            rw [upd_ne fun z => nb (by rw [z]; exact ⟨n, er'⟩)]
            exact eb
          have rh2 : Rh T K ρ' ex (upd H' a (.dK ks)) (h2.set n (.dct kvs)) := by
            refine ⟨by rw [List.length_set]; exact rh'.len, rh'.inj, fun b hb => ⟨?_, (rh'.exs b hb).2⟩, fun m ob pp e1 e2 => ?_⟩
            · rw [upd_ne fun z => (rh'.exs b hb).2 (by rw [z]; exact ⟨n, er'⟩)]
              exact (rh'.exs b hb).1
            · by_cases hm : n = m
              · subst hm
                have hn2 : n < h2.length := (List.getElem?_eq_some_iff.mp eh2).1
                rw [List.getElem?_set_self hn2] at e1
                rw [er'] at e2
                cases e1
                cases e2
                exact ⟨a, ks, rfl, upd_same, Rks.mono kx noex _ _ rk⟩
              · rw [List.getElem?_set_ne hm] at e1
                refine Ro.mono0 k0 noex (fun b eb => ?_) (rh'.ob m ob pp e1 e2)
                subst eb
                exact upd_ne fun z => hm (rh'.inj n m a er' (by rw [← z]; exact e2))
          have ew : upd (upd H' p (.lst xs)) a (.dK ks) = upd (upd H' a (.dK ks)) p (.lst xs) := by
            funext b
            by_cases b1 : b = a
            · subst b1; rw [upd_same, upd_ne npa.symm, upd_same]
            · by_cases b2 : b = p
              · subst b2; rw [upd_ne b1, upd_same, upd_same]
              · rw [upd_ne b1, upd_ne b2, upd_ne b2, upd_ne b1]
          exact q ρ' _ kx rh2 p xs _ (by rw [upd_ne npa]; exact hp') ew hl (Rvs.mono0 k0 noex _ _ rxs)
        · exact q.elim
    · exact q.elim
  · exact q.elim
theorem e_lock {e : Expr} {src : EM} {m : AM} (h : PE X e (rdL T X.K W m)) : PE X e (rdL T X.K W (mLock src m)) := imE (pe_lock h) fun _ _ _ h => rd_lock h
theorem Rks.getKV {ρ : Pl} {ex : List Addr} {H : Hp} : ∀ {kvs : List (PV × PV)} {ks : List (Key × V)} {i : Nat} {p : PV × PV}, Rks K ρ ex H kvs ks → kvs[i]? = some p → ∃ k v, ks[i]? = some (k, v) ∧ KeyR p.1 k ∧ Rv K ρ ex H p.2 v
  | [], _, _, _, _, e => by simp at e
  | (a, b) :: r, _, 0, p, h, e => by
    cases h with
    | cons rk rv h => simp at e; subst e; exact ⟨_, _, rfl, rk, rv⟩
  | (a, b) :: r, _, i + 1, p, h, e => by
    cases h with
    | cons rk rv h =>
      obtain ⟨k, v, h1, h2, h3⟩ := Rks.getKV (i := i) h (by simpa using e)
      exact ⟨k, v, by simpa using h1, h2, h3⟩
theorem KeyR.rv {ρ : Pl} {ex : List Addr} {H : Hp} {k : PV} {k' : Key} (r : KeyR k k') : Rv K ρ ex H k (kV k') := by
  cases r with
  | int i => exact .int i
  | str s => exact .str s
theorem wk_keys {ρ : Pl} {ex : List Addr} {H : Hp} {d : Addr} {o : Obj} {ks : List (Key × V)} {kvs : List (PV × PV)} (e : H d = some (.frz o (.dK ks))) (r : Rks K ρ ex H kvs ks) : Wk T K ρ ex H (Itk d o ks) (kvs.map (·.1)) := by
  intro ρ1 H1 ex1 k hx i
  have e1 := k.fz _ _ _ e
  refine ⟨fun hi => ⟨e1, by rw [List.length_map, r.length] at hi; exact hi⟩, fun p hp => ?_⟩
  rw [List.getElem?_map] at hp
  obtain ⟨q, hq, rfl⟩ := Option.map_eq_some_iff.mp hp
  obtain ⟨k', v, h1, h2, h3⟩ := r.getKV hq
  refine ⟨⟨e1, (List.getElem?_eq_some_iff.mp h1).1⟩, fun y H2 hy => ?_⟩
  obtain ⟨e2, k2, v2, h4, h5⟩ := hy
  subst e2 h5
  rw [h1] at h4
  cases h4
  exact ⟨Kp.refl _ _, fun _ _ z => z, fun _ z => z, fun _ _ => h2.rv⟩
theorem wk_items {ρ : Pl} {ex : List Addr} {H : Hp} {d : Addr} {o : Obj} {ks : List (Key × V)} {kvs : List (PV × PV)} (e : H d = some (.frz o (.dK ks))) (r : Rks K ρ ex H kvs ks) : Wk T K ρ ex H (Iti d o ks) (kvs.map fun p => .tup [p.1, p.2]) := by
  intro ρ1 H1 ex1 k hx i
  have e1 := k.fz _ _ _ e
  have r1 := Rks.mono k hx _ _ r
  refine ⟨fun hi => ⟨e1, by rw [List.length_map, r.length] at hi; exact hi⟩, fun p hp => ?_⟩
  rw [List.getElem?_map] at hp
  obtain ⟨q, hq, rfl⟩ := Option.map_eq_some_iff.mp hp
  obtain ⟨k', v, h1, h2, h3⟩ := r1.getKV hq
  refine ⟨⟨e1, (List.getElem?_eq_some_iff.mp h1).1⟩, fun y H2 hy => ?_⟩
  obtain ⟨tt, k2, v2, h4, h5, hn, e2⟩ := hy
  subst e2 h5
  rw [h1] at h4
  cases h4
  refine ⟨Kp.laid hn, fun D o e => by rw [upd_ne (ne_of_none e hn)]; exact e, fun _ z => z.laid hn, fun h rh => Rv.newT rh hn (.cons h2.rv (.cons h3 .nil))⟩
theorem i_keys {tg e : Expr} {m : EM} (h : PE X e (rdE T X.K W m)) : PI X tg e (rdI T X.K W (mKeys m)) := imI (pi_keys h) fun σ H R q => by
  obtain ⟨ρ, ex, sl, hp, rs, rh, q⟩ := q
  refine ⟨ρ, ex, sl, hp, rs, rh, q.bnd.imp fun u h1 ρ1 H1 k1 rh1 q1 x rx => ?_⟩
  cases u with
  | ref n =>
    simp only at q1
    split at q1
    · rename_i kvs eh
      cases rx with
      | ref er =>
        obtain ⟨o, ks, ea, rk⟩ := rh1.lockAt eh er
        exact ⟨_, o, rfl, .inl ⟨ks, ea, q1 ρ1 H1 (Kp.refl _ _) rh1 _ (wk_keys ea rk)⟩⟩
    · exact q1.elim
  | _ => exact q1.elim
theorem i_items {elts : List Expr} {kk : Nat} {tpos apos cpos : Pos} {e : Expr} {m : EM} (h : PE X e (rdE T X.K W m)) (hbase : attributeBase e "items" X.env (eval e X.env) = eval e X.env := by rfl) (hline : (apos.endLine == cpos.line) = true := by rfl) :
    PI X (.Tuple elts kk tpos) (.Call (.Attribute e "items" apos) [] [] cpos) (rdI T X.K W (mItems m)) := imI (pi_items h hbase hline) fun σ H R q => by
  obtain ⟨ρ, ex, sl, hp, rs, rh, q⟩ := q
  refine ⟨ρ, ex, sl, hp, rs, rh, q.bnd.imp fun u h1 ρ1 H1 k1 rh1 q1 x rx => ?_⟩
  cases u with
  | ref n =>
    simp only at q1
    split at q1
    · rename_i kvs eh
      cases rx with
      | ref er =>
        obtain ⟨o, ks, ea, rk⟩ := rh1.lockAt eh er
        exact ⟨_, o, ks, rfl, ea, q1 ρ1 H1 (Kp.refl _ _) rh1 _ (wk_items ea rk)⟩
    · exact q1.elim
  | _ => exact q1.elim
end
end Y

set_option maxHeartbeats 1000000
namespace Y
open PySem PySem.Spec PyProof.Rows L2
section
variable {X : Cx} {T : Tab} {K : PySem.W.Frag} {W : WX} {L : Nat}
/-- xs[::-1] -/
def mRev (a : EM) : AM := fun σ h => (a σ h).bnd fun x h1 => retO ((asList x h1).bind fun l => if l.length ≤ line then some l.reverse else none) h1
theorem Rvs.reverse {ρ : Pl} {ex : List Addr} {H : Hp} : ∀ {ds : List PV} {vs : List V}, Rvs K ρ ex H ds vs → Rvs K ρ ex H ds.reverse vs.reverse
  | [], _, r => by cases r; exact .nil
  | d :: ds, _, r => by
    cases r with
    | cons a r =>
      rw [List.reverse_cons, List.reverse_cons]
      exact r.reverse.snoc a
theorem rev {e : Expr} {m : EM} {k : Nat} {p1 p2 p3 pos : Pos} (he : PE X e (rdE T X.K W m)) : PE X (.Subscript e (.Slice none none (some (.UnaryOp .USub (.Constant (.int 1) k p1) p2)) p3) pos) (rdL T X.K W (mRev m)) := imE (pe_revL he) fun σ H Q h => by
  obtain ⟨ρ, ex, sl, hp, rs, rh, q⟩ := h
  refine ⟨ρ, ex, sl, hp, rs, rh, q.bnd.imp fun u h1 ρ1 H1 k1 rh1 q1 x rx => ?_⟩
  obtain ⟨w, e, q3⟩ := q1.retO
  obtain ⟨l, el, ew⟩ := Option.bind_eq_some_iff.mp e
  split at ew
  · rename_i hl
    cases ew
    obtain ⟨a, vs, rfl, ea, r⟩ := rx.asList rh1 el
    refine ⟨a, vs, rfl, .inl (.inl ea), fun p hn => ?_⟩
    exact q3 ρ1 H1 (Kp.refl _ _) rh1 p _ _ hn rfl (by rw [List.length_reverse, ← r.length]; exact hl) r.reverse
  · cases ew
/-- xs.index(y), y among them -/
def bIndex : Bm := fun x vs h => match vs with
  | [y] => match asList x h with
    | some l => if y.plain && PV.plainL l && Nat.ble y.dep 0 && Nat.ble (PV.depL l) 0 then (l.findIdx? fun z => decide (z = y)).map fun (j : Nat) => (PV.int (j : Int), h) else none
    | none => none
  | _ => none
theorem plainL_get : ∀ {l : List PV} {i : Nat} {d : PV}, PV.plainL l = true → l[i]? = some d → d.plain = true
  | [], _, _, _, e => by simp at e
  | _ :: _, 0, _, p, e => by
    have p' := Bool.and_eq_true_iff.mp (by simpa [PV.plainL] using p : (_ && _) = true)
    simp at e; subst e; exact p'.1
  | _ :: _, i + 1, _, p, e => by
    have p' := Bool.and_eq_true_iff.mp (by simpa [PV.plainL] using p : (_ && _) = true)
    exact plainL_get (i := i) p'.2 (by simpa using e)
theorem depL_get : ∀ {l : List PV} {i : Nat} {d : PV} {n : Nat}, PV.depL l ≤ n → l[i]? = some d → d.dep ≤ n
  | [], _, _, _, _, e => by simp at e
  | _ :: _, 0, _, _, p, e => by simp [PV.depL] at p; simp at e; subst e; omega
  | _ :: _, i + 1, _, _, p, e => by
    have p := Nat.max_le.mp (by simpa only [PV.depL] using p)
    exact depL_get (i := i) p.2 (by simpa using e)
theorem m_index : MtR X "list.index" (rMt T X.K bIndex "list") := by
  intro pins s σ H x xs v us Q I rx rs h
  obtain ⟨ρ, ex, hp, u, vs, w, h', rh, ru, rv, ek, e, q⟩ := h
  unfold bIndex at e
  split at e
  · rename_i y
    split at e
    · rename_i l el
      split at e
      · rename_i hc
        have hc1 := Bool.and_eq_true_iff.mp hc
        have hc2 := Bool.and_eq_true_iff.mp hc1.1
        have hc3 := Bool.and_eq_true_iff.mp hc2.1
        have dy : y.dep = 0 := Nat.le_zero.mp (Nat.ble_eq.mp hc2.2)
        have dl : PV.depL l ≤ 0 := Nat.ble_eq.mp hc1.2
        obtain ⟨j, ej, ew⟩ := Option.map_eq_some_iff.mp e
        cases ew
        cases rv with
        | cons ry rv =>
          cases rv
          rename_i yv
          obtain ⟨a, ls, rfl, ea, rl⟩ := ru.asList rh el
          obtain ⟨hj, hz, hno⟩ := List.findIdx?_eq_some_iff_getElem.mp ej
          obtain ⟨z, hz1, hz2⟩ := rl.get (List.getElem?_eq_getElem hj)
          have pj := plainL_get hc3.2 (List.getElem?_eq_getElem hj)
          have dj := depL_get dl (List.getElem?_eq_getElem hj)
          refine mt_index pins s σ H _ _ v us Q I rx rs ⟨a, ls, yv, j, z, rfl, rfl, .inl (.inl ea), flat_of hc3.1 dy ry, flats_of hc3.2 (Nat.le_zero.mp dl) rl, hz1, ?_, fun m z' hm hz' => ?_, q ρ H _ (Kp.refl _ _) rh (.int _)⟩
          · rw [eqV_of pj hc3.1 (Nat.le_zero.mp dj) dy hz2 ry]
            exact hz
          · obtain ⟨d', hd1, hd2⟩ := rl.getV hz'
            rw [eqV_of (plainL_get hc3.2 hd1) hc3.1 (Nat.le_zero.mp (depL_get dl hd1)) dy hd2 ry]
            have := hno m hm
            have hml : m < l.length := (List.getElem?_eq_some_iff.mp hd1).1
            have e2 : l[m] = d' := by
              have := List.getElem?_eq_getElem hml
              rw [hd1] at this
              exact (Option.some.inj this).symm
            rw [e2] at this
            simpa using this
      · cases e
    · cases e
  · cases e
theorem bok_index : BOk X T "index" bIndex "list" := ⟨by decide, _, PySem.F.plainAttrs_list, PySem.F.slot_list_index, PySem.F.type_list_index, m_index⟩
end
end Y

set_option maxHeartbeats 1000000
namespace Y
open PySem PySem.Spec PyProof.Rows L2
/-! ### sorted -/
/-- rows that may be sorted: alike, place by place -/
def isT : PV → Bool
  | .tup (_ :: _) => true
  | _ => false
def isA : PV → Bool
  | .int _ => true
  | .str _ => true
  | .lst _ => true
  | _ => false
def sortOk (l : List PV) : Bool := (l.all fun a => a.plain && Nat.ble a.dep 60) && (l.all fun a => l.all fun b => PySem.W.alike (toD a) (toD b)) && (l.all isT || l.all isA)
def pvLe (a b : PV) : Bool := PySem.W.dataLe false toD a b
def bSorted : List PV → VH → Option (List PV) := fun vs h => match vs with
  | [x] => match asList x h with
    | some l => if sortOk l then some (l.mergeSort pvLe) else none
    | none => none
  | _ => none
section
variable {X : Cx} {T : Tab} {K : PySem.W.Frag} {W : WX} {L : Nat}
structure SortOk (l : List PV) : Prop where
  plain : ∀ d ∈ l, d.plain = true
  dep : ∀ d ∈ l, d.dep ≤ 60
  alike : PySem.W.AllAlike (l.map toD)
  sortable : PySem.W.Sortable (l.map toD)
theorem sort_ok {l : List PV} (h : sortOk l = true) : SortOk l := by
  unfold sortOk at h
  obtain ⟨h12, h3⟩ := Bool.and_eq_true_iff.mp h
  obtain ⟨h1, h2⟩ := Bool.and_eq_true_iff.mp h12
  have h1 := List.all_eq_true.mp h1
  have h2 := List.all_eq_true.mp h2
  refine ⟨fun d hd => (Bool.and_eq_true_iff.mp (h1 d hd)).1, fun d hd => Nat.ble_eq.mp (Bool.and_eq_true_iff.mp (h1 d hd)).2, fun d hd d' hd' => ?_, ?_⟩
  · obtain ⟨a, ha, rfl⟩ := List.mem_map.mp hd
    obtain ⟨b, hb, rfl⟩ := List.mem_map.mp hd'
    exact List.all_eq_true.mp (h2 a ha) b hb
  · rcases Bool.or_eq_true_iff.mp h3 with h3 | h3
    · refine .inl fun d hd => ?_
      obtain ⟨a, ha, rfl⟩ := List.mem_map.mp hd
      have := List.all_eq_true.mp h3 a ha
      unfold isT at this
      split at this
      · exact ⟨_, _, rfl⟩
      · cases this
    · refine .inr fun d hd => ?_
      obtain ⟨a, ha, rfl⟩ := List.mem_map.mp hd
      have := List.all_eq_true.mp h3 a ha
      unfold isA at this
      split at this
      · exact ⟨(fun z => by cases z), (fun _ z => by cases z)⟩
      · exact ⟨(fun z => by cases z), (fun _ z => by cases z)⟩
      · exact ⟨(fun z => by cases z), (fun _ z => by cases z)⟩
      · cases this
/-- a value of the machine and what it is here -/
def RR (K : PySem.W.Frag) (ρ : Pl) (ex : List Addr) (H : Hp) (u : Value) (d : PV) : Prop := ∃ x, RelV x u ∧ Rv K ρ ex H d x
theorem each_of {ρ : Pl} {ex : List Addr} {H : Hp} : ∀ {l : List PV} {vs : List V} {us : List Value}, Rvs K ρ ex H l vs → Vals vs us → PySem.W.EachIs (RR K ρ ex H) us l
  | [], _, _, r, v => by cases r; cases v; exact .nil
  | _ :: _, _, _, r, v => by
    cases r with
    | cons a r => cases v with
      | cons b v => exact .cons ⟨_, b, a⟩ (each_of r v)
theorem of_each {ρ : Pl} {ex : List Addr} {H : Hp} : ∀ {l : List PV} {us : List Value}, PySem.W.EachIs (RR K ρ ex H) us l → ∃ vs, Rvs K ρ ex H l vs ∧ Vals vs us
  | [], _, h => by cases h; exact ⟨[], .nil, .nil⟩
  | _ :: _, _, h => by
    cases h with
    | cons a r =>
      obtain ⟨x, h1, h2⟩ := a
      obtain ⟨vs, h3, h4⟩ := of_each r
      exact ⟨x :: vs, .cons h2 h3, .cons h1 h4⟩
theorem b_sorted (c : Ctx X T W L) : CallR X (.builtin "sorted") (rOL T X.K bSorted) := by
  intro pins s σ H xs us Q I r h
  obtain ⟨ρ, ex, hp, vs, w, rh, rv, e, q⟩ := h
  unfold bSorted at e
  split at e
  · cases rv with
    | cons a b =>
      cases b
      split at e
      · rename_i l el
        split at e
        · rename_i hk
          cases e
          obtain ⟨p, vs', rfl, ea, rl⟩ := a.asList rh el
          obtain ⟨its, rv, hl, hz⟩ := I.list (.inl (.inl ea) : SqL X.K H p vs')
          have so := sort_ok hk
          rw [Vals.ref1 r]
          have hL : l.length ≤ sizeLine := by rw [rl.length]; exact hz
          have er : PySem.W.EachIs (fun v b => ∃ as, Reads s.heap v (toD b) as) its l := by
            have key : ∀ {l : List PV} {us : List Value}, (∀ d ∈ l, d.plain = true) → PySem.W.EachIs (RR X.K ρ ex H) us l → PySem.W.EachIs (fun v b => ∃ as, Reads s.heap v (toD b) as) us l := by
              intro l us hks h
              induction h with
              | nil => exact .nil
              | @cons u d us ds h1 h2 ih =>
                obtain ⟨x, g1, g2⟩ := h1
                exact .cons (Dp.reads I (toD d) x u (Rv.dp d x (hks d List.mem_cons_self) g2) g1) (ih fun e he => hks e (List.mem_cons_of_mem _ he))
            exact key so.plain (each_of rl rv)
          refine PySem.W.sorted_data (R := RR X.K ρ ex H) (enc := toD) hl.isList (each_of rl rv) er so.alike so.sortable hL (fun b hb => ?_) fun out hlen hout => ?_
          · have h0 := toD_dep b
            have h1 := so.dep b hb
            have h2 := c.hu
            omega
          · obtain ⟨ws, h1, h2⟩ := of_each hout
            obtain ⟨ep, he'⟩ := PyProof.Rows.sortedAll_at s.heap its out.toArray
            have hw : ws.length ≤ sizeLine := by rw [← h1.length, List.length_mergeSort]; exact hL
            exact ⟨.ref _, upd H (s.heap.objs.size + 1) (.lst ws), I.laid (t' := s.toks) (fun _ _ => PyProof.Rows.sortedAll_old) (Nat.le_succ _) ⟨hw, out, ep, h2, he'⟩, rfl,
              q ρ H _ _ _ (Kp.refl _ _) rh (I.hok.fresh (Nat.le_succ _)) rfl (by rw [line_eq]; exact hw) h1⟩
        · cases e
      · cases e
  · cases e
end
end Y

set_option maxHeartbeats 1000000
namespace Y
open PySem PySem.Spec PyProof.Rows L2
/-! ### dict comprehensions -/
def dcLoop (tg : GM) (t : TM) (ek e : EM) (σ : Sl) : List PV → List (PV × PV) → VH → R (List (PV × PV))
  | [], acc, h => .ok acc h
  | x :: r, acc, h => match tg x σ h with
    | some (σ', h1) => ((t σ' h1).calm).bnd fun b h2 =>
      if b = true then ((ek σ' h2).calm).bnd fun kx h3 => ((e σ' h3).calm).bnd fun y h4 => if keyOk kx && Nat.blt acc.length line then dcLoop tg t ek e σ r (kput acc kx y) h4 else .bad
      else dcLoop tg t ek e σ r acc h2
    | none => .bad
def mDc (it : IM) (tg : GM) (t : TM) (ek e : EM) (own : List Nat) : DM := fun σ h => (it σ h).bnd fun xs h1 => dcLoop tg t ek e (wipe σ own) xs [] h1
/-- a new dict: at an address that nothing knows -/
def rdK (T : Tab) (K : PySem.W.Frag) (W : WX) (m : DM) : TE := fun σ H Q => ∃ ρ ex sl h, Rst K ρ ex H sl σ ∧ Rh T K ρ ex H h ∧ Fin T K W ρ ex σ H (m sl h) fun kvs h1 ρ' H' => ∀ p ks H2, H' p = none → H2 = upd H' p (.dK ks) → Rks K ρ' ex H' kvs ks → Q (.ref p) H2
section
variable {X : Cx} {T : Tab} {K : PySem.W.Frag} {W : WX} {L : Nat}
theorem rd_dc {it : IM} {tg : GM} {t : TM} {ek e : EM} {own : List Nat} {σ : L2.St} {H : Hp} {Q : VK} (h : rdK T K W (mDc it tg t ek e own) σ H Q) : tDc (rdI T K W it) (rdG T K own tg) (rdT T K W0 t) (rdE T K W0 ek) (rdE T K W0 e) own σ H Q := by
  obtain ⟨ρ, ex, sl, hp, rs, rh, q⟩ := h
  refine ⟨ρ, ex, sl, hp, rs, rh, q.bnd.imp fun vs h1 ρ1 H1 k1 rh1 q1 J wk D hD => ?_⟩
  have rs1 := rs.mono k1 noex
  have nDx : D ∉ ex := fun z => (rh1.exs D z).1 hD
  -- the word: behind i turns
  refine ⟨fun i m H2 => m = vs.length - i ∧ i ≤ vs.length ∧ ∃ ρ2 acc accV h2, Kp ρ1 H1 ρ2 H2 ∧ Rh T K ρ2 (D :: ex) H2 h2 ∧ H2 D = some (.dK accV) ∧ accV.length ≤ line ∧ Rks K ρ2 (D :: ex) H2 acc accV ∧
      Fin T K W ρ1 ex σ H1 (dcLoop tg t ek e (Y.wipe sl own) (vs.drop i) acc h2) (fun l _ ρ' H' => ∀ p xs H3, H' p = none → H3 = upd H' p (.dK xs) → Rks K ρ' ex H' l xs → Q (.ref p) H3), ⟨vs.length, ?_⟩, ?_⟩
  · have f := rh1.fresh hD
    refine ⟨by simp, Nat.zero_le _, ρ1, [], [], h1, Kp.laid hD, ?_, upd_same, Nat.zero_le _, .nil, q1⟩
    exact rh1.lay hD
  · rintro i m H2 ⟨em, hi, ρ2, acc, accV, h2, k2, rh2, hD2, hl2, racc, fin⟩
    have hx2 : ∀ a ∈ D :: ex, a ∈ ex ∨ H1 a = none := fun a ha => (List.mem_cons.mp ha).elim (fun z => .inr (by rw [z]; exact hD)) .inl
    obtain ⟨wstop, wgo⟩ := wk ρ2 H2 (D :: ex) k2 hx2 i
    by_cases hlt : i < vs.length
    · obtain ⟨go, yld⟩ := wgo vs[i] (List.getElem?_eq_getElem hlt)
      have ed : vs.drop i = vs[i] :: vs.drop (i + 1) := List.drop_eq_getElem_cons hlt
      rw [ed] at fin
      unfold dcLoop at fin
      refine .inr ⟨go, fun H' => ∃ ρ2 acc accV h2, Kp ρ1 H1 ρ2 H' ∧ Rh T K ρ2 (D :: ex) H' h2 ∧ H' D = some (.dK accV) ∧ accV.length ≤ line ∧ Rks K ρ2 (D :: ex) H' acc accV ∧
        Fin T K W ρ1 ex σ H1 (dcLoop tg t ek e (Y.wipe sl own) (vs.drop (i + 1)) acc h2) (fun l _ ρ' H' => ∀ p xs H3, H' p = none → H3 = upd H' p (.dK xs) → Rks K ρ' ex H' l xs → Q (.ref p) H3),
        fun H' hn => ⟨vs.length - (i + 1), by omega, rfl, by omega, hn⟩, fun x H3 hy => ?_⟩
      obtain ⟨k3, d3, r3, v3⟩ := yld x H3 hy
      have rh3 := r3 h2 rh2
      have rx := v3 h2 rh2
      have racc3 := Rks.mono k3 noex _ _ racc
      have hD3 := d3 D _ hD2
      have k13 := k2.trans k3
      have rsw : Rst K ρ2 (D :: ex) H3 (Y.wipe sl own) (L2.wipe σ own) := (rs1.mono k13 hx2).wipe own
      cases eg : tg vs[i] (Y.wipe sl own) h2 with
      | none => simp only [eg] at fin; exact fin.elim
      | some p =>
        obtain ⟨sl4, h4⟩ := p
        simp only [eg] at fin
        refine ⟨ρ2, D :: ex, Y.wipe sl own, h2, _, sl4, h4, rsw, rh3, rx, eg, fun ρ4 H4 σ4 k4 rh4 rs4 o4 => ⟨o4.wipe, ?_⟩⟩
        have k14 := k13.trans k4
        have hx4 : ∀ a ∈ D :: ex, a ∈ ex ∨ H1 a = none := hx2
        have nD4 := (rh4.exs D List.mem_cons_self).2
        have hD4 := k4.keep D _ hD3 (rh3.exs D List.mem_cons_self).2
        have racc4 := Rks.mono k4 noex _ _ racc3
        refine ⟨ρ4, D :: ex, sl4, h4, rs4, rh4, ?_⟩
        cases et : t sl4 h4 with
        | bad => rw [et] at fin; exact fin.elim
        | exc c fs h5 => rw [et] at fin; exact fin.elim
        | ok b h5 =>
          rw [et] at fin
          intro ρ5 H5 k5 rh5
          have hD5 := k5.keep D _ hD4 nD4
          have racc5 := Rks.mono k5 noex _ _ racc4
          have nD5 := (rh5.exs D List.mem_cons_self).2
          have fin : Fin T K W ρ1 ex σ H1 (if b = true then ((ek sl4 h5).calm).bnd fun kx h3 => ((e sl4 h3).calm).bnd fun y h4 => if keyOk kx && Nat.blt acc.length line then dcLoop tg t ek e (Y.wipe sl own) (vs.drop (i + 1)) (kput acc kx y) h4 else .bad
            else dcLoop tg t ek e (Y.wipe sl own) (vs.drop (i + 1)) acc h5) _ := fin
          cases b with
          | false =>
            rw [if_neg (by decide)] at fin
            simp only [Bool.false_eq_true, if_false]
            exact ⟨ρ5, acc, accV, h5, k14.trans k5, rh5, hD5, hl2, racc5, fin⟩
          | true =>
            rw [if_pos rfl] at fin
            simp only [if_true]
            refine ⟨ρ5, D :: ex, sl4, h5, rs4.mono k5 noex, rh5, ?_⟩
            cases ekk : ek sl4 h5 with
            | bad => rw [ekk] at fin; exact fin.elim
            | exc c fs h6 => rw [ekk] at fin; exact fin.elim
            | ok kx h6 =>
              rw [ekk] at fin
              intro ρ6 H6 k6 rh6 kv rk
              have hD6 := k6.keep D _ hD5 nD5
              have nD6 := (rh6.exs D List.mem_cons_self).2
              have racc6 := Rks.mono k6 noex _ _ racc5
              refine ⟨ρ6, D :: ex, sl4, h6, (rs4.mono k5 noex).mono k6 noex, rh6, ?_⟩
              have fin : Fin T K W ρ1 ex σ H1 (((e sl4 h6).calm).bnd fun y h7 => if keyOk kx && Nat.blt acc.length line then dcLoop tg t ek e (Y.wipe sl own) (vs.drop (i + 1)) (kput acc kx y) h7 else .bad) _ := fin
              cases ee : e sl4 h6 with
              | bad => rw [ee] at fin; exact fin.elim
              | exc c fs h7 => rw [ee] at fin; exact fin.elim
              | ok y h7 =>
                rw [ee] at fin
                intro ρ7 H7 k7 rh7 yv ry
                have hD7 := k7.keep D _ hD6 nD6
                have racc7 := Rks.mono k7 noex _ _ racc6
                have fin : Fin T K W ρ1 ex σ H1 (if keyOk kx && Nat.blt acc.length line then dcLoop tg t ek e (Y.wipe sl own) (vs.drop (i + 1)) (kput acc kx y) h7 else .bad) _ := fin
                split at fin
                · rename_i hb
                  have hb1 := Bool.and_eq_true_iff.mp hb
                  have hb2 : acc.length < line := Nat.blt_eq.mp hb1.2
                  have el := racc.length
                  obtain ⟨k', rk', ek'⟩ := keyR_of hb1.1 (rk.mono k7 noex)
                  subst ek'
                  refine ⟨accV, k', rfl, hD7, by rw [← line_eq, ← el]; exact hb2, ρ7, kput acc kx y, putK accV k' yv, h7, (((k14.trans k5).trans k6).trans k7).over hD, rh7.over nDx, upd_same, ?_, (Rks.put rk' ry racc7).over, fin⟩
                  have := length_putK accV k' yv
                  omega
                · exact fin.elim
    · have ei : i = vs.length := by omega
      have ed : vs.drop i = [] := List.drop_eq_nil_of_le (by omega)
      rw [ed] at fin
      refine .inl ⟨wstop (by omega), ?_⟩
      have fin : ∀ ρ' H', Kp ρ1 H1 ρ' H' → Rh T K ρ' ex H' h2 → ∀ p xs H3, H' p = none → H3 = upd H' p (.dK xs) → Rks K ρ' ex H' acc xs → Q (.ref p) H3 := fin
      exact fin ρ2 (Y.hide H2 D) (k2.hide hD) (rh2.hide nDx) D accV H2 hide_same (hide_upd hD2).symm (Rks.hide _ _ racc)
theorem dc (c : Ctx X T W L) {kx vx tg iter : Expr} {ifs : List Expr} {scope : Scope} {own : List (Str × Nat)} {pos : Pos} {i : IM} {g : GM} {t : TM} {ek m : EM} (hi : PI X tg iter (rdI T X.K W i)) (ok : blkC X.N X.env.scope scope own = true)
    (hg : ∀ (s : Shared) (H : Hp) (C : Addr) (cl : List (Str × Addr)) (fp : List Addr), PG (X.blk s H scope (compEnvC scope cl C X.env) fp) tg (rdG T X.K (own.map (·.2)) g))
    (ht : ∀ (s : Shared) (H : Hp) (C : Addr) (cl : List (Str × Addr)) (fp : List Addr), PTs (X.blk s H scope (compEnvC scope cl C X.env) fp) ifs (rdT T X.K W0 t))
    (hk : ∀ (s : Shared) (H : Hp) (C : Addr) (cl : List (Str × Addr)) (fp : List Addr), PE (X.blk s H scope (compEnvC scope cl C X.env) fp) kx (rdE T X.K W0 ek))
    (he : ∀ (s : Shared) (H : Hp) (C : Addr) (cl : List (Str × Addr)) (fp : List Addr), PE (X.blk s H scope (compEnvC scope cl C X.env) fp) vx (rdE T X.K W0 m)) (hs : ∀ x, foldedSetIterable iter X.env x = pure x := by intro _; rfl) :
    PE X (.DictComp kx vx [⟨tg, iter, ifs, 0⟩] scope pos) (rdK T X.K W (mDc i g t ek m (own.map (·.2)))) :=
  imE (pe_dc c.hc c.hN hi (blkOk_by ok) hg ht hk he hs) fun _ _ _ h => rd_dc h
theorem e_fzD {e : Expr} {m : DM} (h : PE X e (rdK T X.K W m)) : PE X e (rdE T X.K W (mFzD m)) := imE h fun σ H Q h => by
  obtain ⟨ρ, ex, sl, hp, rs, rh, q⟩ := h
  refine ⟨ρ, ex, sl, hp, rs, rh, q.bnd.imp fun us h1 ρ1 H1 k1 rh1 q1 p xs H2 hp e rxs => ?_⟩
  subst e
  have k : Kp ρ1 H1 ρ1 (upd H1 p (.dK xs)) := Kp.laid hp
  exact q1 ρ1 _ k (rh1.laid hp) _ (.dct (.inl upd_same) (rh1.fresh hp) (Rks.mono k noex _ _ rxs))
theorem e_regD {e : Expr} {m : DM} (h : PE X e (rdK T X.K W m)) : PE X e (rdE T X.K W (mRegD m)) := imE h fun σ H Q h => by
  obtain ⟨ρ, ex, sl, hp, rs, rh, q⟩ := h
  refine ⟨ρ, ex, sl, hp, rs, rh, q.bnd.imp fun us h1 ρ1 H1 k1 rh1 q1 p xs H2 hp e rxs => ?_⟩
  subst e
  have k : Kp ρ1 H1 (ρ1 ++ [some p]) (upd H1 p (.dK xs)) := Kp.reg hp
  exact q1 _ _ k (rh1.reg hp ⟨p, xs, rfl, upd_same, Rks.mono k noex _ _ rxs⟩) _ (.ref (reg_at rh1.len))
end
end Y

set_option maxHeartbeats 1000000
namespace Y
open PySem PySem.Spec PyProof.Rows L2
section
variable {X : Cx} {T : Tab} {K : PySem.W.Frag} {W : WX} {L : Nat}
/-- d.update(e), e never changed -/
def bUpdate : Bm := fun x vs h => match x, vs with
  | .ref n, [.dct more] => match h[n]? with
    | some (.dct kvs) => if Nat.ble (kvs.length + more.length) line then some (.non, vset h n (.dct (kmerge kvs more))) else none
    | _ => none
  | _, _ => none
theorem m_update : MtR X "dict.update" (rMt T X.K bUpdate "dict") := by
  intro pins s σ H x xs v us Q I rx rs h
  obtain ⟨ρ, ex, hp, u, vs, w, h', rh, ru, rv, ek, e, q⟩ := h
  unfold bUpdate at e
  split at e
  · rename_i n more
    split at e
    · rename_i kvs el
      split at e
      · rename_i hl
        cases e
        cases ru with
        | ref er =>
          rename_i a
          obtain ⟨ks, ea, rk⟩ := rh.dctAt el er
          cases rv with
          | cons r1 r2 =>
            cases r2
            cases r1 with
            | dct rd im rk2 =>
              rename_i a2 ms
              cases (show v = Value.ref a from rx)
              cases rs with
              | cons q1 q2 =>
                cases q2
                rename_i u2
                cases (show u2 = Value.ref a2 from q1)
                have hne : a ≠ a2 := fun z => im.1 (by rw [← z]; exact ⟨n, er⟩)
                obtain ⟨z1, hd, ws, rel, dd⟩ := dk_of I.hok ea
                obtain ⟨z2, hd2, ws2, rel2, dd2⟩ := dk_rd I.hok rd
                have hl : kvs.length + more.length ≤ line := Nat.ble_eq.mp hl
                have hsz : ks.length + ms.length ≤ sizeLine := by rw [← rk.length, ← rk2.length, ← line_eq]; exact hl
                refine call_meetsIn PySem.F.slot_dict_update dd.typeIs PySem.F.entry_dict_update (PySem.F.args_dict_update_2 _ _) (meets_dict_update (mixKind X.prog X.w) a a2 hne hd2) ⟨ws, ws2, dd, dd2, by rw [← rel.length, ← rel2.length]; exact hsz, fun h' dd' _ hs => ?_⟩
                have he : ∃ q, h'.get? a = some q := let ⟨q, _, _, hq, _⟩ := dd'; ⟨q, hq⟩
                have hz : (mergeK ks ms).length ≤ sizeLine := Nat.le_trans (length_mergeK ms ks) hsz
                have I' := d_write (t' := s.toks) I (by rw [ea]; exact True.intro) hs he (dk_new (H' := upd H a (.dK (mergeK ks ms))) hz hd (KV.merge rel2 rel) dd')
                exact ⟨.non, _, I', rfl, q ρ _ _ (Kp.write er (nfD ea)) (rh.wdct er (nfD ea) (Rks.merge rk2 rk)) .non⟩
      · cases e
    · cases e
  · cases e
theorem bok_update : BOk X T "update" bUpdate "dict" := ⟨by decide, _, PySem.F.plainAttrs_dict, PySem.F.slot_dict_update, PySem.F.type_dict_update, m_update⟩
end
end Y

set_option maxHeartbeats 1000000
namespace Y
open PySem PySem.Spec PyProof.Rows L2
section
variable {X : Cx} {T : Tab} {K : PySem.W.Frag} {W : WX} {L : Nat}
/-- the view of a dict's values -/
def viewV (v d : Addr) : HO := .ext fun h => h.IsValuesView v d
def tVals (td : TE) : TE := fun σ H Q => td σ H fun x H1 => ∃ d kvs, x = .ref d ∧ H1 d = some (.dK kvs) ∧ ∀ v, H1 v = none → Q (.ref v) (upd H1 v (viewV v d))
theorem pe_vals {e : Expr} {td : TE} {apos cpos : Pos} (he : PE X e td) (hbase : attributeBase e "values" X.env (eval e X.env) = eval e X.env := by rfl) (hline : (apos.endLine == cpos.line) = true := by rfl) : PE X (.Call (.Attribute e "values" apos) [] [] cpos) (tVals td) := by
  refine ⟨fun pins s σ H Q I h => ?_⟩
  refine wpAny_Call_method (T := "dict") (id := "dict.values") hbase rfl hline PySem.F.plainAttrs_dict PySem.F.slot_dict_values PySem.F.type_dict_values (thn (he.run pins s σ H _ I h) fun u s1 ⟨x, H1, I1, rx, d, kvs, ex, hd, q⟩ => ?_)
  subst ex
  obtain rfl : u = Value.ref d := rx
  obtain ⟨hz, hs, vs, rel, dd⟩ := dk_of I1.hok hd
  refine ⟨dd.typeIs, dd.mapOf.noDict, ?_⟩
  have fresh := I1.hok.fresh (Nat.le_refl s1.heap.objs.size)
  have hv : (s1.heap.push { cls := .type "dict_values", data := .fields #[.ref d] }).IsValuesView s1.heap.objs.size d := ⟨_, Heap.get?_push_size _ rfl, rfl, rfl⟩
  have I2 : Inv X pins σ (upd H1 s1.heap.objs.size (viewV s1.heap.objs.size d)) { s1 with heap := s1.heap.push { cls := .type "dict_values", data := .fields #[.ref d] } } :=
    I1.laid (t' := s1.toks) (fun b ob q => Heap.get?_push_of_some _ q) (Nat.le_refl _) ⟨hv, ⟨_, Heap.get?_push_size _ rfl⟩, fun h1 h2 ⟨o, ho, x⟩ k => ⟨o, k o ho, x⟩⟩
  show wpAny _ _ (callWith cpos (.builtin "dict.values") [.ref d] [] []) _ X.xe s1
  exact method_meetsIn PySem.F.slot_dict_values PySem.F.entry_dict_values rfl (PySem.evalArgs_none ⟨rfl, dd.typeIs, PySem.F.args_dict_values_1 _, _, meets_dict_values (mixKind X.prog X.w) d hs, ⟨vs, dd⟩, ⟨.ref _, _, I2, rfl, q _ fresh⟩⟩)
end
end Y
namespace Y
open PySem PySem.Spec PyProof.Rows L2
section
variable {X : Cx} {T : Tab} {K : PySem.W.Frag} {W : WX} {L : Nat}
/-- ints alone or texts alone -/
def sortOk1 (l : List PV) : Bool := sortOk l && l.all fun d => match d with
  | .int _ => true
  | .str _ => true
  | _ => false
/-- sorted(d.values()) -/
def mSortV (m : EM) : AM := fun σ h => (m σ h).bnd fun x h1 => match x with
  | .ref n => match h1[n]? with
    | some (.dct kvs) => if sortOk1 (kvs.map (·.2)) && Nat.ble kvs.length line then .ok ((kvs.map (·.2)).mergeSort pvLe) h1 else .bad
    | _ => .bad
  | _ => .bad
theorem Rks.vals {ρ : Pl} {ex : List Addr} {H : Hp} : ∀ {kvs : List (PV × PV)} {ks : List (Key × V)}, Rks K ρ ex H kvs ks → Rvs K ρ ex H (kvs.map (·.2)) (ks.map (·.2))
  | [], _, r => by cases r; exact .nil
  | (_, _) :: _, _, r => by cases r with | cons rk rv r => exact .cons rv r.vals
theorem reads_flat {h : Heap} {d : PV} {v : Value} {as : List Addr} (hd : (match d with | .int _ => true | .str _ => true | _ => false) = true) (r : Reads h v (toD d) as) : as = [] := by
  split at hd
  · cases r; rfl
  · cases r; rfl
  · cases hd
theorem kv_vals : ∀ {ks : List (Key × V)} {vs : List (Key × Value)}, KV ks vs → Vals (ks.map (·.2)) (vs.map (·.2))
  | [], _, r => by cases r; exact .nil
  | _ :: _, _, r => by cases r with | cons a b => exact .cons a.2 (kv_vals b)
theorem sorted_view {ρ : Pl} {ex : List Addr} {H : Hp} {pins : List (Addr × Obj)} {σ : L2.St} {s : Shared} {v d : Addr} {ks : List (Key × V)} {kvs : List (PV × PV)} {Q : VK} (c : Ctx X T W L) (I : Inv X pins σ H s) (hv : H v = some (viewV v d)) (hd : H d = some (.dK ks)) (rk : Rks X.K ρ ex H kvs ks)
    (hk : sortOk1 (kvs.map (·.2)) = true) (hn : kvs.length ≤ line) (q : ∀ p ys, H p = none → ys.length ≤ line → Rvs X.K ρ ex H ((kvs.map (·.2)).mergeSort pvLe) ys → Q (.ref p) (upd H p (.lst ys))) :
    wpAny (model X.prog X.w) X.A (PySem.call (.builtin "sorted") [.ref v]) (EP X pins σ Q) X.xe s := by
  obtain ⟨z, hds, vs, rel, dd⟩ := dk_of I.hok hd
  obtain ⟨ep, hat⟩ := dd.dictAt
  have hview : s.heap.IsValuesView v d := (I.hok v _ hv).1
  have hl : vs.length = kvs.length := by rw [rk.length]; exact (Paired.length rel).symm
  refine PySem.Calls.call_function_entry kind_sorted plain_sorted entry_sorted (args_sorted1 _) ?_
  unfold Builtin.«sorted»
  refine wpAny_bind (m := checkCount "sorted" 1 1 _) (wpAny_pure ?_)
  have hhd : X.A.in1.handled = none := I.ok.hd c.hc
  refine wpAny_bind (PySem.W.kdu_collect (A := X.A.in1) (PySem.W.kdl_values (knd := mixKind X.prog X.w) (kvs := vs) (ep := ep)) hhd ⟨hview, hat⟩ (by rw [hl, ← line_eq]; exact hn) fun h' tk acc hk' hacc => ?_)
  have hal : acc.toList.length = vs.length := by rw [Array.length_toList]; exact hacc.1
  refine wpAny_bind (wpAny_newList ?_ (by rw [hal, hl, ← line_eq]; exact hn))
  have eacc : acc.toList = vs.map (·.2) := by
    refine List.ext_getElem? fun j => ?_
    rw [List.getElem?_map]
    by_cases hj : j < vs.length
    · have hj2 : j < acc.toList.length := by rw [hal]; exact hj
      obtain ⟨k, hk2⟩ := hacc.2 j acc.toList[j] (by rw [← Array.getElem?_toList, List.getElem?_eq_getElem hj2])
      rw [List.getElem?_eq_getElem hj2, hk2]
      rfl
    · rw [List.getElem?_eq_none (by omega), List.getElem?_eq_none (by omega)]
      rfl
  have vrel : Vals (ks.map (·.2)) (vs.map (·.2)) := kv_vals rel
  obtain ⟨hk1, hk2⟩ := Bool.and_eq_true_iff.mp hk
  have so := sort_ok hk1
  have hk2 := List.all_eq_true.mp hk2
  have rl := rk.vals
  have hho : (h'.push { cls := .type "list", data := .seq acc.toList.toArray }).get? h'.objs.size = some (seqObj "list" acc.toList.toArray 0) := Heap.get?_push_size _ rfl
  have keepH : ∀ b o, s.heap.get? b = some o → (h'.push { cls := .type "list", data := .seq acc.toList.toArray }).get? b = some o := fun b o e => Heap.get?_push_of_some _ (hk' b o e)
  have each : PySem.W.EachIs (RR X.K ρ ex H) acc.toList (kvs.map (·.2)) := by rw [eacc]; exact each_of rl vrel
  have er : PySem.W.EachIs (fun v b => ∃ as, Reads (h'.push { cls := .type "list", data := .seq acc.toList.toArray }) v (toD b) as ∧ h'.objs.size ∉ as) acc.toList (kvs.map (·.2)) := by
    have key : ∀ {l : List PV} {us : List Value}, (∀ d ∈ l, d ∈ kvs.map (·.2)) → PySem.W.EachIs (RR X.K ρ ex H) us l → PySem.W.EachIs (fun v b => ∃ as, Reads (h'.push { cls := .type "list", data := .seq acc.toList.toArray }) v (toD b) as ∧ h'.objs.size ∉ as) us l := by
      intro l us hks h
      induction h with
      | nil => exact .nil
      | @cons u d us ds h1 h2 ih =>
        obtain ⟨x, g1, g2⟩ := h1
        have hd := hks d List.mem_cons_self
        obtain ⟨as, r⟩ := Dp.reads I (toD d) x u (Rv.dp d x (so.plain d hd) g2) g1
        have e0 := reads_flat (hk2 d hd) r
        subst e0
        exact .cons ⟨[], PyProof.Rows.Reads.keeps keepH r, by simp⟩ (ih fun e he => hks e (List.mem_cons_of_mem _ he))
    exact key (fun d hd => hd) each
  have hL : (kvs.map (·.2)).length ≤ sizeLine := by rw [List.length_map, ← line_eq]; exact hn
  refine wpAny_bind (wpAny_holding (wpAny_mono (Q := fun _ s' => EP X pins σ Q (.ref h'.objs.size) s') (PySem.W.list_sort_data (R := RR X.K ρ ex H) (enc := toD) (n := 0) hho each er so.alike so.sortable hL (fun b hb => ?_) fun out hlen hout => ?_) (fun _ s' x => wpAny_pure ⟨_, rfl, x⟩) fun _ _ e => e))
  · have h0 := toD_dep b
    have h1 := so.dep b hb
    have h2 := c.hu
    show X.A.in1.units + 1 + _ < _
    have h3 : X.A.in1.units = X.A.units + 1 := rfl
    omega
  · obtain ⟨ws, g1, g2⟩ := of_each hout
    obtain ⟨ep', he'⟩ := PyProof.Rows.sortedHeap_at (vs := acc.toList) (out := out.toArray) hho
    have hnH : H h'.objs.size = none := (I.hok.kept hk').fresh (Nat.le_refl _)
    have hnS : s.heap.get? h'.objs.size = none := by
      cases z : s.heap.get? h'.objs.size with
      | none => rfl
      | some o => exact absurd (Heap.lt_size (hk' _ _ z)) (Nat.lt_irrefl _)
    have hw : ws.length ≤ sizeLine := by rw [← g1.length, List.length_mergeSort]; exact hL
    have hold : ∀ b u, s.heap.get? b = some u → (PyProof.Rows.sortedHeap (h'.push { cls := .type "list", data := .seq acc.toList.toArray }) h'.objs.size acc.toList out.toArray).get? b = some u := fun b u e => by
      have e1 := hk' _ _ e
      have hlt : b < h'.objs.size := Heap.lt_size e1
      rw [PyProof.Rows.sortedHeap_old (Nat.ne_of_lt hlt) (by rw [Heap.size_push]; exact Nat.lt_succ_of_lt hlt)]
      exact Heap.get?_push_of_some _ e1
    exact ⟨.ref _, upd H h'.objs.size (.lst ws), I.laidN (t' := _) hold hnS hnH ⟨hw, out, ep', g2, he'⟩, rfl, q _ _ hnH (by rw [line_eq]; exact hw) g1⟩
/-- sorted(d.values()) -/
def rSortV (X : Cx) (T : Tab) : List V → Hp → VK → Prop := fun xs H Q => ∃ v d ks kvs ρ ex, xs = [.ref v] ∧ H v = some (viewV v d) ∧ H d = some (.dK ks) ∧ Rks X.K ρ ex H kvs ks ∧ sortOk1 (kvs.map (·.2)) = true ∧ kvs.length ≤ line ∧
  ∀ p ys, H p = none → ys.length ≤ line → Rvs X.K ρ ex H ((kvs.map (·.2)).mergeSort pvLe) ys → Q (.ref p) (upd H p (.lst ys))
theorem c_sortV (c : Ctx X T W L) : CallR X (.builtin "sorted") (rSortV X T) := by
  intro pins s σ H xs us Q I r h
  obtain ⟨v, d, ks, kvs, ρ, ex, e, hv, hd, rk, hk, hn, q⟩ := h
  subst e
  rw [Vals.ref1 r]
  exact sorted_view c I hv hd rk hk hn q
theorem sortV (c : Ctx X T W L) {e : Expr} {m : EM} {p pos apos cpos : Pos} (he : PE X e (rdE T X.K W m)) (hm : X.mg "sorted" = none) (hg : Gl X "sorted" := by rfl) (hbase : attributeBase e "values" X.env (eval e X.env) = eval e X.env := by rfl) (hline : (apos.endLine == cpos.line) = true := by rfl)
    (hs : starEach [.Call (.Attribute e "values" apos) [] [] cpos] X.env = (false, eval (.Call (.Attribute e "values" apos) [] [] cpos) X.env) :: starEach [] X.env := by rfl) :
    PE X (.Call (.Name "sorted" p) [.Call (.Attribute e "values" apos) [] [] cpos] [] pos) (rdL T X.K W (mSortV m)) :=
  imE (pe_callB (c_sortV (T := T) c) hg hm (by decide +kernel) (pa_cons (pe_vals he hbase hline) pa_nil hs) (by decide) (by decide) hs rfl) fun σ H Q h => by
    obtain ⟨ρ, ex, sl, hp, rs, rh, q⟩ := h
    refine ⟨ρ, ex, sl, hp, rs, rh, q.bnd.imp fun u h1 ρ1 H1 k1 rh1 q1 x rx => ?_⟩
    cases u with
    | ref n =>
      simp only at q1
      split at q1
      · rename_i kvs eh
        split at q1
        · rename_i hc
          obtain ⟨hk, hn⟩ := Bool.and_eq_true_iff.mp hc
          cases rx with
          | ref er =>
            rename_i a
            obtain ⟨ks, ea, rk⟩ := rh1.dctAt eh er
            refine ⟨a, ks, rfl, ea, fun v hv => ?_⟩
            have kl : Kp ρ1 H1 ρ1 (upd H1 v (viewV v a)) := Kp.laid hv
            refine ⟨v, a, ks, kvs, ρ1, ex, rfl, upd_same, by rw [upd_ne (ne_of_none ea hv)]; exact ea, Rks.mono kl noex _ _ rk, hk, Nat.ble_eq.mp hn, fun p ys hp' hl ry => ?_⟩
            exact q1 ρ1 _ kl (rh1.laid hv) p ys _ hp' rfl hl ry
        · exact q1.elim
      · exact q1.elim
    | _ => exact q1.elim
end
end Y

set_option maxHeartbeats 3200000
/-! sets of texts: made of a list, counted, sorted -/
namespace YS
open PySem PySem.Spec PyProof.Rows L2 PySem.Froz
section
variable {P : Program} {w : World} {A : Around} {E : Value → Shared → Prop}
/-- at a stands a set of the texts l -/
def TxSet (P : Program) (w : World) (h : Heap) (a : Addr) (l : List Str) : Prop :=
  ∃ D : SD, h.get? a = some (sObj "set" D) ∧ TxOk P w D l ∧ l.Nodup ∧ D.1.size < scanBound ∧ Ris D.2.2.place.toList ∧ (w.params.followText "set-order" = true ∨ D.2.2.led = true)
theorem TxSet.at {h h' : Heap} {a : Addr} {l : List Str} (x : TxSet P w h a l) (k : ∀ o, h.get? a = some o → h'.get? a = some o) : TxSet P w h' a l := by
  obtain ⟨D, hD, rest⟩ := x
  exact ⟨D, k _ hD, rest⟩
theorem tail_ris {ep : Nat} {es1 : Array (Int × Value)} {t2 : SetTable} {wd : Bool} (r : Ris t2.place.toList) : Ris (tailTx ep es1 t2 wd).2.2.place.toList := by
  unfold tailTx
  split
  · exact relayAll_ris _ _ _
  · exact r
theorem tail_led {ep : Nat} {es1 : Array (Int × Value)} {t2 : SetTable} {wd : Bool} : (tailTx ep es1 t2 wd).2.2.led = t2.led := by
  unfold tailTx
  split
  · exact relayAll_led _ _ _
  · rfl
theorem add_ris {hh : Int} {v : Value} {D : SD} (r : Ris D.2.2.place.toList) : Ris (addTx hh v D).2.2.place.toList := by
  unfold addTx
  refine tail_ris ?_
  have z := layNew_ris D.2.2 D.1 hh v r
  split
  · exact z
  · exact z
theorem add_led {hh : Int} {v : Value} {D : SD} : (addTx hh v D).2.2.led = D.2.2.led := by
  unfold addTx
  rw [tail_led]
  have z := layNew_led D.2.2 D.1 hh v
  split
  · exact z
  · exact z
/-- one more text among the met ones -/
def metS (l : List Str) (k : Str) : List Str := if k ∈ l then l else k :: l
theorem txset_add {s : Shared} {a : Addr} {l : List Str} {k : Str} {u : Tok} {Q : Bool → Shared → Prop} (x : TxSet P w s.heap a l) (room : l.length + 1 < scanBound)
    (q : ∀ b h', Heap.SameBut a s.heap h' → TxSet P w h' a (metS l k) → Q b { s with heap := h' }) : wpAny (model P w) A (setAddHashed a (.str k u) (hashStr w k)) Q E s := by
  obtain ⟨D, hD, F, nd, hb, r, ld⟩ := x
  unfold metS at q
  by_cases hk : k ∈ l
  · simp only [if_pos hk] at q
    obtain ⟨es, ep, t⟩ := D
    have hd : (sObj "set" (es, ep, t)).data = .set es ep t := rfl
    have hel : ElemsOf (strKind P w) es.toList := F.el
    have hf : t.fits es.size = true := F.fit
    have hkey : (strKind P w).is k (.str k u) = true := is_str k u
    obtain ⟨e0, he0, q0⟩ := (F.mem k).mp hk
    unfold setAddHashed setAddHashedIn
    refine wpAny_holding (wpAny_bind (wpAny_setState_of hD hd hf ?_))
    dsimp only
    rw [byScan_of rfl hb hel]
    simp only [↓reduceIte]
    unfold setAddByScan
    refine wpAny_bind (wpAny_bind (wpAny_rule (wpAny_bind (wpAny_setScan_of (knd := strKind P w) (k := k) hkey hD hd hf hel ?_))))
    cases hr : List.findIdx? (fun e => (strKind P w).is k e.2) es.toList with
    | none => exact absurd q0 (by rw [List.findIdx?_eq_none_iff.mp hr e0 he0]; decide)
    | some j =>
      dsimp only
      exact wpAny_pure (wpAny_pure (q _ _ (Heap.SameBut.refl a s.heap) ⟨(es, ep, t), hD, F, nd, hb, r, ld⟩))
  · simp only [if_neg hk] at q
    have F2 := add_ok (P := P) (w := w) u F (k := k)
    refine add_x hD F hk room (q _ _ (Heap.SameBut.update s.heap a _) ⟨_, get_upd _ hD rfl, F2, List.nodup_cons.mpr ⟨hk, nd⟩, ?_, add_ris r, ?_⟩)
    · rw [F2.sz]; exact room
    · exact ld.imp id fun z => by rw [add_led]; exact z
/-- the texts met -/
def metAll (xs : List Str) (i : Nat) : List Str := (xs.take i).foldl metS []
theorem metS_len (l : List Str) (k : Str) : (metS l k).length ≤ l.length + 1 := by
  unfold metS
  split
  · exact Nat.le_succ _
  · exact Nat.le_refl _
theorem metAll_len (xs : List Str) : ∀ i, (metAll xs i).length ≤ i := by
  have key : ∀ (ys : List Str) (l : List Str), (ys.foldl metS l).length ≤ l.length + ys.length := by
    intro ys
    induction ys with
    | nil => intro l; exact Nat.le_refl _
    | cons y ys ih =>
      intro l
      have h1 := ih (metS l y)
      have h2 := metS_len l y
      rw [List.foldl_cons, List.length_cons]
      omega
  intro i
  have h := key (xs.take i) []
  rw [List.length_take] at h
  unfold metAll
  simp only [List.length_nil] at h
  omega
theorem metAll_succ {xs : List Str} {i : Nat} {x : Str} (h : xs[i]? = some x) : metAll xs (i + 1) = metS (metAll xs i) x := by
  unfold metAll
  rw [List.take_succ, h, Option.toList_some, List.foldl_append]
  rfl
end
section
variable {P : Program} {w : World} {A : Around} {R : Result → Shared → Prop} {I : Addr} {fp wr : List Addr} {G : Array GenState → Array GenState → Prop} {n : Nat} {Pv : Nat → Value → Prop} {St : Nat → Shared → Prop}
theorem loop_txset (W : WalksS P w A.in1 I fp wr G n Pv St) (S : Addr) (hSf : S ∉ fp) (xs : List Str) (hsz : xs.length = n) (hb : n + 1 < scanBound) (hval : ∀ i v, Pv i v → ∃ t, v = .str (xs.getD i Str.empty) t) :
    ∀ (k i : Nat) (s : Shared), n - i = k → i ≤ n → St i s → TxSet P w s.heap S (metAll xs i) →
      (∀ s', Moved (S :: wr) G s s' → TxSet P w s'.heap S (metAll xs n) → R (.ok (.ret .none)) s') →
      codeAny (model P w) A (.builtin "set.update.loop" ⟨[.ref S, .ref I], []⟩) R s := by
  have nSw : S ∉ wr := fun z => hSf (W.sub _ z)
  have sub2 : ∀ b ∈ wr, b ∈ S :: wr := fun b z => List.mem_cons_of_mem _ z
  intro k
  induction k with
  | zero =>
    intro i s hk hi hst hS hR
    obtain rfl : i = n := by omega
    refine codeAny_builtin PyProof.Rows.F.entry_set_update_loop (?_ : wpAny _ _ _ _ _ _)
    rw [Around.under_plainId PyProof.Rows.F.plain_set_update_loop _]
    show wpAny _ A.in1 (pyNext (.ref I) >>= _) _ _ s
    refine wpAny_bind (W.done s _ _ hst fun s' mv => (?_ : wpAny _ A.in1 (ret Value.none) _ _ s'))
    exact wpAny_pure (hR s' (mv.mono sub2) (hS.at fun o e => mv.heap S _ nSw e))
  | succ k ih =>
    intro i s hk hi hst hS hR
    have hlt : i < n := by omega
    refine codeAny_builtin PyProof.Rows.F.entry_set_update_loop (?_ : wpAny _ _ _ _ _ _)
    rw [Around.under_plainId PyProof.Rows.F.plain_set_update_loop _]
    show wpAny _ A.in1 (pyNext (.ref I) >>= _) _ _ s
    refine wpAny_bind (W.item i s _ _ hlt hst fun v s' hP hst' mv => ?_)
    obtain ⟨t, rfl⟩ := hval i v hP
    have hS' : TxSet P w s'.heap S (metAll xs i) := hS.at fun o e => mv.heap S _ nSw e
    show wpAny _ A.in1 (holding [Value.str (xs.getD i Str.empty) t] (setAdd S (.str (xs.getD i Str.empty) t)) >>= _) _ _ s'
    refine wpAny_bind (wpAny_holding (?_ : wpAny _ _ (setAdd _ _) _ _ _))
    unfold setAdd
    refine wpAny_holding (wpAny_bind ((PySem.strKind P w).pyHash (k := xs.getD i Str.empty) (strKind_is _ _ _ _) ?_))
    have ml := metAll_len xs i
    have hx : xs[i]? = some (xs.getD i Str.empty) := by
      rw [List.getElem?_eq_getElem (by omega), List.getD_eq_getElem?_getD, List.getElem?_eq_getElem (by omega)]
      rfl
    refine txset_add (s := { s' with toks := s'.toks + 1 }) hS' (by omega) fun b h' sb hS2 => ?_
    rw [← metAll_succ hx] at hS2
    refine wpAny_pure ⟨plainId_quiet PyProof.Rows.F.plain_set_update_loop _, ih (i + 1) _ (by omega) hlt (W.frame _ s' _ _ hst' (Nat.le_succ _) fun c hc o e => ?_) hS2 fun s2 mv2 hS3 => ?_⟩
    · rw [sb.2 c (fun z : c = S => hSf (z ▸ hc))]; exact e
    · refine hR s2 (Moved.trans W.gtrans ((mv.mono sub2).then_heap (Nat.le_succ _) fun c o hc e => ?_) mv2) hS3
      rw [sb.2 c (fun z : c = S => hc (z ▸ List.mem_cons_self))]; exact e
end
section
variable {P : Program} {w : World} {A : Around} {E : Value → Shared → Prop} {s : Shared}
theorem call_txset {l : Addr} {items : Array Value} {xs : List Str} {Q : Value → Shared → Prop} (hh : A.handled = none) (hl : s.heap.IsList l items) (hi : PyProof.Rows.StrsAre items.toList xs) (hb : items.size + 1 < scanBound)
    (q : ∀ (h' : Heap) (tk : Nat), TxSet P w h' s.heap.objs.size (metAll xs items.size) → (∀ b o, b < s.heap.objs.size → s.heap.get? b = some o → h'.get? b = some o) → Q (.ref s.heap.objs.size) { s with heap := h', toks := tk }) :
    wpAny (model P w) A (call (.type "set") [.ref l]) Q E s := by
  obtain ⟨c, tl, z1⟩ := PySem.F.called_set.mro
  have z2 := PySem.F.called_set.made
  have z3 := PySem.F.called_set.sub
  refine wpAny_call (codeAny_of_tree (?_ : wpAny _ _ (callAny (.type "set") _) _ _ _))
  refine wpAny_pure ⟨Code.quiet_builtin _ (by decide +kernel), codeAny_builtin PySem.F.entry_type_call (?_ : wpAny _ _ _ _ _ _)⟩
  rw [Around.under_plain (weight_type_call_type "set" [.ref l] []) rfl]
  have z4 := PySem.F.called_set.notType
  have z5 := PySem.F.called_set.canCreate
  have z6 := PySem.F.typeCall_set_1 (.ref l)
  repeat (any_goals (first | assumption | wp_step))
  refine codeAny_mono (code_set_led1 (P := P) (w := w) (A := _) (E := E) (s := s) (.ref l) (Q₁ := fun obj s₁ => obj = .ref s.heap.objs.size ∧ s₁ = { s with heap := s.heap.push { cls := .type "set", dict := none, data := .set #[] 0 (.fresh 0 0 (!w.params.followText "set-order")) } }) ⟨rfl, rfl⟩) fun r s₁ hr => ?_
  cases r with
  | error e => exact hr
  | ok fl =>
    cases fl with
    | ret obj =>
      obtain ⟨rfl, rfl⟩ := hr
      generalize hled : (!w.params.followText "set-order") = led
      have hS : (s.heap.push { cls := .type "set", dict := none, data := .set #[] 0 (.fresh 0 0 led) }).get? s.heap.objs.size = some { cls := .type "set", dict := none, data := .set #[] 0 (.fresh 0 0 led) } := Heap.get?_push_size _ rfl
      have hT : Shared.TypeIs { s with heap := s.heap.push { cls := .type "set", dict := none, data := .set #[] 0 (.fresh 0 0 led) } } (.ref s.heap.objs.size) "set" := ⟨_, hS, rfl⟩
      have z7 := PySem.F.called_set.init.lookup
      have z8 := PySem.F.called_set.init.bind (.ref s.heap.objs.size)
      repeat (any_goals (first | assumption | wp_step))
      refine codeAny_mono (codeAny_call_builtin (R := wants (fun r s₂ => r = .none ∧ ∃ h' tk, s₂ = { s with heap := h', toks := tk } ∧ TxSet P w h' s.heap.objs.size (metAll xs items.size) ∧
          (∀ b o, b < s.heap.objs.size → s.heap.get? b = some o → h'.get? b = some o)) E) PySem.F.called_set.init.plain PySem.F.entry_set_init (check_set_init_1 hT ?_)) fun r₂ s₂ hr₂ => ?_
      · obtain ⟨ol, hol, hcl, nl, hdl⟩ := hl
        obtain ⟨ocls, odict, odata, oslots⟩ := ol
        simp only at hcl hdl
        subst hcl; subst hdl
        have hol' : (s.heap.push { cls := .type "set", dict := none, data := .set #[] 0 (.fresh 0 0 led) }).get? l = some { cls := .type "list", dict := odict, data := .seq items nl, slots := oslots } := Heap.get?_push_of_some _ hol
        have y1 := PySem.F.sub_list_set
        have y2 := PySem.F.sub_list_frozenset
        have y3 : (Value.type "list" == Value.type "dict") = false := by decide
        have hl1 : (s.heap.push { cls := .type "set", dict := none, data := .set #[] 0 (.fresh 0 0 led) }).IsList l items := ⟨_, hol', rfl, nl, rfl⟩
        unfold Builtin.«set.__init__» noKeywords Builtin.Frozenset.updateFrom
        generalize hPI : pyIter = PI
        wp_walk
        subst hPI
        refine wpAny_pyIter_list hl1 (wpAny_bind (wpAny_runValue ?_))
        have hlS : l < s.heap.objs.size := Heap.lt_size hol
        have hh3 : A.in1.in1.in1.handled = none := by simp [hh]
        have hneI : l ≠ (s.heap.push { cls := .type "set", dict := none, data := .set #[] 0 (.fresh 0 0 led) }).objs.size := by
          rw [Heap.size_push]; exact Nat.ne_of_lt (Nat.lt_succ_of_lt hlS)
        have hSf : s.heap.objs.size ∉ [(s.heap.push { cls := .type "set", dict := none, data := .set #[] 0 (.fresh 0 0 led) }).objs.size, l] := by
          rw [Heap.size_push]
          intro z
          rcases List.mem_cons.mp z with z | z
          · exact Nat.ne_of_lt (Nat.lt_succ_self _) z
          · exact Nat.ne_of_gt hlS (List.mem_singleton.mp z)
        have hsz : xs.length = items.size := by rw [← StrsAre.len_eq hi, Array.length_toList]
        have hval : ∀ (i : Nat) (v : Value), items[i]? = some v → ∃ t, v = .str (xs.getD i Str.empty) t := fun i v hv => SS.strs_at hi i v (by rw [Array.getElem?_toList]; exact hv)
        refine loop_txset ((Walks.list hh3 _ l hneI items).toS) s.heap.objs.size hSf xs hsz hb hval (items.size - 0) 0 _ (by omega) (Nat.zero_le _) ⟨⟨_, Heap.get?_push_size _ rfl, rfl, rfl⟩, (hl1.push _)⟩ ?hS0 ?hR
        case hS0 =>
          have hget : ((s.heap.push { cls := .type "set", dict := none, data := .set #[] 0 (.fresh 0 0 led) }).push { cls := .type "list_iterator", data := .fields #[.ref l, .int 0 0] }).get? s.heap.objs.size = some { cls := .type "set", dict := none, data := .set #[] 0 (.fresh 0 0 led) } := Heap.get?_push_of_some _ hS
          refine ⟨(#[], 0, .fresh 0 0 led), hget, TxOk.nil ?_, List.nodup_nil, by show (0 : Nat) < 4096; decide, ?_, ?_⟩
          · cases led <;> decide
          · show Ris []
            exact List.Pairwise.nil
          · subst hled
            show _ ∨ (!w.params.followText "set-order") = true
            cases w.params.followText "set-order" <;> simp
        case hR =>
          intro s' mv hS'
          obtain ⟨h', g', d', tk', os'⟩ := s'
          obtain rfl : g' = s.gens := mv.gens
          obtain rfl : d' = s.drawn := mv.drawn
          obtain rfl : os' = s.os := mv.os
          show wpAny _ _ _ _ _ _
          refine wpAny_pure (?_ : wpAny _ _ (ret Value.none) _ _ _)
          refine wpAny_pure ⟨rfl, h', tk', rfl, hS', fun b o hb e => ?_⟩
          have n1 : b ≠ s.heap.objs.size := Nat.ne_of_lt hb
          have n2 : b ≠ (s.heap.push { cls := .type "set", dict := none, data := .set #[] 0 (.fresh 0 0 led) }).objs.size := by
            rw [Heap.size_push]; exact Nat.ne_of_lt (Nat.lt_succ_of_lt hb)
          refine mv.heap b o (fun z => ?_) (Heap.get?_push_of_some _ (Heap.get?_push_of_some _ e))
          rcases List.mem_cons.mp z with z | z
          · exact n1 z
          · exact n2 (List.mem_singleton.mp z)
      · cases r₂ with
        | error e => exact hr₂
        | ok fl₂ =>
          cases fl₂ with
          | ret r =>
            obtain ⟨rfl, h', tk, rfl, hS', hk'⟩ := hr₂
            repeat (any_goals (first | assumption | wp_step))
            exact q _ _ hS' hk'
          | _ => exact hr₂.elim
    | _ => exact hr.elim
end
end YS

set_option maxHeartbeats 1000000
namespace YS
open PySem PySem.Spec PyProof.Rows L2 PySem.Froz
section
variable {β : Type} {k : β → PyData}
theorem dle_total (a b : β) : (PySem.W.dataLe false k a b || PySem.W.dataLe false k b a) = true := by
  show (!PySem.W.dataLt (k b) (k a) || !PySem.W.dataLt (k a) (k b)) = true
  cases h1 : PySem.W.dataLt (k b) (k a) with
  | false => rfl
  | true =>
    cases h2 : PySem.W.dataLt (k a) (k b) with
    | false => rfl
    | true => exact absurd (lex_trans _ _ _ h1 h2) (by rw [lex_irrefl]; decide)
theorem dle_trans (a b c : β) (h1 : PySem.W.dataLe false k a b = true) (h2 : PySem.W.dataLe false k b c = true) : PySem.W.dataLe false k a c = true := by
  have h1 : (!PySem.W.dataLt (k b) (k a)) = true := h1
  have h2 : (!PySem.W.dataLt (k c) (k b)) = true := h2
  show (!PySem.W.dataLt (k c) (k a)) = true
  cases h3 : PySem.W.dataLt (k c) (k a) with
  | false => rfl
  | true =>
    rcases lex_negTrans _ (PySem.W.keyToks (k b)) _ h3 with z | z
    · have z : PySem.W.dataLt (k c) (k b) = true := z
      rw [z] at h2; cases h2
    · have z : PySem.W.dataLt (k b) (k a) = true := z
      rw [z] at h1; cases h1
theorem dle_anti {a b : β} (h1 : PySem.W.dataLe false k a b = true) (h2 : PySem.W.dataLe false k b a = true) : PySem.W.keyToks (k a) = PySem.W.keyToks (k b) := by
  have h1 : (!PySem.W.dataLt (k b) (k a)) = true := h1
  have h2 : (!PySem.W.dataLt (k a) (k b)) = true := h2
  have h1 : PySem.W.dataLt (k b) (k a) = false := by simpa using h1
  have h2 : PySem.W.dataLt (k a) (k b) = false := by simpa using h2
  exact lex_total _ _ h2 h1
theorem sort_pair (l : List β) : (l.mergeSort (PySem.W.dataLe false k)).Pairwise fun a b => PySem.W.dataLe false k a b = true := List.pairwise_mergeSort dle_trans dle_total l
theorem sort_perm {l l' : List β} (inj : ∀ a ∈ l, ∀ b ∈ l', PySem.W.keyToks (k a) = PySem.W.keyToks (k b) → a = b) (p : l.Perm l') : l.mergeSort (PySem.W.dataLe false k) = l'.mergeSort (PySem.W.dataLe false k) := by
  refine List.Perm.eq_of_pairwise (le := fun a b => PySem.W.dataLe false k a b = true) (fun a b ha hb h1 h2 => ?_) (sort_pair l) (sort_pair l') ((List.mergeSort_perm l _).trans (p.trans (List.mergeSort_perm l' _).symm))
  exact inj a ((List.mergeSort_perm l _).mem_iff.mp ha) b ((List.mergeSort_perm l' _).mem_iff.mp hb) (dle_anti h1 h2)
end
section
variable {P : Program} {w : World} {A : Around} {E : Value → Shared → Prop} {s : Shared}
def IsStr (v : Value) (z : Str) : Prop := ∃ t, v = .str z t
theorem str_out {l : List Str} {D : SD} (F : TxOk P w D l) {v : Value} (h : v ∈ D.1.toList.map (·.2)) : ∃ z, z ∈ l ∧ IsStr v z := by
  obtain ⟨e, he, rfl⟩ := List.mem_map.mp h
  obtain ⟨⟨z, hz, _⟩, _⟩ := F.el e he
  refine ⟨z, (F.mem z).mpr ⟨e, he, hz⟩, ?_⟩
  have hz' : Value.isStrOf z e.2 = true := hz
  cases hv : e.2 with
  | str y t =>
    rw [hv] at hz'
    have : y = z := by simpa [Value.isStrOf] using hz'
    exact ⟨t, by rw [this]⟩
  | _ => rw [hv] at hz'; cases hz'
theorem each_strs : ∀ {vs : List Value}, (∀ v ∈ vs, ∃ z, IsStr v z) → ∃ zs, PySem.W.EachIs IsStr vs zs
  | [], _ => ⟨[], .nil⟩
  | v :: vs, h => by
    obtain ⟨z, hz⟩ := h v List.mem_cons_self
    obtain ⟨zs, hs⟩ := each_strs fun u hu => h u (List.mem_cons_of_mem _ hu)
    exact ⟨z :: zs, .cons hz hs⟩
theorem each_mem : ∀ {vs : List Value} {zs : List Str}, PySem.W.EachIs IsStr vs zs → ∀ z, z ∈ zs ↔ ∃ v ∈ vs, IsStr v z
  | _, _, .nil, z => by simp
  | _, _, .cons (a := v) (b := y) (as := vs) (bs := ys) h r, z => by
    rw [List.mem_cons, each_mem r]
    constructor
    · rintro (e | ⟨u, hu, q⟩)
      · exact ⟨v, List.mem_cons_self, e ▸ h⟩
      · exact ⟨u, List.mem_cons_of_mem _ hu, q⟩
    · rintro ⟨u, hu, q⟩
      rcases List.mem_cons.mp hu with e | e
      · subst e
        obtain ⟨t, ht⟩ := h
        obtain ⟨t', ht'⟩ := q
        rw [ht] at ht'
        cases ht'
        exact .inl rfl
      · exact .inr ⟨u, e, q⟩
theorem each_len : ∀ {vs : List Value} {zs : List Str}, PySem.W.EachIs IsStr vs zs → zs.length = vs.length
  | _, _, .nil => rfl
  | _, _, .cons _ r => by rw [List.length_cons, List.length_cons, each_len r]
/-- a row with no more items than l, and all of l among them, is l in another order -/
theorem perm_of : ∀ {l zs : List Str}, l.Nodup → zs.length ≤ l.length → (∀ z ∈ l, z ∈ zs) → zs.Perm l
  | [], zs, _, hl, _ => by
    cases zs with
    | nil => exact .nil
    | cons z zs => simp at hl
  | a :: l, zs, nd, hl, hm => by
    obtain ⟨n1, n2⟩ := List.nodup_cons.mp nd
    have ha := hm a List.mem_cons_self
    refine (List.perm_cons_erase ha).trans (.cons a (perm_of n2 ?_ fun z hz => ?_))
    · rw [List.length_erase_of_mem ha]
      rw [List.length_cons] at hl
      omega
    · exact (List.mem_erase_of_ne fun (e : z = a) => n1 (e ▸ hz)).mpr (hm z (List.mem_cons_of_mem _ hz))
theorem sorted_txset {a : Addr} {l : List Str} {Q : Value → Shared → Prop} (x : TxSet P w s.heap a l) (hh : A.handled = none) (hu : A.units + 4 < cLine)
    (q : ∀ s' p (out : List Value) (c : Nat), (∀ b o, s.heap.get? b = some o → s'.heap.get? b = some o) → s'.gens = s.gens → s'.os = s.os → s.heap.objs.size ≤ p → s'.heap.get? p = some (seqObj "list" out.toArray c) →
      PySem.W.EachIs IsStr out (l.mergeSort (PySem.W.dataLe false PyData.str)) → Q (.ref p) s') : wpAny (model P w) A (call (.builtin "sorted") [.ref a]) Q E s := by
  obtain ⟨D, hD, F, nd, hb, r, ld⟩ := x
  obtain ⟨es, ep, t⟩ := D
  have hsz : es.size = l.length := F.sz
  have hf : t.fits es.size = true := F.fit
  refine Calls.call_function_entry kind_sorted plain_sorted entry_sorted (args_sorted1 _) ?_
  unfold Builtin.«sorted»
  refine wpAny_bind (m := checkCount "sorted" 1 1 _) (wpAny_pure (wpAny_bind (collect_set (A := A.in1) hh ⟨_, hD, rfl, rfl⟩ hf hb r ld fun s1 vs k1 hz g1 o1 pm => ?_)))
  have hvl : vs.length = l.length := by rw [pm.length_eq, List.length_map, Array.length_toList]; exact hsz
  have hL : l.length ≤ sizeLine := by
    have h1 : l.length < 4096 := by rw [← hsz]; exact hb
    rw [sizeLine_eq]; omega
  obtain ⟨zs, hzs⟩ := each_strs (vs := vs) fun v hv => let ⟨z, _, h⟩ := str_out F (pm.mem_iff.mp hv); ⟨z, h⟩
  have hmem : ∀ z ∈ l, z ∈ zs := fun z hz => by
    obtain ⟨e, he, q0⟩ := (F.mem z).mp hz
    refine (each_mem hzs z).mpr ⟨e.2, pm.mem_iff.mpr (List.mem_map_of_mem he), ?_⟩
    have q0 : Value.isStrOf z e.2 = true := q0
    cases hv : e.2 with
    | str y t =>
      rw [hv] at q0
      have : y = z := by simpa [Value.isStrOf] using q0
      exact ⟨t, by rw [this]⟩
    | _ => rw [hv] at q0; cases q0
  have pz : zs.Perm l := perm_of nd (by rw [each_len hzs, hvl]; exact Nat.le_refl _) hmem
  have hoL : (s1.heap.push (seqObj "list" vs.toArray 0)).get? s1.heap.objs.size = some (seqObj "list" vs.toArray 0) := Heap.get?_push_size _ rfl
  refine wpAny_bind (wpAny_newList ?_ (by rw [hvl]; exact hL))
  have er : PySem.W.EachIs (fun v b => ∃ as, Reads (s1.heap.push (seqObj "list" vs.toArray 0)) v (PyData.str b) as ∧ s1.heap.objs.size ∉ as) vs zs := by
    have key : ∀ {us : List Value} {ys : List Str}, PySem.W.EachIs IsStr us ys → PySem.W.EachIs (fun v b => ∃ as, Reads (s1.heap.push (seqObj "list" vs.toArray 0)) v (PyData.str b) as ∧ s1.heap.objs.size ∉ as) us ys := by
      intro us ys h
      induction h with
      | nil => exact .nil
      | cons h1 h2 ih =>
        obtain ⟨t, rfl⟩ := h1
        exact .cons ⟨[], .str _ _, by simp⟩ ih
    exact key hzs
  have hal : PySem.W.AllAlike (zs.map PyData.str) := fun d hd d' hd' => by
    obtain ⟨a, _, rfl⟩ := List.mem_map.mp hd
    obtain ⟨b, _, rfl⟩ := List.mem_map.mp hd'
    rfl
  have hso : PySem.W.Sortable (zs.map PyData.str) := .inr fun d hd => by
    obtain ⟨a, _, rfl⟩ := List.mem_map.mp hd
    exact ⟨(fun z => by cases z), (fun _ z => by cases z)⟩
  refine wpAny_bind (wpAny_holding (wpAny_mono (Q := fun _ s' => Q (.ref s1.heap.objs.size) s') (PySem.W.list_sort_data (R := IsStr) (enc := PyData.str) (n := 0) hoL hzs er hal hso (by rw [pz.length_eq]; exact hL) (fun b hb => ?_) fun out hlen hout => ?_) (fun _ s' x => wpAny_pure ⟨_, rfl, x⟩) fun _ _ e => e))
  · show A.in1.units + 1 + 0 < _
    have h3 : A.in1.units = A.units + 1 := rfl
    omega
  · obtain ⟨c, hc⟩ := sortedHeap_at (vs := vs) (out := out.toArray) hoL
    refine q _ s1.heap.objs.size out c (fun b u e => ?_) g1 o1 hz hc ?_
    · have e1 := k1 b u e
      have hlt := Heap.lt_size e1
      show (sortedHeap (s1.heap.push (seqObj "list" vs.toArray 0)) s1.heap.objs.size vs out.toArray).get? b = some u
      rw [sortedHeap_old (Nat.ne_of_lt hlt) (by rw [Heap.size_push]; exact Nat.lt_succ_of_lt hlt)]
      exact Heap.get?_push_of_some _ e1
    · rw [← sort_perm (fun a _ b _ e => ?_) pz]
      · exact hout
      · have e : [Sum.inr a.cps.toList] = [Sum.inr b.cps.toList] := e
        exact PySem.W.str_of_cps (Sum.inr.inj (List.cons.inj e).1)
end
end YS

namespace Y
open PySem PySem.Spec PyProof.Rows L2 YS
section
variable {X : Cx} {T : Tab} {K : PySem.W.Frag} {W : WX} {L : Nat}
/-- texts, each once -/
def dedup (ts : List (List Nat)) : List (List Nat) := ts.foldl (fun acc k => if k ∈ acc then acc else k :: acc) []
def TxO (P : Program) (w : World) (a : Addr) (l : List Str) : HO := .ext fun h => TxSet P w h a l
theorem txO_new {P : Program} {w : World} {H : Hp} {h : Heap} {a : Addr} {l : List Str} (x : TxSet P w h a l) : ObjOk P w H h a (TxO P w a l) := by
  obtain ⟨D, hD, _⟩ := id x
  exact ⟨x, ⟨_, hD⟩, fun h1 h2 p k => p.at k⟩
def rTxSet (X : Cx) : List V → Hp → VK → Prop := fun xs H Q => ∃ (l : Addr) (ts : List Str), xs = [.ref l] ∧ SqL X.K H l (ts.map V.str) ∧ ts.length + 1 < 4096 ∧ ∀ p, H p = none → Q (.ref p) (upd H p (TxO X.prog X.w p (metAll ts ts.length)))
theorem c_txset (c : Ctx X T W L) : CallR X (.type "set") (rTxSet X) := by
  intro pins s σ H xs us Q I r h
  obtain ⟨l, ts, e, hl, hn, q⟩ := h
  subst e
  rw [Vals.ref1 r]
  obtain ⟨its, rv, pl, hz⟩ := I.list hl
  have hi : StrsAre its ts := strsAre_of rv
  have hsz : its.toArray.size = ts.length := by rw [List.size_toArray, StrsAre.len_eq hi]
  refine call_txset (xs := ts) (I.ok.hd c.hc) pl.isList (by simpa using hi) (by rw [hsz]; exact hn) fun h' tk hS hk => ?_
  rw [hsz] at hS
  exact ⟨.ref _, _, I.laid (t' := tk) (fun b o e => hk b o (Heap.lt_size e) e) (Nat.le_refl _) (txO_new hS), rfl, q _ (I.hok.fresh (Nat.le_refl _))⟩
def rLenTx (X : Cx) : List V → Hp → VK → Prop := fun xs H Q => ∃ a l, xs = [.ref a] ∧ H a = some (TxO X.prog X.w a l) ∧ Q (.int l.length) H
theorem c_lenTx : CallR X (.builtin "len") (rLenTx X) := by
  intro pins s σ H xs us Q I r h
  obtain ⟨a, l, e, ha, q⟩ := h
  subst e
  rw [Vals.ref1 r]
  obtain ⟨D, hD, F, nd, hb, _⟩ := ((I.hok a _ ha).1 : TxSet X.prog X.w s.heap a l)
  have hsz : D.1.size = l.length := F.sz
  have hb : D.1.size < 4096 := hb
  refine call_len_set hD ⟨rfl, rfl, rfl⟩ rfl F.fit (by omega) ⟨.int l.length, H, I.tok _, ⟨_, by rw [hsz]⟩, q⟩
def rSortTx (X : Cx) : List V → Hp → VK → Prop := fun xs H Q => ∃ a l, xs = [.ref a] ∧ H a = some (TxO X.prog X.w a l) ∧ ∀ p, H p = none → Q (.ref p) (upd H p (.lst ((l.mergeSort (PySem.W.dataLe false PyData.str)).map V.str)))
theorem c_sortTx (c : Ctx X T W L) : CallR X (.builtin "sorted") (rSortTx X) := by
  intro pins s σ H xs us Q I r h
  obtain ⟨a, l, e, ha, q⟩ := h
  subst e
  rw [Vals.ref1 r]
  have x : TxSet X.prog X.w s.heap a l := (I.hok a _ ha).1
  obtain ⟨D, hD, F, nd, hb, _⟩ := id x
  have hll : l.length < 4096 := by
    have e : D.1.size = l.length := F.sz
    rw [← e]
    exact hb
  refine sorted_txset x (I.ok.hd c.hc) (by have := c.hu; omega) fun s' p out cc k1 g1 o1 hp hl he => ?_
  have hvals : Vals ((l.mergeSort (PySem.W.dataLe false PyData.str)).map V.str) out := by
    have key : ∀ {us : List Value} {zs : List Str}, PySem.W.EachIs IsStr us zs → Vals (zs.map V.str) us := by
      intro us zs h
      induction h with
      | nil => exact .nil
      | cons h1 h2 ih => exact .cons h1 ih
    exact key he
  obtain ⟨hh, g, d, t, os⟩ := s'
  obtain rfl : g = s.gens := g1
  obtain rfl : os = s.os := o1
  have hsz : ((l.mergeSort (PySem.W.dataLe false PyData.str)).map V.str).length ≤ sizeLine := by
    rw [List.length_map, List.length_mergeSort, sizeLine_eq]; omega
  have hn : H p = none := I.hok.fresh hp
  have J : Inv X pins σ (upd H p (.lst ((l.mergeSort (PySem.W.dataLe false PyData.str)).map V.str))) ⟨hh, s.gens, d, t, s.os⟩ :=
    I.call (ch := []) (Un.laid k1 hp hn) (I.hok.laid k1 hp ⟨hsz, out, cc, hvals, hl⟩) I.bare (fun _ z => nomatch z)
  exact ⟨.ref p, _, J, rfl, q _ hn⟩
end
end Y

set_option maxHeartbeats 1000000
namespace Y
open PySem PySem.Spec PyProof.Rows L2 YS
section
variable {X : Cx} {T : Tab} {K : PySem.W.Frag} {W : WX} {L : Nat}
def few (n : Nat) : Bool := Nat.ble n 4000
/-- len(set(x)), sorted(set(x)) of texts -/
def mLenSet (m : EM) : EM := fun σ h => (m σ h).bnd fun x h1 => retO ((asList x h1).bind fun l => (strsOf l).bind fun ts => if few ts.length then some (PV.int (dedup ts).length) else none) h1
def mSortSet (m : EM) : AM := fun σ h => (m σ h).bnd fun x h1 => retO ((asList x h1).bind fun l => (strsOf l).bind fun ts => if few ts.length then some (((dedup ts).map PV.str).mergeSort pvLe) else none) h1
theorem strs_rel {ρ : Pl} {ex : List Addr} {H : Hp} : ∀ {l : List PV} {vs : List V} {ts : List (List Nat)}, Rvs K ρ ex H l vs → strsOf l = some ts → ∃ zs : List Str, vs = zs.map V.str ∧ ts = zs.map (fun z => z.cps.toList) ∧ ∀ z ∈ zs, StrR z.cps.toList z
  | [], _, ts, r, e => by
    cases r; cases e
    exact ⟨[], rfl, rfl, fun z hz => by cases hz⟩
  | d :: l, _, ts, r, e => by
    cases r with
    | cons r1 r2 =>
      cases r1 with
      | str rs =>
        rename_i s z
        obtain ⟨ts', e1, e2⟩ := Option.map_eq_some_iff.mp (show (strsOf l).map (s :: ·) = some ts from e)
        obtain ⟨zs, h1, h2, h3⟩ := strs_rel r2 e1
        subst e2 h1 h2
        refine ⟨z :: zs, rfl, by rw [List.map_cons, rs.eq], fun y hy => ?_⟩
        rcases List.mem_cons.mp hy with e | e
        · subst e; exact ⟨rfl, by rw [rs.eq]; exact rs.len, by rw [rs.eq]; exact rs.ok⟩
        · exact h3 y e
      | _ => cases e
def cpl (z : Str) : List Nat := z.cps.toList
theorem cpl_inj {a b : Str} (h : cpl a = cpl b) : a = b := PySem.W.str_of_cps h
theorem met_dedup : ∀ (zs acc : List Str), (zs.foldl metS acc).map cpl = (zs.map cpl).foldl (fun acc k => if k ∈ acc then acc else k :: acc) (acc.map cpl)
  | [], acc => rfl
  | z :: zs, acc => by
    rw [List.foldl_cons, List.map_cons, List.foldl_cons, met_dedup zs]
    congr 1
    unfold metS
    by_cases h : z ∈ acc
    · rw [if_pos h, if_pos (List.mem_map_of_mem h)]
    · rw [if_neg h, if_neg, List.map_cons]
      intro q
      obtain ⟨y, hy, e⟩ := List.mem_map.mp q
      exact h (cpl_inj e ▸ hy)
theorem met_all (zs : List Str) : (metAll zs zs.length).map cpl = dedup (zs.map cpl) := by
  unfold metAll dedup
  rw [List.take_length]
  exact met_dedup zs []
theorem met_mem {zs : List Str} {z : Str} (h : z ∈ metAll zs zs.length) : z ∈ zs := by
  have key : ∀ (ys acc : List Str), z ∈ ys.foldl metS acc → z ∈ ys ∨ z ∈ acc := by
    intro ys
    induction ys with
    | nil => intro acc h; exact .inr h
    | cons y ys ih =>
      intro acc h
      rcases ih _ h with q | q
      · exact .inl (List.mem_cons_of_mem _ q)
      · unfold metS at q
        split at q
        · exact .inr q
        · rcases List.mem_cons.mp q with e | e
          · exact .inl (by rw [e]; exact List.mem_cons_self)
          · exact .inr e
  unfold metAll at h
  rw [List.take_length] at h
  rcases key _ _ h with q | q
  · exact q
  · cases q
theorem few_lt {n : Nat} (h : few n = true) : n + 1 < 4096 := by
  have := Nat.ble_eq.mp h
  omega
/-- set(x) of texts, then something of the set -/
theorem rd_txset {m : EM} {σ : L2.St} {H : Hp} {α : Type} {f : List (List Nat) → α} {k : α → VH → Pl → Hp → Prop} {Q : V → Hp → Prop} {ρ : Pl} {ex : List Addr} {sl : Sl} {hp : VH} (rs : Rst X.K ρ ex H sl σ) (rh : Rh T X.K ρ ex H hp)
    (q : Fin T X.K W ρ ex σ H ((m sl hp).bnd fun x h1 => retO ((asList x h1).bind fun l => (strsOf l).bind fun ts => if few ts.length then some (f ts) else none) h1) k)
    (go : ∀ (h1 : VH) (ρ1 : Pl) (H1 : Hp) (zs : List Str) (p : Addr), Kp ρ H ρ1 H1 → Rh T X.K ρ1 ex H1 h1 → H1 p = none → (∀ z ∈ zs, StrR (cpl z) z) → zs.length + 1 < 4096 → (∀ ρ' H', Kp ρ1 H1 ρ' H' → Rh T X.K ρ' ex H' h1 → k (f (zs.map cpl)) h1 ρ' H') → Q (.ref p) (upd H1 p (TxO X.prog X.w p (metAll zs zs.length)))) :
    tCB (rTxSet X) (L2.tCons (rdE T X.K W m) L2.tNil) σ H Q := by
  refine ⟨ρ, ex, sl, hp, rs, rh, q.bnd.imp fun u h1 ρ1 H1 k1 rh1 q1 x rx => ?_⟩
  obtain ⟨w, e, q3⟩ := q1.retO
  obtain ⟨l, el, e⟩ := Option.bind_eq_some_iff.mp e
  obtain ⟨ts, et, e⟩ := Option.bind_eq_some_iff.mp e
  split at e
  · rename_i hf
    cases e
    obtain ⟨a, vs, rfl, ea, rl⟩ := rx.asList rh1 el
    obtain ⟨zs, e1, e2, h3⟩ := strs_rel rl et
    subst e1
    have e2 : ts = zs.map cpl := e2
    subst e2
    rw [List.length_map] at hf
    exact ⟨a, zs, rfl, .inl (.inl ea), few_lt hf, fun p hp => go h1 ρ1 H1 zs p k1 rh1 hp h3 (few_lt hf) q3⟩
  · cases e
theorem lenSet (c : Ctx X T W L) {e : Expr} {m : EM} {p p2 pos q : Pos} (he : PE X e (rdE T X.K W m)) (hm : X.mg "len" = none) (hm2 : X.mg "set" = none) (hg : Gl X "len" := by rfl) (hg2 : Gl X "set" := by rfl) (hs : starEach [e] X.env = (false, eval e X.env) :: starEach [] X.env := by rfl)
    (hs2 : starEach [.Call (.Name "set" p2) [e] [] q] X.env = (false, eval (.Call (.Name "set" p2) [e] [] q) X.env) :: starEach [] X.env := by rfl) :
    PE X (.Call (.Name "len" p) [.Call (.Name "set" p2) [e] [] q] [] pos) (rdE T X.K W (mLenSet m)) :=
  imE (pe_callB c_lenTx hg hm PySem.boot_len (pa_cons (pe_callTy (c_txset (T := T) c) hg2 hm2 boot_set (pa_cons he pa_nil hs) (by decide) (by decide) hs rfl) pa_nil hs2) (by decide) (by decide) hs2 rfl) fun σ H Q h => by
    obtain ⟨ρ, ex, sl, hp, rs, rh, q⟩ := h
    refine rd_txset rs rh q fun h1 ρ1 H1 zs p k1 rh1 hp h3 hf q3 => ⟨p, metAll zs zs.length, rfl, upd_same, ?_⟩
    refine q3 ρ1 _ (Kp.laid hp) (rh1.laid hp) _ ?_
    rw [← met_all, List.length_map]
    exact .int _
theorem sortSet (c : Ctx X T W L) {e : Expr} {m : EM} {p p2 pos q : Pos} (he : PE X e (rdE T X.K W m)) (hm : X.mg "sorted" = none) (hm2 : X.mg "set" = none) (hg : Gl X "sorted" := by rfl) (hg2 : Gl X "set" := by rfl) (hs : starEach [e] X.env = (false, eval e X.env) :: starEach [] X.env := by rfl)
    (hs2 : starEach [.Call (.Name "set" p2) [e] [] q] X.env = (false, eval (.Call (.Name "set" p2) [e] [] q) X.env) :: starEach [] X.env := by rfl) :
    PE X (.Call (.Name "sorted" p) [.Call (.Name "set" p2) [e] [] q] [] pos) (rdL T X.K W (mSortSet m)) :=
  imE (pe_callB (c_sortTx (T := T) c) hg hm (by decide +kernel) (pa_cons (pe_callTy (c_txset (T := T) c) hg2 hm2 boot_set (pa_cons he pa_nil hs) (by decide) (by decide) hs rfl) pa_nil hs2) (by decide) (by decide) hs2 rfl) fun σ H Q h => by
    obtain ⟨ρ, ex, sl, hp, rs, rh, q⟩ := h
    refine rd_txset rs rh q fun h1 ρ1 H1 zs p k1 rh1 hp h3 hf q3 => ⟨p, metAll zs zs.length, rfl, upd_same, fun p' hp' => ?_⟩
    have key : ∀ (ys : List Str), (∀ z ∈ ys, StrR (cpl z) z) → Rvs X.K ρ1 ex (upd H1 p (TxO X.prog X.w p (metAll zs zs.length))) (ys.map fun z => PV.str (cpl z)) (ys.map V.str) := by
      intro ys
      induction ys with
      | nil => intro _; exact .nil
      | cons y ys ih => intro h; exact .cons (.str (h y List.mem_cons_self)) (ih fun z hz => h z (List.mem_cons_of_mem _ hz))
    have e1 : ((dedup (zs.map cpl)).map PV.str).mergeSort pvLe = ((metAll zs zs.length).mergeSort (PySem.W.dataLe false PyData.str)).map fun z => PV.str (cpl z) := by
      rw [← met_all, List.map_map]
      exact (List.map_mergeSort (r := PySem.W.dataLe false PyData.str) (s := pvLe) (f := PV.str ∘ cpl) (fun a _ b _ => rfl)).symm
    have hlen : ((metAll zs zs.length).mergeSort (PySem.W.dataLe false PyData.str)).length ≤ line := by
      rw [List.length_mergeSort]
      have := metAll_len zs zs.length
      show _ ≤ 16777216
      omega
    refine q3 ρ1 _ (Kp.laid hp) (rh1.laid hp) p' _ _ hp' rfl (by rw [List.length_map]; exact hlen) ?_
    rw [e1]
    exact key _ fun z hz => h3 z (met_mem ((List.mergeSort_perm _ _).mem_iff.mp hz))
end
end Y

set_option maxHeartbeats 1000000
/-! an own exception whose __init__ begins with super().__init__('..') -/
namespace YE
open PySem PySem.Spec PyProof.Rows L2
/-! ### the wrapper, called -/
section
variable {prog : Program} {w : World} {A : Around} {E : Value → Shared → Prop} {h : Heap} {g : Array GenState} {d : Drawn} {t : Nat} {os : OsState}
theorem call_wrap {nm q : Str} {C N u e t0 : Addr} {bs bm bmB : List Value} {sn : List Str} {sub : List Value} {ab : Bool} {col : Option Bool} {dd : Option Addr} {k0 k1 k2 k3 k5 : Option Value} {newId i B : String} {rest : List Value} {Q : Value → Shared → Prop} (FB : ExcBaseFacts B newId i bmB)
    (hC : h.get? C = some (excClassObj nm q C N bs bm true sn sub ab col dd k0 k1 k2 k3 k5 newId)) (he : h.get? e = some (PySem.W.excRec (.ref C) t0 none .none .none (.bool false))) (hu : h.get? u = some (PySem.W.kxs_mw i e)) (hz : rest.length ≤ sizeLine)
    (hq : ∀ h' t1, (∀ b o, b ≠ e → h.get? b = some o → h'.get? b = some o) → h'.get? e = some (PySem.W.excRec (.ref C) t1 none .none .none (.bool false)) → Q .none ⟨h', g, d, t, os⟩) :
    wpAny (model prog w) A (call (.ref u) rest) Q E ⟨h, g, d, t, os⟩ := by
  refine wpAny_call (codeAny_of_tree (?_ : wpAny _ A.in1 (callAny (.ref u) ⟨rest, []⟩) _ _ _))
  simp only [callAny]
  refine wpAny_bind (wpAny_load hu (?_ : wpAny _ _ _ _ _ _))
  simp only [PySem.W.kxs_mw, show (Value.type "method-wrapper" == Value.type "method" || Value.type "method-wrapper" == Value.type "builtin_function_or_method" || Value.type "method-wrapper" == Value.type "method-wrapper") = true by decide, if_true]
  refine PySem.W.KFB.if_so (by decide) (wpAny_bind (PySem.W.check_bound_init FB.toExcCallFacts hC he rfl ?_))
  refine wpAny_bind (wpAny_pure (wpAny_pure ⟨plainId_quiet FB.init.plain _, codeAny_builtin FB.initEntry ?_⟩))
  exact PySem.W.exc_init_tree (cls := .ref C) (t0 := t0) (dv := none) (c2 := .none) (c3 := .none) (b4 := .bool false) he hz fun h' k e' _ => hq h' _ k e'
end
/-! ### the frame of such an __init__ -/
section
variable {CX : CXT} {P : Program} {w : World} {K : PySem.W.Frag} {mg : Str → Option Value} {base : Heap}
def cxS (CX : CXT) (P : Program) (w : World) (K : PySem.W.Frag) (mg : Str → Option Value) (base : Heap) (N : List Str) (qual : Str) (scope : Scope) (f : Addr) (cd : Value) (cc : Addr) (A : Around) (outer : List Env) (s : Shared) (H : Hp) (E : XK) : Cx where
  prog := P
  w := w
  K := K
  mg := mg
  base := base
  A := A.deeper (PySem.W.ksEnv qual scope s.heap.objs.size f cd cc)
  N := N
  s_0 := s
  H_0 := H
  env := PySem.W.ksEnv qual scope s.heap.objs.size f cd cc
  outer := outer
  stack := PySem.W.ksEnv qual scope s.heap.objs.size f cd cc :: outer
  ex := []
  calm := true
  fn := fun _ => false
  pn := []
  xe := fun e s' => wpAny (model P w) (A.deeper (PySem.W.ksEnv qual scope s.heap.objs.size f cd cc)) (leaving (PySem.W.ksEnv qual scope s.heap.objs.size f cd cc) e) (fun _ s'' => CX outer H s E e s'') (fun e' s'' => CX outer H s E e' s'') s'
structure SScope (N ps : List Str) (sc : Scope) : Prop where
  kind : sc.kind = .function
  co : sc.isCoroutine = false
  gen : sc.isGenerator = false
  nd : N.Nodup
  pre : N.take ps.length = ps
  par : ∀ x ∈ ps, sc.names.lookup x = some .local
  nocell : ∀ y ∈ sc.names, y.2 ≠ .cell
  free : ∀ y ∈ sc.names, y.2 = .free → y.1 = "__class__"
  ksu : sc.names.lookup ("super" : Str) = some .globalImplicit
  kcl : sc.names.lookup ("__class__" : Str) = some .free
theorem inv_startS {N ps : List Str} {qual : Str} {scope : Scope} {f : Addr} {cd : Value} {cc : Addr} {A : Around} {outer : List Env} {s : Shared} {h1 : Heap} {tk : Nat} {H : Hp} {E : XK} {us : List Value} {vs : List V} {oc : Obj} {cv : Option Value} (S : SScope N ps scope) (hd : A.handled = none)
    (e0 : Env0 P w K mg base A outer s H) (hl : vs.length = ps.length) (r : Vals vs us) (hns : h1.Ns s.heap.objs.size (fun x => (ps.zip us).reverse.lookup x)) (hk : ∀ b o, s.heap.get? b = some o → h1.get? b = some o) (hcc : base.get? cc = some oc) (hcv : oc.data = .cell cv) :
    Inv (cxS CX P w K mg base N qual scope f cd cc A outer s H E) [] (L2.start N vs) H { s with heap := h1, toks := tk } := by
  have hpl : ps.length ≤ N.length := by have := congrArg List.length S.pre; rw [List.length_take] at this; omega
  have noA : ∀ b : Addr, b ∉ (cxS CX P w K mg base N qual scope f cd cc A outer s H E).ex := fun b z => absurd (show b ∈ ([] : List Addr) from z) (by simp)
  have one : ∀ y c, List.lookup y [(("__class__" : Str), cc)] = some c → y = "__class__" ∧ c = cc := fun y c e => by
    by_cases hy : y = ("__class__" : Str)
    · subst hy
      simp at e
      exact ⟨rfl, e.symm⟩
    · have hb : (y == ("__class__" : Str)) = false := by simpa using hy
      simp [List.lookup, hb] at e
  have hsz : cc < s.heap.objs.size := Heap.lt_size (e0.bs cc oc hcc).1
  refine ⟨⟨e0.mod, S.kind, rfl, rfl, Nat.le_refl _, fun y z c a b => ?_, fun y hy => ?_, fun y c q _ => (by cases q), fun _ => hd, Around.frames_deeper e0.frames, .inr ⟨rfl, rfl⟩, fun b z => absurd z (noA b), e0.bs, e0.bsz, fun b _ _ => noA b, fun b z => absurd z (noA b), e0.funs, e0.frf⟩,
    rfl, e0.bare, Un.kept hk, ⟨_, hns, fun i y v a b c => ?_⟩, fun y c q => ⟨cv, ?_⟩, e0.hok.fresh (Nat.le_refl _), fun y c q => ?_, fun p hp => absurd (show p ∈ ([] : List (Addr × Obj)) from hp) (by simp), e0.hok.kept hk, ?_⟩
  · rw [(one y c a).1, (one z c b).1]
  · have hy : scope.names.lookup y = some .cell ∨ scope.names.lookup y = some .free := hy
    rcases hy with hy | hy
    · exact absurd rfl (S.nocell _ (PySem.mem_of_lookup hy))
    · have e := S.free _ (PySem.mem_of_lookup hy) rfl
      simp only at e
      subst e
      exact ⟨cc, by simp [cxS, PySem.W.ksEnv, PySem.W.envX]⟩
  · have hi : i < vs.length := by
      unfold L2.start at b
      by_cases hi : i < vs.length
      · exact hi
      · rw [List.getElem?_append_right (by simpa using hi), List.getElem?_replicate] at b
        split at b <;> cases b
    have ha : vs[i]? = some v := by
      unfold L2.start at b
      rw [List.getElem?_append_left (by simpa using hi), List.getElem?_map] at b
      obtain ⟨z, e1, e2⟩ := Option.map_eq_some_iff.mp b
      cases e2
      exact e1
    obtain ⟨u, hu, rv⟩ := r.get ha
    have hp : ps[i]? = some y := by rw [← S.pre, List.getElem?_take_of_lt (by omega)]; exact a
    have ndP : ps.Nodup := by rw [← S.pre]; exact S.nd.sublist (List.take_sublist _ _)
    exact ⟨u, rv, .inl ⟨S.par y (List.mem_of_getElem? hp), NdefX.zip_look ndP hp hu⟩⟩
  · rw [(one y c q).2]
    exact ⟨oc, hk _ _ (e0.bs cc oc hcc).1, hcv⟩
  · rw [(one y c q).2]
    exact (e0.bs cc oc hcc).2
  · unfold L2.start
    show _ = N.length
    rw [List.length_append, List.length_map, List.length_replicate]
    omega
end
end YE

set_option maxHeartbeats 1000000
namespace YE
open PySem PySem.Spec PyProof.Rows L2
section
variable {CX : CXT} {P : Program} {w : World} {K : PySem.W.Frag} {mg : Str → Option Value} {base : Heap}
/-- what the written part says of a class C whose __init__ (at f) begins with super().__init__ -/
structure SupOk (P : Program) (K : PySem.W.Frag) (mg : Str → Option Value) (C : Addr) (cda cc : Addr) : Prop where
  T : OexC K C
  code : ∃ ccl cdd vs ccs file tf, K.lookup cda = some ⟨ccl, cdd, .fields vs, ccs⟩ ∧ vs[2]? = some (.str file tf) ∧ ((P.main.file : Str) == file) = true
  cell : ∃ cl cld csl, K.lookup cc = some ⟨cl, cld, .cell (some (.ref C)), csl⟩
  sub : PySem.W.mroIn K C (.ref C) = some true
  opq : PySem.W.nsIn K PySem.cStatics "thirdparty.any" = some none
  sup : PySem.W.ks_superIn K C C "__init__" = some (some (.builtin "ValueError.__init__"))
  subB : PySem.W.subIn K (.ref C) (.type "ValueError") = some true
  miss : mg "super" = none
  top : (P.main.scope.names.lookup ("super" : Str)).isSome = false
theorem fnS_of {k : Nat} {f cda cc C : Addr} {name qual : Str} {params : Arguments} {rest : List Stmt} {scope : Scope} {dV kV doc pm ct oc : Value} {an od : Option Addr} {osl : Array (Option Value)} {N ps : List Str} {sp : Sp} {msg : Str} {jj : Nat} {p0 p1 p2 p3 p4 p5 : Pos} {ar : Arg}
    (lk : K.lookup f = some ⟨oc, od, .func (PySem.W.ksFn name qual params (.Expr (.Call (.Attribute (.Call (.Name "super" p0) [] [] p1) "__init__" p2) [.Constant (.str msg) jj p3] [] p4) p5 :: rest) scope dV kV doc pm an (.ref cda) ct cc), osl⟩)
    (hcd : PySem.W.codeIn K (.ref cda) qual = true) (S : SScope N ps scope) (F : SupOk P K mg C cda cc) (hp : (params.posonlyargs ++ params.args).head? = some ar) (hps : ps[0]? = some ar.arg)
    (hev : ∀ L : Addr, ∃ pl : Sem Bool, eval (.Call (.Attribute (.Call (.Name "super" p0) [] [] p1) "__init__" p2) [.Constant (.str msg) jj p3] [] p4) (PySem.W.ksEnv qual scope L f (.ref cda) cc) = (do
      let ov ← attributeBase (.Call (.Name "super" p0) [] [] p1) "__init__" (PySem.W.ksEnv qual scope L f (.ref cda) cc) (eval (.Call (.Name "super" p0) [] [] p1) (PySem.W.ksEnv qual scope L f (.ref cda) cc))
      standAt p2.atName
      let (g, first) ← holding [ov] (getMethod ov "__init__" pl)
      callWith p4 g first (backTo p4 (starEach [.Constant (.str msg) jj p3] (PySem.W.ksEnv qual scope L f (.ref cda) cc))) []))
    (len : ∀ vs H Q E, sp vs H Q E → vs.length = ps.length)
    (hbody : ∀ (A : Around) (outer : List Env) (s : Shared) (H : Hp) (vs : List V) (Q : VK) (E : XK), Room k (A.deeper (PySem.W.ksEnv qual scope s.heap.objs.size f (.ref cda) cc)) → sp vs H Q E →
      ∃ a vr t, vs = .ref a :: vr ∧ H a = some (exo a C none) ∧ PSs (cxS CX P w K mg base N qual scope f (.ref cda) cc A outer s H E) rest t ∧ t { nx := fun _ H' => Q .non H', rt := Q } (L2.start N vs) H) :
    FnOk P w K mg base CX (k + 1) f (PySem.W.ksFn name qual params (.Expr (.Call (.Attribute (.Call (.Name "super" p0) [] [] p1) "__init__" p2) [.Constant (.str msg) jj p3] [] p4) p5 :: rest) scope dV kV doc pm an (.ref cda) ct cc) ps sp := by
  refine ⟨len, fun A outer s H args us vs Q E hr e0 hb r hsp => ?_⟩
  have hl := len _ _ _ _ hsp
  have kp0 : ∀ b o, base.get? b = some o → s.heap.get? b = some o := fun b o e => (e0.bs b o e).1
  have KX : K.In s.heap := e0.mod.kin.keeps kp0
  have lim : s.heap.NoLimit := e0.mod.nolimit.keeps kp0
  have hul : us.length = ps.length := by rw [← r.length, hl]
  have hloc : ∀ y ∈ ps.zip us, scope.names.lookup y.1 = some .local := fun ⟨n, v⟩ hy => S.par n (List.of_mem_zip hy).1
  obtain ⟨a, vr, t, ev, ea, ht, hq⟩ := hbody A outer s H vs Q E (hr.deeper _) hsp
  obtain ⟨cl, cld, csl, hcell⟩ := F.cell
  obtain ⟨ccl, cdd, cvs, ccs, file, tf, hcode, hfile, heq⟩ := F.code
  obtain ⟨nm, q, Nn, bs, bm, sn, sub, ab, col, dd, k0, k1, k2, k3, k5, hC, hbm⟩ := F.T.cls
  refine PySem.ks_codeAny_call_defAt hr.depth (KX _ _ lk) rfl lim (PySem.W.codeRec_of KX hcd) rfl hb S.nocell hloc (fun h1 hns hk1 => ?_) S.co S.gen S.kind
  have I : Inv (cxS CX P w K mg base N qual scope f (.ref cda) cc A outer s H E) [] (L2.start N vs) H { s with heap := h1, toks := s.toks + (ps.zip us).length } :=
    inv_startS S hr.hd e0 hl r hns hk1 (e0.mod.kin _ _ hcell) rfl
  have K1 : K.In h1 := KX.keeps hk1
  obtain ⟨t0, hx⟩ := exo_at I.hok ea
  have hcl : PySem.W.clsIn K C = some { name := nm, bases := bs, mro := .ref C :: bm, ns := Nn, qualname := q, hasDict := true, slotNames := sn, subclasses := sub, abstract := ab, collection := col, hasDel := false } := by unfold PySem.W.clsIn; rw [hC] <;> rfl
  show _root_.PySem.wpAt (model P w) (A.deeper (PySem.W.ksEnv qual scope s.heap.objs.size f (.ref cda) cc)) (.func _ (PySem.W.ksEnv qual scope s.heap.objs.size f (.ref cda) cc)) (execs _ (PySem.W.ksEnv qual scope s.heap.objs.size f (.ref cda) cc)) _ _ _
  have hself : (ps.zip us).reverse.lookup ar.arg = some (.ref a) := by
    subst ev
    cases r with
    | cons ra rr =>
      rename_i u ur
      obtain rfl : u = Value.ref a := ra
      exact NdefX.zip_look (by rw [← S.pre]; exact S.nd.sublist (List.take_sublist _ _)) hps rfl
  have hC1 := K1 _ _ hC
  obtain ⟨mb, hb1, hb2⟩ := I.mod.blt
  obtain ⟨pl, hev⟩ := hev s.heap.objs.size
  refine PySem.ks_wpAt_execs_cons (PySem.ks_wpAt_Expr_any (PySem.ks_wpAt_MethodCall (pl := pl) ?_ hev) (hi := by unfold interactive; simp [S.kind]))
  refine PySem.ks_wpAt_super_base S.ksu S.kcl (by decide) rfl (K1 _ _ lk) rfl hp rfl (K1 _ _ hcode) rfl hfile heq F.top ?_
  refine PySem.W.ks_loadName_global S.kind S.ksu (Calls.loadGlobal_builtin (I.mod.glob.keeps I.bk) F.miss (hb1.keeps I.bk) ((hb2 _ (by decide)).trans (by first | rfl | decide +kernel)) ⟨rfl, ?_⟩)
  refine wpAny_loadName_free S.kind S.kcl rfl ⟨_, K1 _ _ hcell, rfl⟩ ?_
  refine wpAny_loadName_local S.kind (S.par _ (List.mem_of_getElem? hps)) hns hself ?_
  refine PySem.ks_wpAny_isType_cls hC1 rfl ⟨rfl, ?_⟩
  refine PySem.ks_wpAny_call_super hC1 rfl hx rfl (fun c => by intro z; cases z) (PySem.W.looks_mroIn K1 F.sub) (fun h2 e2 k2 => ?_)
  have K2 : K.In h2 := K1.keeps k2
  have hx2 := k2 _ _ hx
  have hne : a ≠ C := fun z => by
    rw [z, hC1] at hx
    cases hx
  have hin : PySem.W.Looks (model P w) h2 (isInstance (.ref a) (.type "ValueError")) true := (PySem.W.InstAt.type (od := none) ⟨hx2, rfl, rfl, trivial⟩).andThen (PySem.W.looks_subIn K2 F.subB)
  have hsup := F.sup
  unfold PySem.W.ks_superIn at hsup
  rw [hcl] at hsup
  refine PySem.W.kxs_getMethod PySem.W.kxs_ValueError e2 (PySem.W.looks_opaque K2 F.opq) (l₀ := .ref C :: bm) (fun A Q E s kk q => wpAny_bind ((PySem.W.looks_clsIn K2 hcl) A _ E s kk (wpAny_pure q))) rfl K2 hsup hin hne (by decide) ?_
  have I2 : Inv (cxS CX P w K mg base N qual scope f (.ref cda) cc A outer s H E) [] (L2.start N vs) H { s with heap := h2.push (PySem.W.kxs_mw "ValueError.__init__" a), toks := s.toks + (ps.zip us).length + 1 } :=
    I.kept fun b o e => Heap.get?_push_of_some _ (k2 b o e)
  have hu : (h2.push (PySem.W.kxs_mw "ValueError.__init__" a)).get? h2.objs.size = some (PySem.W.kxs_mw "ValueError.__init__" a) := Heap.get?_push_at rfl rfl
  show wpAny _ _ (callWith p4 (Value.ref h2.objs.size) [] (backTo p4 (starEach [.Constant (.str msg) jj p3] (PySem.W.ksEnv qual scope s.heap.objs.size f (.ref cda) cc))) []) _ _ _
  have hargs : ∀ (A' : Around) (E' : Value → Shared → Prop) (Q' : List Value → Shared → Prop) (s' : Shared), (∀ tk, Q' [.str msg tk] { s' with toks := s'.toks + 1 }) → wpAny (model P w) A' (spliced (backTo p4 (starEach [.Constant (.str msg) jj p3] (PySem.W.ksEnv qual scope s.heap.objs.size f (.ref cda) cc)))) Q' E' s' :=
    fun A' E' Q' s' q => PyProof.Rows.args_cons (Calls.Constant_str (PyProof.Rows.args_nil (q _))) rfl
  refine PySem.W.kxs_callWith (i := "ValueError.__init__") (x := a) rfl (Calls.evalArgs_plain (hargs _ _ _ _ fun tk => ⟨hu, ?_⟩))
  have kk2 : ∀ b o, h2.get? b = some o → (h2.push (PySem.W.kxs_mw "ValueError.__init__" a)).get? b = some o := fun b o e => Heap.get?_push_of_some _ e
  refine call_wrap (t0 := t0) PySem.F.excBase_ValueError (kk2 _ _ (K2 _ _ hC)) (kk2 _ _ hx2) hu (by show 1 ≤ sizeLine; rw [sizeLine_eq]; omega) fun h3 t1 k3 e3 => ?_
  have I3 := I2.write (t' := s.toks + (ps.zip us).length + 1 + 1) (x := a) (e := a) (o := exo a C none) (by rw [ea]; exact True.intro) (.inl rfl) k3 ⟨_, e3⟩ (exo_ok e3)
  have eu : upd H a (exo a C none) = H := by
    funext b
    by_cases hb : b = a
    · rw [hb, upd_same, ea]
    · rw [upd_ne hb]
  rw [eu] at I3
  refine wpAt_of_wpAny (wpAny_mono (ht.run [] _ (L2.start N vs) H _ I3 hq) (fun fl s' hs => ?_) fun e s' hs => hs)
  have fin : ∀ {σ' : L2.St} {H' : Hp} {v : V} {u : Value}, Inv (cxS CX P w K mg base N qual scope f (.ref cda) cc A outer s H E) [] σ' H' s' → RelV v u → Q v H' → CE outer P w H s Q u s' :=
    fun {σ' H' v u} J rv q => ⟨v, H', J.os, J.bare, J.base, J.hok, rv, q⟩
  cases fl with
  | ret u =>
    obtain ⟨v, σ', H', J, rv, q⟩ := hs
    exact fin J rv q
  | next =>
    obtain ⟨σ', H', J, q⟩ := hs
    exact fin (v := V.non) (u := Value.none) J rfl q
  | brk =>
    obtain ⟨_, _, _, q⟩ := hs
    exact False.elim q
  | cont =>
    obtain ⟨_, _, _, q⟩ := hs
    exact False.elim q
end
end YE

set_option maxHeartbeats 1000000
namespace YE
open PySem PySem.Spec PyProof.Rows L2
/-! ### the fields, stored one by one -/
def tOs (K : PySem.W.Frag) : List (Str × Nat) → TS
  | [] => tNext
  | (f, i) :: r => tSeq (tOst K f (L2.tVar 0) (L2.tVar i)) (tOs K r)
theorem osts_more {K : PySem.W.Frag} {a C dx : Addr} (T : OexC K C) {D : Ends} {σ : L2.St} (h0 : σ[0]? = some (some (.ref a))) : ∀ (r : List (Str × Nat)) (vs : List V) (fs : List (Str × V)) (H : Hp), (∀ p ∈ r, PySem.W.findIn K (.ref C) p.1 = some none) →
    r.length = vs.length → (∀ (i : Nat) (p : Str × Nat) (v : V), r[i]? = some p → vs[i]? = some v → σ[p.2]? = some (some v)) → fs.length + r.length ≤ 900 → H a = some (exo a C (some dx)) → H dx = some (exd dx fs) → a ≠ dx →
    D.nx σ (if r = [] then H else upd H dx (exd dx (((r.map (·.1)).zip vs).reverse ++ fs))) → tOs K r D σ H
  | [], _, _, H, _, _, _, _, _, _, _, q => q
  | (f, i) :: r, vs, fs, H, hn, hl, hv, hz, ha, hd, hne, q => by
    cases vs with
    | nil => simp at hl
    | cons v vs =>
      simp only [List.length_cons] at hl hz
      have hv0 : σ[i]? = some (some v) := hv 0 (f, i) v rfl rfl
      refine ⟨v, hv0, .ref a, h0, a, C, rfl, T, hn (f, i) List.mem_cons_self, .inr ⟨dx, fs, ha, hd, by omega, ?_⟩⟩
      refine osts_more T h0 r vs ((f, v) :: fs) _ (fun p hp => hn p (List.mem_cons_of_mem _ hp)) (by omega) (fun j p u e1 e2 => hv (j + 1) p u (by simpa using e1) (by simpa using e2)) (by simp only [List.length_cons]; omega) (by rw [upd_ne hne]; exact ha) upd_same hne ?_
      rw [if_neg (by simp)] at q
      by_cases hr : r = []
      · subst hr
        simpa using q
      · rw [if_neg hr]
        have e1 : upd (upd H dx (exd dx ((f, v) :: fs))) dx (exd dx (((r.map (·.1)).zip vs).reverse ++ (f, v) :: fs)) = upd H dx (exd dx ((((((f, i) :: r).map (·.1)).zip (v :: vs)).reverse) ++ fs)) := by
          funext b
          by_cases hb : b = dx
          · subst hb
            rw [upd_same, upd_same]
            simp
          · rw [upd_ne hb, upd_ne hb, upd_ne hb]
        rw [e1]
        exact q
/-- what C(v1, .., vn) lays: an exception at a, its dict with the fields -/
def spI (C : Addr) (names : List Str) : Sp := fun vs H Q _ => ∃ (a : Addr) (us : List V), vs = .ref a :: us ∧ us.length = names.length ∧ H a = some (exo a C none) ∧
  ∀ dx, H dx = none → dx ≠ a → Q .non (upd (upd H a (exo a C (some dx))) dx (exd dx (names.zip us).reverse))
def slots : Nat → List Str → List (Str × Nat)
  | _, [] => []
  | n, f :: r => (f, n) :: slots (n + 1) r
theorem slots_names : ∀ (n : Nat) (l : List Str), (slots n l).map (·.1) = l
  | _, [] => rfl
  | n, f :: r => by rw [slots, List.map_cons, slots_names]
theorem slots_len (n : Nat) (l : List Str) : (slots n l).length = l.length := by
  rw [← List.length_map (f := (·.1)), slots_names]
theorem slots_get : ∀ (n : Nat) (l : List Str) (i : Nat) (p : Str × Nat), (slots n l)[i]? = some p → p.2 = n + i
  | _, [], _, _, h => by simp [slots] at h
  | n, f :: r, 0, p, h => by simp [slots] at h; subst h; simp
  | n, f :: r, i + 1, p, h => by
    have := slots_get (n + 1) r i p (by simpa [slots] using h)
    omega
theorem osts_all {K : PySem.W.Frag} {C : Addr} {Nn : List Str} (T : OexC K C) {names : List Str} (hn : ∀ f ∈ names, PySem.W.findIn K (.ref C) f = some none) (h0 : names ≠ []) (h9 : names.length ≤ 900) {vs : List V} {H : Hp} {Q : VK} {E : XK} {rt : VK} (h : spI C names vs H Q E) :
    tOs K (slots 1 names) { nx := fun _ H' => Q .non H', rt := rt } (L2.start Nn vs) H := by
  obtain ⟨a, us, e, hl, ha, q⟩ := h
  subst e
  cases names with
  | nil => exact absurd rfl h0
  | cons f r =>
    cases us with
    | nil => simp at hl
    | cons v us =>
      simp only [List.length_cons] at hl h9
      have at_ : ∀ i (w : V), (V.ref a :: v :: us)[i]? = some w → (L2.start Nn (V.ref a :: v :: us))[i]? = some (some w) := fun i w e => by
        unfold L2.start
        have hi : i < (V.ref a :: v :: us).length := (List.getElem?_eq_some_iff.mp e).1
        rw [List.getElem?_append_left (by rw [List.length_map]; exact hi), List.getElem?_map, e]
        rfl
      refine ⟨v, at_ 1 v rfl, .ref a, at_ 0 _ rfl, a, C, rfl, T, hn f List.mem_cons_self, .inl ⟨ha, fun dx hd hne => ?_⟩⟩
      refine osts_more (a := a) (dx := dx) T (at_ 0 _ rfl) (slots 2 r) us [(f, v)] _ (fun p hp => hn _ (List.mem_cons_of_mem _ ?_)) (by rw [slots_len]; omega) (fun i p w e1 e2 => ?_) (by rw [slots_len]; simp only [List.length_cons, List.length_nil]; omega) upd_same (by rw [upd_ne hne, upd_same]) hne.symm ?_
      · rw [← slots_names 2 r]; exact List.mem_map_of_mem hp
      · have := slots_get 2 r i p e1
        exact at_ _ _ (by rw [this, show 2 + i = i + 1 + 1 by omega]; simpa using e2)
      · have q := q dx hd hne
        have e1 : (if slots 2 r = [] then upd (upd H dx (exd dx [(f, v)])) a (exo a C (some dx)) else upd (upd (upd H dx (exd dx [(f, v)])) a (exo a C (some dx))) dx (exd dx ((((slots 2 r).map (·.1)).zip us).reverse ++ [(f, v)]))) =
            upd (upd H a (exo a C (some dx))) dx (exd dx (((f :: r).zip (v :: us)).reverse)) := by
          have e2 : (((slots 2 r).map (·.1)).zip us).reverse ++ [(f, v)] = ((f :: r).zip (v :: us)).reverse := by rw [slots_names]; simp
          split
          · rename_i hr
            rw [hr] at e2
            have e3 : [(f, v)] = ((f :: r).zip (v :: us)).reverse := by simpa using e2
            rw [← e3]
            funext b
            by_cases hb : b = dx
            · subst hb; rw [upd_ne hne, upd_same, upd_same]
            · by_cases hc : b = a
              · subst hc; rw [upd_same, upd_ne hb, upd_same]
              · rw [upd_ne hc, upd_ne hb, upd_ne hb, upd_ne hc]
          · rw [e2]
            funext b
            by_cases hb : b = dx
            · subst hb; rw [upd_same, upd_same]
            · rw [upd_ne hb, upd_ne hb]
              by_cases hc : b = a
              · subst hc; rw [upd_same, upd_same]
              · rw [upd_ne hc, upd_ne hc, upd_ne hb]
        rw [e1]
        exact q
/-- the fields' statements -/
inductive Stores (X : Cx) : List Stmt → List (Str × Nat) → Prop
  | nil : Stores X [] []
  | cons {f x sx : Str} {i : Nat} {q1 q2 q3 q4 : Pos} {st : List Stmt} {r : List (Str × Nat)} : X.N[0]? = some sx → Vis X.env.scope sx → (sx == ("__debug__" : Str)) = false → (sx == ("__classdict__" : Str)) = false → X.N[i]? = some x → Vis X.env.scope x → (x == ("__debug__" : Str)) = false → (x == ("__classdict__" : Str)) = false →
      swapsWith (.Name x q3) (some (.Attribute (.Name sx q1) f q2)) q4.line X.env = pure false → Stores X st r → Stores X (.Assign [.Attribute (.Name sx q1) f q2] (.Name x q3) q4 :: st) ((f, i) :: r)
theorem Stores.ps {X : Cx} : ∀ {st : List Stmt} {r : List (Str × Nat)}, Stores X st r → PSs X st (tOs X.K r)
  | _, _, .nil => pss_nil
  | _, _, .cons a b c d e f g h i j => pss_cons (ps_ost (pe_var a b c d) (pe_var e f g h) i) j.ps
end YE

namespace Y
open PySem PySem.Spec PyProof.Rows L2
section
variable {X : Cx} {T : Tab} {K : PySem.W.Frag} {W : WX} {L : Nat}
/-- the fields of a new exception: the last one first -/
def mkF (fids : List Nat) : List PV → VH → R (List (Nat × PV)) := fun vs h => if vs.length = fids.length then .ok (fids.zip vs).reverse h else .bad
structure EIok (P : Program) (w : World) (K : PySem.W.Frag) (mg : Str → Option Value) (base : Heap) (T : Tab) (x : Str) (c : Nat) (fids : List Nat) : Prop where
  ex : ∃ C fI fd ps names, T.exc[c]? = some C ∧ fids.map (T.fnm[·]?) = names.map some ∧ names.length ≤ 900 ∧ FnOk P w K mg base (L2.CX P w) 1 fI fd ps (YE.spI C names) ∧ Binds K fd ps [] ∧ OexC K C ∧ PySem.W.findIn K (.ref C) "__init__" = some (some (.ref fI)) ∧
    PySem.W.typeIn K (.ref fI) = some (.type "function") ∧ mg x = some (.ref C)
theorem Rfs.of_zip {ρ : Pl} {ex : List Addr} {H : Hp} : ∀ {fids : List Nat} {names : List Str} {us : List PV} {vs : List V}, fids.map (T.fnm[·]?) = names.map some → us.length = fids.length → Rvs K ρ ex H us vs → Rfs T K ρ ex H (fids.zip us) (names.zip vs)
  | [], [], _, _, _, hl, r => by
    cases r
    · exact .nil
    · simp at hl
  | [], _ :: _, _, _, h, _, _ => by simp at h
  | _ :: _, [], _, _, h, _, _ => by simp at h
  | f :: fids, n :: names, us, vs, h, hl, r => by
    cases r with
    | nil => simp at hl
    | cons a r =>
      simp only [List.map_cons, List.cons.injEq] at h
      simp only [List.length_cons] at hl
      exact .cons h.1 a (Rfs.of_zip h.2 (by omega) r)
theorem Rfs.append {ρ : Pl} {ex : List Addr} {H : Hp} : ∀ {fs fs' : List (Nat × PV)} {gs gs' : List (Str × V)}, Rfs T K ρ ex H fs gs → Rfs T K ρ ex H fs' gs' → Rfs T K ρ ex H (fs ++ fs') (gs ++ gs')
  | _, _, _, _, .nil, q => q
  | _, _, _, _, .cons a b r, q => .cons a b (r.append q)
theorem Rfs.reverse {ρ : Pl} {ex : List Addr} {H : Hp} : ∀ {fs : List (Nat × PV)} {gs : List (Str × V)}, Rfs T K ρ ex H fs gs → Rfs T K ρ ex H fs.reverse gs.reverse
  | _, _, .nil => .nil
  | _, _, .cons a b r => by
    rw [List.reverse_cons, List.reverse_cons]
    exact r.reverse.append (.cons a b .nil)
theorem raiseI (c : Ctx X T W L) {x : Str} {n : Nat} {fids : List Nat} {e : Expr} {es : List Expr} {m : AM} {p pos' pos : Pos} (E : EIok X.prog X.w X.K X.mg X.base T x n fids) (ha : PA X (e :: es) (rdA T X.K W m)) (hk : 2 ≤ L := by decide) (hg : Gl X x := by rfl) (hdb : (x == ("__debug__" : Str)) = false := by decide)
    (he : starEach (e :: es) X.env = (false, eval e X.env) :: starEach es X.env := by rfl) (hpl : (backTo pos' (starEach es X.env)).any (·.1) = false := by rfl) :
    PS X (.Raise (some (.Call (.Name x p) (e :: es) [] pos')) none pos) (rdS T X.K W (sRaise n (mkF fids) m)) := by
  obtain ⟨C, fI, fd, ps, names, hc, hf, h9, F, hb, hT, hi, ht, hm⟩ := E.ex
  refine imS (ps_raise c.hc c.tk (pmk_oex hT hi ht F (c.room.mono hk) hb .nil passL hg hm ha hdb he hpl)) fun D σ H h => ?_
  obtain ⟨ρ, ex, sl, hp, rs, rh, q⟩ := h
  refine ⟨ρ, ex, sl, hp, rs, rh, (q.thn rs).imp fun us h1 ρ1 H1 k1 rh1 q1 vs rv => ?_⟩
  unfold mkF at q1
  split at q1
  · rename_i hl
    have hln : names.length = fids.length := by have := congrArg List.length hf; simpa using this.symm
    refine ⟨by rw [← rv.length, hl, ← hln]; omega, fun a ha => ⟨a, vs, by rw [List.append_nil], by rw [← rv.length, hl, hln], upd_same, fun d hd hda => ⟨rfl, d, (names.zip vs).reverse, by rw [upd_ne hda.symm, upd_same], upd_same, ?_, ?_⟩⟩⟩
    · rw [upd_ne hda] at hd; exact hd
    · have hd1 : H1 d = none := by rw [upd_ne hda] at hd; exact hd
      have eH : upd (L2.del (upd (upd (upd H1 a (exo a C none)) a (exo a C (some d))) d (exd d (names.zip vs).reverse)) a) d (.xd (names.zip vs).reverse) = upd H1 d (.xd (names.zip vs).reverse) := by
        funext b
        by_cases hb : b = d
        · subst hb; rw [upd_same, upd_same]
        · rw [upd_ne hb, upd_ne hb]
          by_cases hc : b = a
          · subst hc; rw [del_same, ha]
          · rw [del_ne hc, upd_ne hb, upd_ne hc, upd_ne hc]
      rw [eH]
      have kl : Kp ρ1 H1 ρ1 (upd H1 d (.xd (names.zip vs).reverse)) := Kp.laid hd1
      refine q1 ρ1 _ σ (.ref C) (some d) kl (rh1.laid hd1) ((rs.mono k1 noex).mono kl noex) ⟨C, hc, rfl, .inr ⟨d, _, rfl, upd_same, rh1.fresh hd1, ?_⟩⟩
      exact (Rfs.of_zip hf hl (Rvs.mono kl noex _ _ rv)).reverse
  · exact q1.elim
end
end Y

set_option maxHeartbeats 1000000
namespace Y
open PySem PySem.Spec PyProof.Rows L2
section
variable {X : Cx} {T : Tab} {K : PySem.W.Frag} {W : WX} {L : Nat}
/-- a suite with the caught exception e in slot i: what it does when e is of class n and has the fields fs -/
structure SuX (X : Cx) (T : Tab) (i n : Nat) (st : List Stmt) (ms : SM) : Prop where
  ex : ∀ (a : Addr) (oe : Obj) (cls : Value) (d : Option Addr) (pn : List (Addr × Obj)), Zc cls d oe → (∃ vs, oe.data = .fields vs) → ∃ t, PSs (X.suite a ((a, oe) :: pn)) st t ∧
    ∀ (fs : List (Nat × PV)) (D : Ends) (σ : L2.St) (H : Hp) (ρ : Pl) (ex : List Addr) (sl : Sl) (h : VH), Rst X.K ρ ex H sl σ → i < σ.length → Rh T X.K ρ ex H h → Rx T X.K ρ ex H n fs cls d → FinS T X.K W0 ρ ex H D (ms (sl.set i (some (.exn n fs))) h) → t D (σ.set i (some (.ref a))) H
theorem Rst.setX {ρ : Pl} {ex : List Addr} {H : Hp} {sl : Sl} {σ : L2.St} {c : Nat} {fs : List (Nat × PV)} {x : Option V} (r : Rst K ρ ex H sl σ) (i : Nat) : Rst K ρ ex H (sl.set i (some (.exn c fs))) (σ.set i x) := by
  refine ⟨by rw [List.length_set, List.length_set]; exact r.len, fun j v e n => ?_⟩
  by_cases hj : i = j
  · subst hj
    by_cases hi : i < sl.length
    · rw [List.getElem?_set_self hi] at e
      cases e
      cases n
    · rw [List.getElem?_eq_none (by rw [List.length_set]; omega)] at e; cases e
  · rw [List.getElem?_set_ne hj] at e
    obtain ⟨y, h1, h2⟩ := r.at_ j v e n
    exact ⟨y, by rw [List.getElem?_set_ne hj]; exact h1, h2⟩
/-- try: a; except X as e: b, e in slot i -/
def sTryA (a : SM) (cs : Nat → Option Bool) (i : Nat) (b : SM) : SM := fun σ h => match a σ h with
  | .exc c fs σ' h' => match cs c with
    | some true => if i < σ'.length then (b (σ'.set i (some (.exn c fs))) h').without i else .bad
    | some false => .exc c fs σ' h'
    | none => .bad
  | r => r
theorem stryAs (c : Ctx X T W L) (i : Nat) {x nm : Str} {n : Nat} {cv : Value} {cs : Nat → Option Bool} {body suite : List Stmt} {b₀ : Stmt} {np pos pos' : Pos} {mb ms : SM} (hc : Names X x cv) (hcs : Caught X.K T cv cs) (hn : ∀ c, cs c = some true → c = n)
    (hb : ∀ (W : WX) (pn : List (Addr × Obj)) (xe : Value → Shared → Prop), Ctx (X.tr pn xe) T W L → PSs (X.tr pn xe) body (rdS T X.K W mb)) (hsu : SuX X T i n (b₀ :: suite) ms) (hi : X.N[i]? = some nm := by rfl) (hln : X.env.kindOf nm = some .local := by rfl)
    (hs : X.stack = X.env :: X.outer := by rfl) (hf : X.env.frame = some X.env.locals := by rfl) :
    PS X (.Try body [.ExceptHandler (some (.Name x np)) (some nm) (b₀ :: suite) pos'] [] [] pos) (rdS T X.K W (sTryA mb cs i ms)) := by
  have pick : ∀ (a : Addr) (oe : Obj) (cls : Value) (d : Option Addr) (pn : List (Addr × Obj)), Zc cls d oe → (∃ vs, oe.data = .fields vs) → PSs (X.suite a ((a, oe) :: pn)) (b₀ :: suite) (fun D σ' H => ∃ (σ : L2.St) (fs : List (Nat × PV)) (ρ : Pl) (ex : List Addr) (sl : Sl) (h : VH), σ' = σ.set i (some (.ref a)) ∧ i < σ.length ∧ Rst X.K ρ ex H sl σ ∧ Rh T X.K ρ ex H h ∧ Rx T X.K ρ ex H n fs cls d ∧ FinS T X.K W0 ρ ex H D (ms (sl.set i (some (.exn n fs))) h)) := fun a oe cls d pn hz hd => by
    obtain ⟨t, ht, hq⟩ := hsu.ex a oe cls d pn hz hd
    refine imSs ht fun D σ' H ⟨σ, fs, ρ, ex, sl, h, e, hl, rs, rh, rx, q⟩ => ?_
    subst e
    exact hq fs D σ H ρ ex sl h rs hl rh rx q
  refine imS (ps_try_as (Wout := W) (tb := fun W => rdS T X.K W mb) (ts := fun a cls d => fun D σ' H => ∃ (σ : L2.St) (fs : List (Nat × PV)) (ρ : Pl) (ex : List Addr) (sl : Sl) (h : VH), σ' = σ.set i (some (.ref a)) ∧ i < σ.length ∧ Rst X.K ρ ex H sl σ ∧ Rh T X.K ρ ex H h ∧ Rx T X.K ρ ex H n fs cls d ∧ FinS T X.K W0 ρ ex H D (ms (sl.set i (some (.exn n fs))) h)) hs hf c.hN hi hln hc c.tk
    (fun W' pn xe tk hp => hb W' pn xe ⟨c.hc, c.hN, c.room, tk, c.tok, hp⟩) (fun a oe cls d pn hz hd => pick a oe cls d pn hz hd)) fun D σ H h => ?_
  obtain ⟨ρ, ex, sl, hp, rs, rh, q⟩ := h
  refine ⟨ρ, ex, sl, hp, rs, rh, ?_⟩
  unfold sTryA at q
  cases e : mb sl hp with
  | nx sl' h' => rw [e] at q; exact q
  | ret v h' => rw [e] at q; exact q
  | brk sl' h' => rw [e] at q; exact q
  | cnt sl' h' => rw [e] at q; exact q
  | bad => rw [e] at q; exact q.elim
  | exc k fs sl' h' =>
    rw [e] at q
    intro ρ' H' σ' cls d kp rh' rs' rx
    obtain ⟨C, eC, ecls, rest⟩ := id rx
    cases ec : cs k with
    | none => simp only [ec] at q; exact q.elim
    | some b =>
      refine ⟨b, ?_, fun hb a _ => ?_, fun hb => ?_⟩
      · rw [ecls]; exact hcs k C b eC ec
      · subst hb
        obtain rfl := hn k ec
        simp only [ec] at q
        have hil : i < sl'.length := by
          by_cases z : i < sl'.length
          · exact z
          · rw [if_neg z] at q; exact q.elim
        rw [if_pos hil] at q
        rw [rs'.len] at hil
        refine ⟨σ', fs, ρ', ex, sl', h', rfl, hil, rs', rh', rx, ?_⟩
        have q2 := FinS.later q kp
        revert q2
        cases ems : ms (sl'.set i (some (.exn k fs))) h' with
        | nx sl2 h2 => exact fun q2 ρ2 H2 σ2 k2 rh2 rs2 => q2 ρ2 H2 (σ2.set i none) k2 rh2 (rs2.setN i)
        | ret v h2 => exact fun q2 => q2
        | brk sl2 h2 => exact fun q2 ρ2 H2 σ2 k2 rh2 rs2 => q2 ρ2 H2 (σ2.set i none) k2 rh2 (rs2.setN i)
        | cnt sl2 h2 => exact fun q2 ρ2 H2 σ2 k2 rh2 rs2 => q2 ρ2 H2 (σ2.set i none) k2 rh2 (rs2.setN i)
        | exc c2 fs2 sl2 h2 => exact fun q2 => q2.elim
        | bad => exact fun q2 => q2.elim
      · subst hb
        simp only [ec] at q
        exact q ρ' H' σ' cls d kp rh' rs' rx
/-- what the written part says of an exception's class whose fields are read -/
structure EXok (K : PySem.W.Frag) (T : Tab) (n : Nat) (fids : List Nat) : Prop where
  ex : ∃ C, T.exc[n]? = some C ∧ XfC K C ∧ ∀ f x, f ∈ fids → T.fnm[f]? = some x → PySem.W.findIn K (.ref C) x = some none
theorem Rfs.got {ρ : Pl} {ex : List Addr} {H : Hp} {f : Nat} {x : Str} (nd : T.fnm.Nodup) (hf : T.fnm[f]? = some x) : ∀ {fs : List (Nat × PV)} {gs : List (Str × V)} {v : PV}, Rfs T K ρ ex H fs gs → fget fs f = some v → ∃ w, gs.lookup x = some w ∧ Rv K ρ ex H v w := fun r e => (r.look nd hf).1 _ e
/-- e.f at its exception -/
theorem xf_at {a : Addr} {cls : Value} {d : Option Addr} {C : Addr} {x : Str} {f n : Nat} {fs : List (Nat × PV)} {v : PV} {σ : L2.St} {i : Nat} {H : Hp} {ρ : Pl} {ex : List Addr} {Q : VK} (nd : T.fnm.Nodup) (hf : T.fnm[f]? = some x) (hC : T.exc[n]? = some C) (hσ : σ[i]? = some (some (.ref a))) (rx : Rx T K ρ ex H n fs cls d)
    (e : fget fs f = some v) (q : ∀ w, Rv K ρ ex H v w → Q w H) : tXf a cls d C x (L2.tVar i) σ H Q := by
  obtain ⟨C', hC', ec, hd⟩ := rx
  rw [hC] at hC'
  cases hC'
  rcases hd with ⟨e0, _⟩ | ⟨dd, gs, ed, hdd, _, rf⟩
  · subst e0; cases e
  · obtain ⟨w, hw, rw'⟩ := rf.got nd hf e
    exact ⟨.ref a, hσ, rfl, ec, dd, gs, w, ed, hdd, hw, q w rw'⟩
theorem mExAt_e {i f c : Nat} {fs : List (Nat × PV)} {sl : Sl} {h : VH} (hi : i < sl.length) : mExAt i f (sl.set i (some (.exn c fs))) h = retO (fget fs f) h := by
  unfold mExAt
  rw [List.getElem?_set_self hi]
/-- t = e.f -/
theorem suxSet (c : Ctx X T W L) (i j f : Nat) {n : Nat} {fids : List Nat} {x y nm : Str} {p1 p2 p3 pos : Pos} (E : EXok X.K T n fids) (hm : f ∈ fids) (hf : T.fnm[f]? = some x) (hi : X.N[i]? = some nm := by rfl) (hj : X.N[j]? = some y := by rfl) (hv : Vis X.env.scope nm := by exact Or.inl rfl) (hy : Loc X.env.scope y := by first | exact Or.inl rfl | exact Or.inr rfl)
    (hyl : X.env.scope.names.lookup y = some .local := by rfl) (hdb : (nm == ("__debug__" : Str)) = false := by decide) (hcd : (nm == ("__classdict__" : Str)) = false := by decide)
    (hb : attributeBase (.Name nm p1) x X.env (eval (.Name nm p1) X.env) = eval (.Name nm p1) X.env := by rfl) (hs : swapsWith (.Attribute (.Name nm p1) x p2) (some (.Name y p3)) pos.line X.env = pure false := by rfl) :
    SuX X T i n [.Assign [.Name y p3] (.Attribute (.Name nm p1) x p2) pos] (sAsg (mExAt i f) (tName j)) := by
  obtain ⟨C, hC, xc, hno⟩ := E.ex
  refine ⟨fun a oe cls d pn hz hd => ⟨_, pss_one (ps_set (X := X.suite a ((a, oe) :: pn)) (i := j) c.hN hj hy (pe_xf xc (hno f x hm hf) hz hd (pe_var (X := X.suite a ((a, oe) :: pn)) (i := i) hi hv hdb hcd) hb) hs (.inr hyl)), fun fs D σ H ρ ex sl h rs hl rh rx q => ?_⟩⟩
  have hsl : i < sl.length := by rw [rs.len]; exact hl
  unfold sAsg at q
  rw [mExAt_e hsl] at q
  cases e : fget fs f with
  | none => rw [e] at q; exact q.elim
  | some v =>
    rw [e] at q
    refine xf_at c.tok.nd hf hC (List.getElem?_set_self hl) rx e fun w rw' => ?_
    exact q ρ H _ (Kp.refl _ _) rh ((rs.setX i).set j rw')
/-- t = (e.f, e.g) -/
theorem suxSet2 (c : Ctx X T W L) (i j f g : Nat) {n : Nat} {fids : List Nat} {x x' y nm : Str} {k : Nat} {p1 p2 p1' p2' p3 p4 pos : Pos} (E : EXok X.K T n fids) (hm : f ∈ fids) (hg : g ∈ fids) (hf : T.fnm[f]? = some x) (hf' : T.fnm[g]? = some x') (hi : X.N[i]? = some nm := by rfl) (hj : X.N[j]? = some y := by rfl) (hv : Vis X.env.scope nm := by exact Or.inl rfl) (hy : Loc X.env.scope y := by first | exact Or.inl rfl | exact Or.inr rfl)
    (hyl : X.env.scope.names.lookup y = some .local := by rfl) (hdb : (nm == ("__debug__" : Str)) = false := by decide) (hcd : (nm == ("__classdict__" : Str)) = false := by decide)
    (hb : attributeBase (.Name nm p1) x X.env (eval (.Name nm p1) X.env) = eval (.Name nm p1) X.env := by rfl) (hb' : attributeBase (.Name nm p1') x' X.env (eval (.Name nm p1') X.env) = eval (.Name nm p1') X.env := by rfl)
    (hst : starEach [.Attribute (.Name nm p1) x p2, .Attribute (.Name nm p1') x' p2'] X.env = (false, eval (.Attribute (.Name nm p1) x p2) X.env) :: starEach [.Attribute (.Name nm p1') x' p2'] X.env := by rfl) (hst' : starEach [.Attribute (.Name nm p1') x' p2'] X.env = (false, eval (.Attribute (.Name nm p1') x' p2') X.env) :: starEach [] X.env := by rfl)
    (hs : swapsWith (.Tuple [.Attribute (.Name nm p1) x p2, .Attribute (.Name nm p1') x' p2'] k p4) (some (.Name y p3)) pos.line X.env = pure false := by rfl) :
    SuX X T i n [.Assign [.Name y p3] (.Tuple [.Attribute (.Name nm p1) x p2, .Attribute (.Name nm p1') x' p2'] k p4) pos] (sAsg (mTup (mCons (mExAt i f) (mCons (mExAt i g) mNil))) (tName j)) := by
  obtain ⟨C, hC, xc, hno⟩ := E.ex
  refine ⟨fun a oe cls d pn hz hd => ⟨_, pss_one (ps_set (X := X.suite a ((a, oe) :: pn)) (i := j) c.hN hj hy (pe_tup (X := X.suite a ((a, oe) :: pn)) (pa_cons (pe_xf xc (hno f x hm hf) hz hd (pe_var (X := X.suite a ((a, oe) :: pn)) (i := i) hi hv hdb hcd) hb) (pa_cons (pe_xf xc (hno g x' hg hf') hz hd (pe_var (X := X.suite a ((a, oe) :: pn)) (i := i) hi hv hdb hcd) hb') pa_nil hst') hst)) hs (.inr hyl)), fun fs D σ H ρ ex sl h rs hl rh rx q => ?_⟩⟩
  have hsl : i < sl.length := by rw [rs.len]; exact hl
  have hσ := List.getElem?_set_self (l := σ) (a := some (V.ref a)) hl
  unfold sAsg mTup mCons mNil at q
  rw [mExAt_e hsl] at q
  cases e : fget fs f with
  | none => rw [e] at q; exact q.elim
  | some v =>
    rw [e] at q
    simp only [retO_some, R.bnd_ok, mExAt_e hsl] at q
    cases e' : fget fs g with
    | none => rw [e'] at q; exact q.elim
    | some v' =>
      rw [e'] at q
      unfold tAsg L2.tTup L2.tCons
      show tXf a cls d C x (L2.tVar i) (σ.set i (some (.ref a))) H _
      refine xf_at c.tok.nd hf hC hσ rx e fun w rw' => ?_
      show tXf a cls d C x' (L2.tVar i) (σ.set i (some (.ref a))) H _
      refine xf_at c.tok.nd hf' hC hσ rx e' fun w' rw2 => ?_
      refine ⟨by show 2 ≤ sizeLine; rw [sizeLine_eq]; omega, fun p hp => ?_⟩
      have hl2 : ([v, v'] : List PV).length ≤ line := (by decide : 2 ≤ line)
      simp only [retO_some, R.bnd_ok, if_pos hl2] at q
      have kl : Kp ρ H ρ (upd H p (.tup [w, w'])) := Kp.laid hp
      exact q ρ _ _ kl (rh.laid hp) (((rs.mono kl noex).setX i).set j (Rv.newT rh hp (.cons rw' (.cons rw2 .nil))))
end
end Y

set_option maxHeartbeats 1000000
namespace Y
open PySem PySem.Spec PyProof.Rows L2
section
variable {X : Cx} {T : Tab} {K : PySem.W.Frag} {W : WX} {L : Nat}
/-! ### short names for classes -/
/-- o.m(..) of the own class cc -/
def mOwn (cc : Nat) (F : Fn) (o : EM) (as : AM) : EM := fun σ h => ((o σ h).calm).bnd fun x h1 => if clsOf x h1 = some cc then (as σ h1).bnd fun vs h2 => F (x :: vs) h2 else .bad
theorem mOwn_eq (cc : Nat) (F : Fn) (o : EM) (as : AM) : mMeth (fun c => if c = cc then some F else none) [] bNone o as = mOwn cc F o as := by
  funext σ h
  unfold mMeth mOwn
  congr 1
  funext x h1
  cases e : clsOf x h1 with
  | none => simp
  | some c =>
    by_cases hc : c = cc
    · subst hc; simp
    · simp [hc]
structure MCal (P : Program) (w : World) (K : PySem.W.Frag) (mg : Str → Option Value) (base : Heap) (T : Tab) (k : Nat) (cc : Nat) (m : Str) (F : Fn) : Prop where
  ex : ∃ C f fd ps, T.cls[cc]? = some C ∧ Meth K C m f ∧ FnOk P w K mg base (L2.CX P w) k f fd ps (spF T K F) ∧ Binds K fd ps []
  no : ∀ f, T.ok cc f = true → T.fnm[f]? ≠ some m
structure KCal (P : Program) (w : World) (K : PySem.W.Frag) (mg : Str → Option Value) (base : Heap) (T : Tab) (k : Nat) (x : Str) (cc : Nat) (F : Fn) : Prop where
  ex : ∃ C f fd ps, T.cls[cc]? = some C ∧ Mk K C f ∧ FnOk P w K mg base (L2.CX P w) k f fd ps (spF T K F) ∧ mg x = some (.ref C) ∧ Binds K fd ps []
theorem MCal.ok {k cc : Nat} {m : Str} {F : Fn} (G : MCal X.prog X.w X.K X.mg X.base T k cc m F) (hk : k ≤ L) : ∀ c F', (fun c => if c = cc then some F else none) c = some F' → MOk X T L c m F' := fun c F' e => by
  by_cases hc : c = cc
  · subst hc
    simp at e
    subst e
    obtain ⟨C, f, fd, ps, h1, h2, h3, h4⟩ := G.ex
    exact ⟨⟨C, f, fd, ps, h1, h2, h3.mono hk, h4⟩, G.no⟩
  · simp [hc] at e
theorem meth (c : Ctx X T W L) {k cc : Nat} {m : Str} {F : Fn} {o e : Expr} {es : List Expr} {apos pos : Pos} {mo : EM} {ma : AM} (G : MCal X.prog X.w X.K X.mg X.base T k cc m F) (ho : PE X o (rdE T X.K W mo)) (ha : PA X (e :: es) (rdA T X.K W ma)) (pl : Sem Bool) (hk : k ≤ L := by decide)
    (hst : starEach (e :: es) X.env = (false, eval e X.env) :: starEach es X.env := by rfl) (hpl : (backTo pos (starEach es X.env)).any (·.1) = false := by rfl)
    (ht : eval (.Call (.Attribute o m apos) (e :: es) [] pos) X.env = (do
      let ov ← eval o X.env
      standAt apos.atName
      let (f, first) ← holding [ov] (getMethod ov m pl)
      callWith pos f first (backTo pos (starEach (e :: es) X.env)) (backToKw pos (keywordEach [] X.env))) := by rfl)
    (hbase : attributeBase o m X.env (eval o X.env) = eval o X.env := by rfl)
    (hfew : ((backTo pos (starEach (e :: es) X.env)).all (fun x => !x.1) && (backToKw pos (keywordEach [] X.env)).all (fun x => x.1.isSome)
      && decide ((e :: es).length + ([] : List Keyword).length + (if ([] : List Keyword).isEmpty then 0 else 1) < 30)) = true := by rfl)
    (hline : (apos.endLine == pos.line) = true := by rfl) : PE X (.Call (.Attribute o m apos) (e :: es) [] pos) (rdE T X.K W (mOwn cc F mo ma)) := by
  rw [← mOwn_eq]
  exact e_meth (ks := []) (B := bNone) (pl := pl) (G.ok hk) c.room c.tok c.tk (fun k hk => by cases hk) ho ha hst hpl ht hbase hfew hline
theorem meth0 (c : Ctx X T W L) {k cc : Nat} {m : Str} {F : Fn} {o : Expr} {apos pos : Pos} {mo : EM} (G : MCal X.prog X.w X.K X.mg X.base T k cc m F) (ho : PE X o (rdE T X.K W mo)) (pl : Sem Bool) (hk : k ≤ L := by decide)
    (ht : eval (.Call (.Attribute o m apos) [] [] pos) X.env = (do
      let ov ← eval o X.env
      standAt apos.atName
      let (f, first) ← holding [ov] (getMethod ov m pl)
      callWith pos f first (backTo pos (starEach [] X.env)) (backToKw pos (keywordEach [] X.env))) := by rfl)
    (hbase : attributeBase o m X.env (eval o X.env) = eval o X.env := by rfl) (hline : (apos.endLine == pos.line) = true := by rfl) : PE X (.Call (.Attribute o m apos) [] [] pos) (rdE T X.K W (mOwn cc F mo mNil)) := by
  rw [← mOwn_eq]
  exact e_meth0 (ks := []) (B := bNone) (pl := pl) (G.ok hk) c.room c.tok c.tk (fun k hk => by cases hk) ho ht hbase hline
theorem make (c : Ctx X T W L) {x : Str} {p pos : Pos} {e : Expr} {es : List Expr} {k cc : Nat} {F : Fn} {m : AM} (G : KCal X.prog X.w X.K X.mg X.base T k x cc F) (ha : PA X (e :: es) (rdA T X.K W m)) (hk : k + 1 ≤ L := by decide) (hg : Gl X x := by rfl) (hdb : (x == ("__debug__" : Str)) = false := by decide)
    (he : starEach (e :: es) X.env = (false, eval e X.env) :: starEach es X.env := by rfl) (hpl : (backTo pos (starEach es X.env)).any (·.1) = false := by rfl) : PE X (.Call (.Name x p) (e :: es) [] pos) (rdE T X.K W (mMake cc F m)) := by
  obtain ⟨C, f, fd, ps, h1, h2, h3, h4, h5⟩ := G.ex
  exact e_make (L := k) ⟨C, f, fd, ps, h1, h2, h3, h4, h5⟩ (c.room.mono hk) hg c.tk ha hdb he hpl
theorem att (c : Ctx X T W L) (f : Nat) {ok : Nat → Nat → Bool} {e : Expr} {x : Str} {pos : Pos} {m : EM} (ho : T.ok = ok) (hf : T.fnm[f]? = some x) (he : PE X e (rdE T X.K W m)) (hb : attributeBase e x X.env (eval e X.env) = eval e X.env := by rfl) : PE X (.Attribute e x pos) (rdE T X.K W (mOp1 (atO ok f) m)) := by
  subst ho
  exact e_at c.tok hf he hb
theorem fldS (c : Ctx X T W L) (f : Nat) {ok : Nat → Nat → Bool} {o value : Expr} {x : Str} {mo mv : EM} {pos pos' : Pos} (hok : T.ok = ok) (hf : T.fnm[f]? = some x) (ho : PE X o (rdE T X.K W mo)) (hv : PE X value (rdE T X.K W mv)) (hs : swapsWith value (some (.Attribute o x pos')) pos.line X.env = pure false := by rfl) :
    PS X (.Assign [.Attribute o x pos'] value pos) (rdS T X.K W (sAt ok f mo mv)) := by
  subst hok
  exact fld c f ho hv hf hs
theorem fldA (c : Ctx X T W L) (f : Nat) (op : Operator) {ok : Nat → Nat → Bool} {o value : Expr} {x : Str} {mo mv : EM} {pos pos' : Pos} (hok : T.ok = ok) (hf : T.fnm[f]? = some x) (ho : PE X o (rdE T X.K W mo)) (hv : PE X value (rdE T X.K W mv)) :
    PS X (.AugAssign (.Attribute o x pos') op value pos) (rdS T X.K W (sAugAt ok f (augO op) mo mv)) := by
  subst hok
  exact flda c f op ho hv hf
/-! ### sorted -/
theorem biSort (c : Ctx X T W L) {p pos : Pos} {e : Expr} {es : List Expr} {m : AM} (hm : X.mg "sorted" = none) (ha : PA X (e :: es) (rdA T X.K W m)) (hg : Gl X "sorted" := by rfl) (he : starEach (e :: es) X.env = (false, eval e X.env) :: starEach es X.env := by rfl) (hpl : (backTo pos (starEach es X.env)).any (·.1) = false := by rfl) :
    PE X (.Call (.Name "sorted" p) (e :: es) [] pos) (rdL T X.K W (mBiL bSorted m)) :=
  imE (pe_callB (b_sorted (T := T) c) hg hm (by decide +kernel) ha (by decide) (by decide) he hpl) fun _ _ _ h => rd_bil h
end
end Y

set_option maxHeartbeats 1000000
/-! the words of Y17 .. Y31, reckoned -/
namespace Y
/-! ### fields -/
theorem at_ok {ok : Nat → Nat → Bool} {n c f : Nat} {fs : List (Nat × PV)} {v : PV} {h : VH} (e : h[n]? = some (.ins c fs)) (o : ok c f = true) (g : fget fs f = some v) : atO ok f (.ref n) h = some v := by
  unfold atO
  simp only [e, o, if_true, g]
theorem set_ok {ok : Nat → Nat → Bool} {n c f : Nat} {fs : List (Nat × PV)} {v : PV} {h : VH} (e : h[n]? = some (.ins c fs)) (o : ok c f = true) (l : fs.length < 900) : setAt ok f (.ref n) v h = some (h.set n (.ins c (fput f v fs))) := by
  unfold setAt
  have l' : Nat.blt fs.length 900 = true := Nat.blt_eq.mpr l
  simp only [e, o, l', Bool.and_self, if_true]
  rfl
theorem cls_ok {n c : Nat} {fs : List (Nat × PV)} {h : VH} (e : h[n]? = some (.ins c fs)) : clsOf (.ref n) h = some c := by
  unfold clsOf
  simp only [e]
@[simp] theorem mOwn_e (cc : Nat) (F : Fn) (o : EM) (as : AM) (σ : Sl) (h : VH) : mOwn cc F o as σ h = ((o σ h).calm).bnd fun x h1 => if clsOf x h1 = some cc then (as σ h1).bnd fun vs h2 => F (x :: vs) h2 else .bad := rfl
@[simp] theorem sAt_e (ok : Nat → Nat → Bool) (f : Nat) (o e : EM) (σ : Sl) (h : VH) : sAt ok f o e σ h = (e σ h).thn σ fun v h1 => (o σ h1).thn σ fun x h2 => match setAt ok f x v h2 with
  | some h3 => .nx σ h3
  | none => .bad := rfl
@[simp] theorem sAugAt_e (ok : Nat → Nat → Bool) (f : Nat) (op : PV → PV → VH → Option PV) (o e : EM) (σ : Sl) (h : VH) : sAugAt ok f op o e σ h = (o σ h).thn σ fun x h1 => match atO ok f x h1 with
  | some old => (e σ h1).thn σ fun y h3 => match op old y h3 with
    | some z => match (if clsOf x h3 = clsOf x h1 then setAt ok f x z h3 else none) with
      | some h5 => .nx σ h5
      | none => .bad
    | none => .bad
  | none => .bad := rfl
@[simp] theorem mMake_e (c : Nat) (F : Fn) (as : AM) (σ : Sl) (h : VH) : mMake c F as σ h = (as σ h).bnd fun vs h1 => (F (.ref h1.length :: vs) (h1 ++ [.ins c []])).bnd fun v h2 => match v with
  | .non => .ok (.ref h1.length) h2
  | _ => .bad := rfl
@[simp] theorem sRaise_e (c : Nat) (mk : List PV → VH → R (List (Nat × PV))) (as : AM) (σ : Sl) (h : VH) : sRaise c mk as σ h = (as σ h).thn σ fun vs h1 => (mk vs h1).thn σ fun fs h2 => .exc c fs σ h2 := rfl
@[simp] theorem sTryA_e (a : SM) (cs : Nat → Option Bool) (i : Nat) (b : SM) (σ : Sl) (h : VH) : sTryA a cs i b σ h = match a σ h with
  | .exc c fs σ' h' => match cs c with
    | some true => if i < σ'.length then (b (σ'.set i (some (.exn c fs))) h').without i else .bad
    | some false => .exc c fs σ' h'
    | none => .bad
  | r => r := rfl
/-! ### rows and dicts -/
@[simp] theorem mRev_e (a : EM) (σ : Sl) (h : VH) : mRev a σ h = (a σ h).bnd fun x h1 => retO ((asList x h1).bind fun l => if l.length ≤ line then some l.reverse else none) h1 := rfl
@[simp] theorem mLenSet_e (m : EM) (σ : Sl) (h : VH) : mLenSet m σ h = (m σ h).bnd fun x h1 => retO ((asList x h1).bind fun l => (strsOf l).bind fun ts => if few ts.length then some (PV.int (dedup ts).length) else none) h1 := rfl
@[simp] theorem mSortSet_e (m : EM) (σ : Sl) (h : VH) : mSortSet m σ h = (m σ h).bnd fun x h1 => retO ((asList x h1).bind fun l => (strsOf l).bind fun ts => if few ts.length then some (((dedup ts).map PV.str).mergeSort pvLe) else none) h1 := rfl
@[simp] theorem mSortV_e (m : EM) (σ : Sl) (h : VH) : mSortV m σ h = (m σ h).bnd fun x h1 => match x with
  | .ref n => match h1[n]? with
    | some (.dct kvs) => if sortOk1 (kvs.map (·.2)) && Nat.ble kvs.length line then .ok ((kvs.map (·.2)).mergeSort pvLe) h1 else .bad
    | _ => .bad
  | _ => .bad := rfl
@[simp] theorem mFzD_e (m : DM) (σ : Sl) (h : VH) : mFzD m σ h = (m σ h).bnd fun kvs h1 => .ok (.dct kvs) h1 := rfl
@[simp] theorem mDc_e (it : IM) (tg : GM) (t : TM) (ek e : EM) (own : List Nat) (σ : Sl) (h : VH) : mDc it tg t ek e own σ h = (it σ h).bnd fun xs h1 => dcLoop tg t ek e (wipe σ own) xs [] h1 := rfl
theorem keys_ok {src : EM} {σ : Sl} {h : VH} {n : Nat} {kvs : List (PV × PV)} (e : src σ h = .ok (.ref n) h) (g : h[n]? = some (.ldct kvs)) : mKeys src σ h = .ok (kvs.map (·.1)) h := by
  unfold mKeys
  rw [e]
  simp only [R.bnd_ok, g]
theorem items_ok {src : EM} {σ : Sl} {h : VH} {n : Nat} {kvs : List (PV × PV)} (e : src σ h = .ok (.ref n) h) (g : h[n]? = some (.ldct kvs)) : mItems src σ h = .ok (kvs.map fun p => .tup [p.1, p.2]) h := by
  unfold mItems
  rw [e]
  simp only [R.bnd_ok, g]
theorem set_set_same {h : VH} {n : Nat} {o o' : VO} (e : h[n]? = some o') : (h.set n o).set n o' = h := by
  rw [List.set_set]
  exact List.ext_getElem? fun j => by
    by_cases hj : n = j
    · subst hj
      rw [List.getElem?_set_self (List.getElem?_eq_some_iff.mp e).1, e]
    · rw [List.getElem?_set_ne hj]
/-- a walk over a dict that leaves the heap as it is -/
theorem lock_ok {src : EM} {m : AM} {σ : Sl} {h : VH} {n : Nat} {kvs : List (PV × PV)} {ys : List PV} (e : src σ h = .ok (.ref n) h) (g : h[n]? = some (.dct kvs)) (q : m σ (h.set n (.ldct kvs)) = .ok ys (h.set n (.ldct kvs))) : mLock src m σ h = .ok ys h := by
  unfold mLock
  have hn : n < h.length := (List.getElem?_eq_some_iff.mp g).1
  rw [e]
  simp only [g, q, R.calm, R.bnd_ok]
  rw [List.getElem?_set_self hn]
  simp only
  rw [set_set_same g]
theorem lc_fm {tg : GM} {t : TM} {e : EM} {σ : Sl} {h : VH} (p : PV → Bool) (f : PV → PV) : ∀ (xs acc : List PV), acc.length + xs.length ≤ line → (∀ x ∈ xs, ∃ σ', tg x σ h = some (σ', h) ∧ t σ' h = .ok (p x) h ∧ (p x = true → e σ' h = .ok (f x) h)) → lcLoop tg t e σ xs acc h = .ok (acc ++ (xs.filter p).map f) h
  | [], acc, _, _ => by simp
  | x :: r, acc, hl, hx => by
    obtain ⟨σ', e1, e2, e3⟩ := hx x List.mem_cons_self
    unfold lcLoop
    rw [List.length_cons] at hl
    simp only [e1, e2, calm_ok, R.bnd_ok]
    cases hp : p x with
    | true =>
      simp only [if_true, e3 hp, calm_ok, R.bnd_ok]
      rw [if_pos (Nat.blt_eq.mpr (by omega)), lc_fm p f r _ (by simp; omega) fun y hy => hx y (List.mem_cons_of_mem _ hy), List.filter_cons_of_pos hp]
      simp
    | false =>
      simp only [Bool.false_eq_true, if_false]
      rw [lc_fm p f r _ (by omega) fun y hy => hx y (List.mem_cons_of_mem _ hy), List.filter_cons_of_neg (by simp [hp])]
/-! ### dicts -/
theorem kget_nil (k : PV) : kget [] k = none := rfl
theorem kget_cons (a b k : PV) (r : List (PV × PV)) : kget ((a, b) :: r) k = if a = k then some b else kget r k := by
  unfold kget
  rw [List.find?_cons]
  by_cases h : a = k
  · simp [h]
  · simp [h]
theorem kget_append (a b : List (PV × PV)) (k : PV) : kget (a ++ b) k = (kget a k).or (kget b k) := by
  unfold kget
  rw [List.find?_append]
  cases a.find? fun p => decide (p.1 = k) with
  | some p => rfl
  | none => simp
theorem kget_kput (kvs : List (PV × PV)) (k v k' : PV) : kget (kput kvs k v) k' = if k = k' then some v else kget kvs k' := by
  unfold kput
  by_cases h : (kget kvs k).isSome = true
  · rw [if_pos h]
    have key : ∀ l : List (PV × PV), kget (l.map fun p => if p.1 = k then (p.1, v) else p) k' = if k = k' then (if (kget l k).isSome = true then some v else none) else kget l k' := by
      intro l
      induction l with
      | nil => simp [kget_nil]
      | cons p r ih =>
        obtain ⟨a, b⟩ := p
        rw [List.map_cons]
        by_cases ha : a = k
        · subst ha
          simp only [if_true]
          rw [kget_cons, kget_cons, ih]
          by_cases hk : a = k'
          · simp [hk, kget_cons]
          · simp [hk, kget_cons]
        · simp only [if_neg ha]
          rw [kget_cons, kget_cons, kget_cons, ih, if_neg ha]
          by_cases hk : k = k'
          · subst hk; simp [ha]
          · simp [hk]
    rw [key]
    simp [h]
  · rw [if_neg h, kget_append, kget_cons, kget_nil]
    by_cases hk : k = k'
    · subst hk
      have : kget kvs k = none := by simpa using h
      simp [this]
    · simp [hk]
theorem kget_kdrop (kvs : List (PV × PV)) (k k' : PV) : kget (kdrop kvs k) k' = if k = k' then none else kget kvs k' := by
  unfold kdrop
  induction kvs with
  | nil => simp [kget_nil]
  | cons p r ih =>
    obtain ⟨a, b⟩ := p
    rw [List.filter_cons]
    by_cases ha : a = k
    · subst ha
      simp only [ne_eq, not_true_eq_false, decide_false, Bool.false_eq_true, if_false]
      rw [ih, kget_cons]
      by_cases hk : a = k'
      · simp [hk]
      · simp [hk]
    · simp only [ne_eq, ha, not_false_eq_true, decide_true, if_true]
      rw [kget_cons, ih, kget_cons]
      by_cases hk : k = k'
      · subst hk; simp [ha]
      · simp [hk]
theorem kput_len (kvs : List (PV × PV)) (k v : PV) : (kput kvs k v).length ≤ kvs.length + 1 := by
  unfold kput
  split
  · rw [List.length_map]; omega
  · simp
theorem kdrop_len (kvs : List (PV × PV)) (k : PV) : (kdrop kvs k).length ≤ kvs.length := by
  unfold kdrop
  exact List.length_filter_le _ _
theorem setIx_ok {h : VH} {n : Nat} {kvs : List (PV × PV)} {k v : PV} (e : h[n]? = some (.dct kvs)) (hk : keyOk k = true) (hl : kvs.length < line) : setIx (.ref n) k v h = some (h.set n (.dct (kput kvs k v))) := by
  unfold setIx
  have l' : Nat.blt kvs.length line = true := Nat.blt_eq.mpr hl
  simp only [e, hk, l', Bool.and_self, if_true]
  rfl
theorem get_ok {h : VH} {n : Nat} {kvs : List (PV × PV)} {k d : PV} (e : h[n]? = some (.dct kvs)) (hk : keyOk k = true) : bGet (.ref n) [k, d] h = some ((kget kvs k).getD d, h) := by
  unfold bGet
  simp only [e, hk, if_true]
theorem in_ok {h : VH} {n : Nat} {kvs : List (PV × PV)} {k : PV} (e : h[n]? = some (.dct kvs)) (hk : keyOk k = true) : inO k (.ref n) h = some (kget kvs k).isSome := by
  unfold inO asList asDict
  simp only [e, hk, if_true]
theorem popd1_ok {h : VH} {n : Nat} {kvs : List (PV × PV)} {k v : PV} (e : h[n]? = some (.dct kvs)) (hk : keyOk k = true) (g : kget kvs k = some v) : bPop (.ref n) [k] h = some (v, h.set n (.dct (kdrop kvs k))) := by
  unfold bPop bPopD
  simp only [e, hk, g, if_true, Option.map_some]
  rfl
theorem popd2_ok {h : VH} {n : Nat} {kvs : List (PV × PV)} {k v d : PV} (e : h[n]? = some (.dct kvs)) (hk : keyOk k = true) (g : kget kvs k = some v) : bPop (.ref n) [k, d] h = some (v, h.set n (.dct (kdrop kvs k))) := by
  unfold bPop bPopD
  simp only [e, hk, g, if_true, Option.map_some]
  rfl
/-! .. for texts and numbers as keys -/
section
variable {h : VH} {n : Nat} {kvs : List (PV × PV)} (k : List Nat) (i : Int) {v d : PV}
theorem setIx_s (e : h[n]? = some (.dct kvs)) (hl : kvs.length < line) : setIx (.ref n) (.str k) v h = some (h.set n (.dct (kput kvs (.str k) v))) := setIx_ok e rfl hl
theorem setIx_i (e : h[n]? = some (.dct kvs)) (hl : kvs.length < line) : setIx (.ref n) (.int i) v h = some (h.set n (.dct (kput kvs (.int i) v))) := setIx_ok e rfl hl
theorem get_s (e : h[n]? = some (.dct kvs)) : bGet (.ref n) [.str k, d] h = some ((kget kvs (.str k)).getD d, h) := get_ok e rfl
theorem get_i (e : h[n]? = some (.dct kvs)) : bGet (.ref n) [.int i, d] h = some ((kget kvs (.int i)).getD d, h) := get_ok e rfl
theorem in_s (e : h[n]? = some (.dct kvs)) : inO (.str k) (.ref n) h = some (kget kvs (.str k)).isSome := in_ok e rfl
theorem in_i (e : h[n]? = some (.dct kvs)) : inO (.int i) (.ref n) h = some (kget kvs (.int i)).isSome := in_ok e rfl
theorem ix_s (e : h[n]? = some (.dct kvs)) : ixO (.ref n) (.str k) h = kget kvs (.str k) := by rw [ix_refd e]; rfl
theorem popd1_s (e : h[n]? = some (.dct kvs)) (g : kget kvs (.str k) = some v) : bPop (.ref n) [.str k] h = some (v, h.set n (.dct (kdrop kvs (.str k)))) := popd1_ok e rfl g
theorem popd2_s (e : h[n]? = some (.dct kvs)) (g : kget kvs (.str k) = some v) : bPop (.ref n) [.str k, d] h = some (v, h.set n (.dct (kdrop kvs (.str k)))) := popd2_ok e rfl g
/-- o.m(..) of a dict -/
theorem bmd {B : Bm} {o : EM} {as : AM} {σ : Sl} {l : List (PV × PV)} {vs : List PV} {w : PV} {h' : VH} (eo : o σ h = .ok (.ref n) h) (e : h[n]? = some (.dct l)) (ea : as σ h = .ok vs h) (q : B (.ref n) vs h = some (w, h')) : mMeth noC ["dict"] B o as σ h = .ok w h' := by
  rw [bm_dict eo e ea, q]
  rfl
theorem bml {B : Bm} {o : EM} {as : AM} {σ : Sl} {l : List PV} {vs : List PV} {w : PV} {h' : VH} (eo : o σ h = .ok (.ref n) h) (e : h[n]? = some (.lst l)) (ea : as σ h = .ok vs h) (q : B (.ref n) vs h = some (w, h')) : mMeth noC ["list"] B o as σ h = .ok w h' := by
  rw [bm_list eo e ea, q]
  rfl
end
section
variable {h : VH}
theorem inV_s {n : Nat} {kvs : List (PV × PV)} (k : List Nat) (e : h[n]? = some (.dct kvs)) : cmpV .In (.str k) (.ref n) h = some (.bl (kget kvs (.str k)).isSome) := by
  show (inO (.str k) (.ref n) h).map PV.bl = _
  rw [in_s k e]; rfl
theorem ninV_s {n : Nat} {kvs : List (PV × PV)} (k : List Nat) (e : h[n]? = some (.dct kvs)) : cmpV .NotIn (.str k) (.ref n) h = some (.bl (!(kget kvs (.str k)).isSome)) := by
  show ((inO (.str k) (.ref n) h).map (!·)).map PV.bl = _
  rw [in_s k e]; rfl
@[simp] theorem eq_bl (a b : Bool) : cmpV .Eq (.bl a) (.bl b) h = some (.bl (a == b)) := rfl
@[simp] theorem ne_bl (a b : Bool) : cmpV .NotEq (.bl a) (.bl b) h = some (.bl (!(a == b))) := rfl
theorem plain_strs : ∀ ts : List (List Nat), PV.plainL (ts.map PV.str) = true
  | [] => rfl
  | t :: r => by rw [List.map_cons]; show (true && PV.plainL (r.map PV.str)) = true; rw [plain_strs r]; rfl
theorem dep_strs : ∀ ts : List (List Nat), PV.depL (ts.map PV.str) = 0
  | [] => rfl
  | t :: r => by rw [List.map_cons]; show max 0 (PV.depL (r.map PV.str)) = 0; rw [dep_strs r]; rfl
theorem str_mem (t : List Nat) (ts : List (List Nat)) : decide (PV.str t ∈ ts.map PV.str) = decide (t ∈ ts) := by
  congr 1
  simp
theorem in_strs (t : List Nat) (ts : List (List Nat)) : cmpV .In (.str t) (.lst (ts.map PV.str)) h = some (.bl (decide (t ∈ ts))) := by
  show (inO (.str t) (.lst (ts.map PV.str)) h).map PV.bl = _
  unfold inO
  simp only [asList, PV.plain, plain_strs, dep_strs, PV.dep]
  rw [← str_mem]
  rfl
theorem nin_strs (t : List Nat) (ts : List (List Nat)) : cmpV .NotIn (.str t) (.lst (ts.map PV.str)) h = some (.bl (!decide (t ∈ ts))) := by
  show ((inO (.str t) (.lst (ts.map PV.str)) h).map (!·)).map PV.bl = _
  unfold inO
  simp only [asList, PV.plain, plain_strs, dep_strs, PV.dep]
  rw [← str_mem]
  rfl
theorem lst_inj {a b : List (List Nat)} : (PV.lst (a.map PV.str) = PV.lst (b.map PV.str)) ↔ a = b := by
  constructor
  · intro e
    exact (List.map_inj_right fun _ _ e => PV.str.inj e).mp (PV.lst.inj e)
  · intro e; rw [e]
theorem eq_strs (a b : List (List Nat)) : cmpV .Eq (.lst (a.map PV.str)) (.lst (b.map PV.str)) h = some (.bl (decide (a = b))) := by
  rw [eq_plain h (by simp [look, PV.plain, plain_strs]) (by simp [look, PV.plain, plain_strs]) (fun _ z => by cases z) (by simp [look, PV.dep, dep_strs]) (by simp [look, PV.dep, dep_strs])]
  congr 2
  exact decide_eq_decide.mpr lst_inj
theorem ne_strs (a b : List (List Nat)) : cmpV .NotEq (.lst (a.map PV.str)) (.lst (b.map PV.str)) h = some (.bl (!decide (a = b))) := by
  rw [ne_plain h (by simp [look, PV.plain, plain_strs]) (by simp [look, PV.plain, plain_strs]) (fun _ z => by cases z) (by simp [look, PV.dep, dep_strs]) (by simp [look, PV.dep, dep_strs])]
  congr 3
  exact decide_eq_decide.mpr lst_inj
end
/-! ### what stays -/
/-- from h to h' only the places of S changed, new ones came -/
structure Ext (S : Nat → Prop) (h h' : VH) : Prop where
  le : h.length ≤ h'.length
  same : ∀ i, i < h.length → ¬ S i → h'[i]? = h[i]?
theorem Ext.refl (S : Nat → Prop) (h : VH) : Ext S h h := ⟨Nat.le_refl _, fun _ _ _ => rfl⟩
theorem Ext.trans {S S' S2 : Nat → Prop} {h h1 h2 : VH} (a : Ext S h h1) (b : Ext S' h1 h2) (m : ∀ i, S i → S2 i) (m' : ∀ i, i < h.length → S' i → S2 i) : Ext S2 h h2 :=
  ⟨Nat.le_trans a.le b.le, fun i hi n => (b.same i (Nat.lt_of_lt_of_le hi a.le) fun z => n (m' i hi z)).trans (a.same i hi fun z => n (m i z))⟩
theorem Ext.tr {S : Nat → Prop} {h h1 h2 : VH} (a : Ext S h h1) (b : Ext S h1 h2) : Ext S h h2 := a.trans b (fun _ z => z) fun _ _ z => z
theorem Ext.mono {S S' : Nat → Prop} {h h1 : VH} (a : Ext S h h1) (m : ∀ i, S i → S' i) : Ext S' h h1 := ⟨a.le, fun i hi n => a.same i hi fun z => n (m i z)⟩
theorem Ext.get {S : Nat → Prop} {h h' : VH} {i : Nat} {o : VO} (x : Ext S h h') (e : h[i]? = some o) (n : ¬ S i) : h'[i]? = some o := by
  rw [x.same i (List.getElem?_eq_some_iff.mp e).1 n]
  exact e
theorem Ext.set {S : Nat → Prop} {h : VH} {i : Nat} {o : VO} (hs : S i) : Ext S h (h.set i o) := ⟨by simp, fun j _ n => List.getElem?_set_ne fun (z : i = j) => n (z ▸ hs)⟩
theorem Ext.push {S : Nat → Prop} {h : VH} {l : List VO} : Ext S h (h ++ l) := ⟨by simp, fun j hj _ => List.getElem?_append_left hj⟩
end Y

set_option maxHeartbeats 1000000
/-! sorted rows, reckoned -/
namespace Y
open YS
def tok (d : PV) : List (Int ⊕ List Nat) := PySem.W.keyToks (toD d)
theorem pvLe_total (a b : PV) : (pvLe a b || pvLe b a) = true := dle_total (k := toD) a b
theorem pvLe_trans (a b c : PV) (h1 : pvLe a b = true) (h2 : pvLe b c = true) : pvLe a c = true := dle_trans (k := toD) a b c h1 h2
theorem pvLe_anti {a b : PV} (h1 : pvLe a b = true) (h2 : pvLe b a = true) : tok a = tok b := dle_anti (k := toD) h1 h2
theorem pvLe_eq (a b : PV) : pvLe a b = !PyProof.Rows.lexLt PyProof.Rows.itemOrd (tok b) (tok a) := rfl
/-- the sorted row is the one that is in order -/
theorem sort_is {l l' : List PV} (p : l'.Perm l) (hp : l'.Pairwise fun a b => pvLe a b = true) (inj : ∀ a ∈ l, ∀ b ∈ l, tok a = tok b → a = b) : l.mergeSort pvLe = l' := by
  refine List.Perm.eq_of_pairwise (le := fun a b => pvLe a b = true) (fun a b ha hb h1 h2 => ?_) (List.pairwise_mergeSort pvLe_trans pvLe_total l) hp ((List.mergeSort_perm l _).trans p.symm)
  exact inj a ((List.mergeSort_perm l _).mem_iff.mp ha) b (p.mem_iff.mp hb) (pvLe_anti h1 h2)
theorem sort_same {l l' : List PV} (p : l.Perm l') (inj : ∀ a ∈ l, ∀ b ∈ l, tok a = tok b → a = b) : l.mergeSort pvLe = l'.mergeSort pvLe :=
  sort_is ((List.mergeSort_perm l' _).trans p.symm) (List.pairwise_mergeSort pvLe_trans pvLe_total l') inj
@[simp] theorem tok_str (s : List Nat) : tok (.str s) = [.inr s] := by
  unfold tok toD
  simp [PySem.W.keyToks]
theorem inj_strs {ts : List (List Nat)} : ∀ a ∈ ts.map PV.str, ∀ b ∈ ts.map PV.str, tok a = tok b → a = b := fun a ha b hb e => by
  obtain ⟨s, _, rfl⟩ := List.mem_map.mp ha
  obtain ⟨t, _, rfl⟩ := List.mem_map.mp hb
  simpa using e
theorem sort_strs {l l' : List (List Nat)} (p : l.Perm l') : (l.map PV.str).mergeSort pvLe = (l'.map PV.str).mergeSort pvLe := sort_same (p.map _) inj_strs
theorem sortOk_strs (ts : List (List Nat)) : sortOk (ts.map PV.str) = true := by
  unfold sortOk
  simp [PV.plain, PV.dep, PySem.W.alike, toD, isT, isA]
theorem sortOk1_strs (ts : List (List Nat)) : sortOk1 (ts.map PV.str) = true := by
  unfold sortOk1
  rw [sortOk_strs]
  simp
/-- rows (number, text) -/
def isV (p : Int × List Nat) : PV := .tup [.int p.1, .str p.2]
@[simp] theorem tok_is (p : Int × List Nat) : tok (isV p) = [.inl 1, .inl p.1, .inl 1, .inr p.2, .inl 0] := by
  unfold tok isV
  simp [toD, toDs, PySem.W.keyToks, PySem.W.keyToksAll]
/-- what makes rows sortable -/
theorem sortOk_by {l : List PV} (h1 : ∀ a ∈ l, a.plain = true ∧ a.dep ≤ 60) (h2 : ∀ a ∈ l, ∀ b ∈ l, PySem.W.alike (toD a) (toD b) = true) (h3 : (∀ a ∈ l, isT a = true) ∨ ∀ a ∈ l, isA a = true) : sortOk l = true := by
  unfold sortOk
  rw [Bool.and_eq_true, Bool.and_eq_true, Bool.or_eq_true, List.all_eq_true, List.all_eq_true, List.all_eq_true, List.all_eq_true]
  exact ⟨⟨fun a ha => by rw [Bool.and_eq_true]; exact ⟨(h1 a ha).1, Nat.ble_eq.mpr (h1 a ha).2⟩, fun a ha => List.all_eq_true.mpr (h2 a ha)⟩, h3⟩
theorem sortOk_is (ps : List (Int × List Nat)) : sortOk (ps.map isV) = true := by
  refine sortOk_by (fun a ha => ?_) (fun a ha b hb => ?_) (.inl fun a ha => ?_)
  · obtain ⟨x, _, rfl⟩ := List.mem_map.mp ha
    unfold isV
    refine ⟨by simp [PV.plain, PV.plainL], by simp [PV.dep, PV.depL]⟩
  · obtain ⟨x, _, rfl⟩ := List.mem_map.mp ha
    obtain ⟨y, _, rfl⟩ := List.mem_map.mp hb
    rfl
  · obtain ⟨x, _, rfl⟩ := List.mem_map.mp ha
    rfl
theorem isLe {p q : Int × List Nat} (h : p.1 < q.1) : pvLe (isV p) (isV q) = true := by
  rw [pvLe_eq, tok_is, tok_is]
  have h1 : PyProof.Rows.itemLt (.inl q.1) (.inl p.1) = false := by
    show decide (q.1 < p.1) = false
    exact decide_eq_false (by omega)
  have h2 : PyProof.Rows.itemLt (.inl p.1) (.inl q.1) = true := by
    show decide (p.1 < q.1) = true
    exact decide_eq_true h
  have h3 : PyProof.Rows.itemLt (.inl 1) (.inl 1) = false := rfl
  simp [PyProof.Rows.lexLt, h1, h2, h3]
theorem sort_isV {ps rs : List (Int × List Nat)} (p : rs.Perm ps) (hr : rs.Pairwise fun a b => a.1 < b.1) : (ps.map isV).mergeSort pvLe = rs.map isV := by
  refine sort_is (p.map _) (List.pairwise_map.mpr (hr.imp fun h => isLe h)) fun a ha b hb e => ?_
  obtain ⟨x, _, rfl⟩ := List.mem_map.mp ha
  obtain ⟨y, _, rfl⟩ := List.mem_map.mp hb
  rw [tok_is, tok_is] at e
  simp at e
  rw [show x = y from Prod.ext e.1 e.2]
end Y

set_option maxHeartbeats 4000000
namespace Y.k33
open PySem PySem.Spec PyProof.Rows L2 Y
def top (i : Nat) : Stmt := PySem.Challenge.pw_sameinsameout_k33_whole_stores_of_many_s.main.body.getD i (.Pass ⟨0, 0, 0, 0⟩)
/-! ### the texts that stand in the program -/
abbrev t_0123456789ab : PV := .str [48, 49, 50, 51, 52, 53, 54, 55, 56, 57, 97, 98, 99, 100, 101, 102]
theorem t_0123456789ab_l : Lit "0123456789abcdef" [48, 49, 50, 51, 52, 53, 54, 55, 56, 57, 97, 98, 99, 100, 101, 102] := lit (by decide +kernel)
abbrev t_at : PV := .str [97, 116]
theorem t_at_l : Lit "at" [97, 116] := lit (by decide +kernel)
abbrev t_cells : PV := .str [99, 101, 108, 108, 115]
theorem t_cells_l : Lit "cells" [99, 101, 108, 108, 115] := lit (by decide +kernel)
abbrev t_clash : PV := .str [99, 108, 97, 115, 104]
theorem t_clash_l : Lit "clash" [99, 108, 97, 115, 104] := lit (by decide +kernel)
abbrev t_full : PV := .str [102, 117, 108, 108]
theorem t_full_l : Lit "full" [102, 117, 108, 108] := lit (by decide +kernel)
abbrev t_left : PV := .str [108, 101, 102, 116]
theorem t_left_l : Lit "left" [108, 101, 102, 116] := lit (by decide +kernel)
abbrev t_missing : PV := .str [109, 105, 115, 115, 105, 110, 103]
theorem t_missing_l : Lit "missing" [109, 105, 115, 115, 105, 110, 103] := lit (by decide +kernel)
abbrev t_p : PV := .str [112]
theorem t_p_l : Lit "p" [112] := lit (by decide +kernel)
abbrev t_pins : PV := .str [112, 105, 110, 115]
theorem t_pins_l : Lit "pins" [112, 105, 110, 115] := lit (by decide +kernel)
abbrev t_row : PV := .str [114, 111, 119]
theorem t_row_l : Lit "row" [114, 111, 119] := lit (by decide +kernel)
abbrev t_salt : PV := .str [115, 97, 108, 116]
theorem t_salt_l : Lit "salt" [115, 97, 108, 116] := lit (by decide +kernel)
abbrev t_seed : PV := .str [115, 101, 101, 100]
theorem t_seed_l : Lit "seed" [115, 101, 101, 100] := lit (by decide +kernel)
abbrev t_spoilt : PV := .str [115, 112, 111, 105, 108, 116]
theorem t_spoilt_l : Lit "spoilt" [115, 112, 111, 105, 108, 116] := lit (by decide +kernel)
abbrev t_x0 : PV := .str []
theorem t_x0_l : Lit "" [] := lit (by decide +kernel)
abbrev t_z : PV := .str [122]
theorem t_z_l : Lit "z" [122] := lit (by decide +kernel)
/-! ### the values of the top -/
abbrev g_BASE : PV := .int 2000003
abbrev g_PRIME : PV := .int 2305843009213693951
abbrev g_SIGNS : PV := .str [48, 49, 50, 51, 52, 53, 54, 55, 56, 57, 97, 98, 99, 100, 101, 102]
def cs_StoreError : Nat → Option Bool := fun n => if n = 0 then some true else none
theorem cs_StoreError_n : ∀ c, cs_StoreError c = some true → c = 0 := fun c h => by
  unfold cs_StoreError at h
  split at h
  · assumption
  · cases h
/-! ### the classes' fields: 0 word, 1 name, 2 texts, 3 quota, 4 used, 5 sizes, 6 clock, 7 last, 8 pins -/
def okF : Nat → Nat → Bool
  | 0, f => [2, 3, 4, 5, 6, 7, 8].contains f
  | _, _ => false
@[simp] theorem okF_0_2 : okF 0 2 = true := rfl
@[simp] theorem okF_0_3 : okF 0 3 = true := rfl
@[simp] theorem okF_0_4 : okF 0 4 = true := rfl
@[simp] theorem okF_0_5 : okF 0 5 = true := rfl
@[simp] theorem okF_0_6 : okF 0 6 = true := rfl
@[simp] theorem okF_0_7 : okF 0 7 = true := rfl
@[simp] theorem okF_0_8 : okF 0 8 = true := rfl
/-- what the top has written -/
structure Txt (K : PySem.W.Frag) (mg : Str → Option Value) (T : Tab) (C_StoreError : Addr) : Prop where
  tok : T.Ok K
  ok_ : T.ok = okF
  f_clock : T.fnm[6]? = some ("clock" : Str)
  f_last : T.fnm[7]? = some ("last" : Str)
  f_name : T.fnm[1]? = some ("name" : Str)
  f_pins : T.fnm[8]? = some ("pins" : Str)
  f_quota : T.fnm[3]? = some ("quota" : Str)
  f_sizes : T.fnm[5]? = some ("sizes" : Str)
  f_texts : T.fnm[2]? = some ("texts" : Str)
  f_used : T.fnm[4]? = some ("used" : Str)
  f_word : T.fnm[0]? = some ("word" : Str)
  g_BASE : Glb K mg "BASE" g_BASE
  g_PRIME : Glb K mg "PRIME" g_PRIME
  g_SIGNS : Glb K mg "SIGNS" g_SIGNS
  b_abs : mg "abs" = none
  b_all : mg "all" = none
  b_int : mg "int" = none
  b_len : mg "len" = none
  b_ord : mg "ord" = none
  b_range : mg "range" = none
  b_set : mg "set" = none
  b_sorted : mg "sorted" = none
  b_str : mg "str" = none
  b_tuple : mg "tuple" = none
  n_StoreError : mg "StoreError" = some (.ref C_StoreError)
  x_StoreError : Caught K T (.ref C_StoreError) cs_StoreError
  y_StoreError : EXok K T 0 [0, 1]
section
variable {P : Program} {w : World} {K : PySem.W.Frag} {mg : Str → Option Value} {base : Heap} {T : Tab} {C_StoreError : Addr}
/-! #### number_of -/
abbrev s_number_of : Stmt := top 4
theorem sc_number_of : FnScope ["text", "found", "char"] ["text"] (defScope s_number_of) := ⟨rfl, rfl, rfl, by decide +kernel, rfl, by decide +kernel, by decide +kernel⟩
noncomputable def m_number_of_0 : SM := sAsg (mOp2 (binO .Add) (mBi bLen (mCons (mVar 0) mNil)) (mC (.int 7))) (tName 1)
noncomputable def m_number_of_1_b : SM := sAsg (mOp2 (binO .Mod) (mOp2 (binO .Add) (mOp2 (binO .Mult) (mVar 1) (mC g_BASE)) (mBi bOrd (mCons (mVar 2) mNil))) (mC g_PRIME)) (tName 1)
noncomputable def m_number_of_1 : SM := sFor (mIter (mVar 0)) (tName 2) m_number_of_1_b
noncomputable def m_number_of_2 : SM := sRet (mVar 1)
noncomputable def m_number_of : SM := sSeq m_number_of_0 (sSeq m_number_of_1 m_number_of_2)
noncomputable def F_number_of : Fn := runDef 1 3 m_number_of
theorem ok_number_of {f : Addr} {fd : FuncData} (F : L2.Fun K "number_of" "number_of" s_number_of f fd) (G : Txt K mg T C_StoreError) : FnOk P w K mg base (L2.CX P w) 1 f fd ["text"] (spF T K F_number_of) :=
  does (k := 0) F sc_number_of G.tok rfl rfl fun cdv A outer s H E c =>
    cons (sset c 1 (bin .Add (biLen G.b_len (ac (v 0) an)) e_int)) (cons (sfor c (it (v 0)) (gn c 2) (one (sset c 1 (bin .Mod (bin .Add (bin .Mult (v 1) (glb G.g_BASE)) (biOrd G.b_ord (ac (v 2) an))) (glb G.g_PRIME))))) (one (ret (v 1))))
/-! #### digest -/
abbrev s_digest : Stmt := top 5
theorem sc_digest : FnScope ["text", "number", "found", "_"] ["text"] (defScope s_digest) := ⟨rfl, rfl, rfl, by decide +kernel, rfl, by decide +kernel, by decide +kernel⟩
noncomputable def m_digest_0 : SM := sPar2 1 2 (mCons (mCall F_number_of (mCons (mVar 0) mNil)) (mCons (mC t_x0) mNil))
noncomputable def m_digest_1_b_0 : SM := sAsg (mOp2 (binO .Add) (mOp2 ixO (mC g_SIGNS) (mOp2 (binO .Mod) (mVar 1) (mC (.int 16)))) (mVar 2)) (tName 2)
noncomputable def m_digest_1_b_1 : SM := sAug 1 (augO .FloorDiv) (mC (.int 16))
noncomputable def m_digest_1_b : SM := sSeq m_digest_1_b_0 m_digest_1_b_1
noncomputable def m_digest_1 : SM := sFor (mRange (mCons (mC (.int 16)) mNil)) (tName 3) m_digest_1_b
noncomputable def m_digest_2 : SM := sRet (mVar 2)
noncomputable def m_digest : SM := sSeq m_digest_0 (sSeq m_digest_1 m_digest_2)
noncomputable def F_digest : Fn := runDef 1 4 m_digest
theorem ok_digest {f : Addr} {fd : FuncData} (F : L2.Fun K "digest" "digest" s_digest f fd) (G : Txt K mg T C_StoreError) (c_number_of : Cal P w K mg base T 1 "number_of" F_number_of) : FnOk P w K mg base (L2.CX P w) 2 f fd ["text"] (spF T K F_digest) :=
  does (k := 1) F sc_digest G.tok rfl rfl fun cdv A outer s H E c =>
    cons (par2 c 1 2 (ac (call c c_number_of (ac (v 0) an)) (ac (str t_x0_l) an))) (cons (sfor c (rng1 G.b_range e_int) (gn c 3) (cons (sset c 2 (bin .Add (ix c (glb G.g_SIGNS) (bin .Mod (v 1) e_int)) (v 2))) (one (saug c 1 .FloorDiv e_int)))) (one (ret (v 2))))
/-! #### Store.__init__ -/
abbrev s_Store___init__ : Stmt := inClass (top 10) 0
theorem sc_Store___init__ : FnScope ["self", "quota"] ["self", "quota"] (defScope s_Store___init__) := ⟨rfl, rfl, rfl, by decide +kernel, rfl, by decide +kernel, by decide +kernel⟩
noncomputable def m_Store___init___0 : SM := sAt okF 2 (mVar 0) (mRegD mPNil)
noncomputable def m_Store___init___1 : SM := sAt okF 3 (mVar 0) (mVar 1)
noncomputable def m_Store___init___2 : SM := sAt okF 4 (mVar 0) (mC (.int 0))
noncomputable def m_Store___init___3 : SM := sAt okF 5 (mVar 0) (mRegD mPNil)
noncomputable def m_Store___init___4 : SM := sAt okF 6 (mVar 0) (mC (.int 0))
noncomputable def m_Store___init___5 : SM := sAt okF 7 (mVar 0) (mRegD mPNil)
noncomputable def m_Store___init___6 : SM := sAt okF 8 (mVar 0) (mRegD mPNil)
noncomputable def m_Store___init__ : SM := sSeq m_Store___init___0 (sSeq m_Store___init___1 (sSeq m_Store___init___2 (sSeq m_Store___init___3 (sSeq m_Store___init___4 (sSeq m_Store___init___5 m_Store___init___6)))))
noncomputable def F_Store___init__ : Fn := runDef 2 2 m_Store___init__
theorem ok_Store___init__ {f : Addr} {fd : FuncData} (F : L2.Fun K "__init__" "Store.__init__" s_Store___init__ f fd) (G : Txt K mg T C_StoreError) : FnOk P w K mg base (L2.CX P w) 1 f fd ["self", "quota"] (spF T K F_Store___init__) :=
  does (k := 0) F sc_Store___init__ G.tok rfl rfl fun cdv A outer s H E c =>
    cons (fldS c 2 G.ok_ G.f_texts (v 0) dct0) (cons (fldS c 3 G.ok_ G.f_quota (v 0) (v 1)) (cons (fldS c 4 G.ok_ G.f_used (v 0) e_int) (cons (fldS c 5 G.ok_ G.f_sizes (v 0) dct0) (cons (fldS c 6 G.ok_ G.f_clock (v 0) e_int) (cons (fldS c 7 G.ok_ G.f_last (v 0) dct0) (one (fldS c 8 G.ok_ G.f_pins (v 0) dct0)))))))
/-! #### Store.touch -/
abbrev s_Store_touch : Stmt := inClass (top 10) 1
theorem sc_Store_touch : FnScope ["self", "name"] ["self", "name"] (defScope s_Store_touch) := ⟨rfl, rfl, rfl, by decide +kernel, rfl, by decide +kernel, by decide +kernel⟩
noncomputable def m_Store_touch_0 : SM := sAugAt okF 6 (augO .Add) (mVar 0) (mC (.int 1))
noncomputable def m_Store_touch_1 : SM := sAsg (mOp1 (atO okF 6) (mVar 0)) (tSub (mOp1 (atO okF 7) (mVar 0)) (mVar 1))
noncomputable def m_Store_touch : SM := sSeq m_Store_touch_0 m_Store_touch_1
noncomputable def F_Store_touch : Fn := runDef 2 2 m_Store_touch
theorem ok_Store_touch {f : Addr} {fd : FuncData} (F : L2.Fun K "touch" "Store.touch" s_Store_touch f fd) (G : Txt K mg T C_StoreError) : FnOk P w K mg base (L2.CX P w) 1 f fd ["self", "name"] (spF T K F_Store_touch) :=
  does (k := 0) F sc_Store_touch G.tok rfl rfl fun cdv A outer s H E c =>
    cons (fldA c 6 .Add G.ok_ G.f_clock (v 0) e_int) (one (asg (att c 6 G.ok_ G.f_clock (v 0)) (gsub c (att c 7 G.ok_ G.f_last (v 0)) (v 1))))
/-! #### Store.has -/
abbrev s_Store_has : Stmt := inClass (top 10) 4
theorem sc_Store_has : FnScope ["self", "name"] ["self", "name"] (defScope s_Store_has) := ⟨rfl, rfl, rfl, by decide +kernel, rfl, by decide +kernel, by decide +kernel⟩
noncomputable def m_Store_has : SM := sRet (mAndV (mOp2 (cmpV .In) (mVar 1) (mOp1 (atO okF 2) (mVar 0))) (mOp2 (cmpV .Eq) (mCall F_digest (mCons (mOp2 ixO (mOp1 (atO okF 2) (mVar 0)) (mVar 1)) mNil)) (mVar 1)))
noncomputable def F_Store_has : Fn := runDef 2 2 m_Store_has
theorem ok_Store_has {f : Addr} {fd : FuncData} (F : L2.Fun K "has" "Store.has" s_Store_has f fd) (G : Txt K mg T C_StoreError) (c_digest : Cal P w K mg base T 2 "digest" F_digest) : FnOk P w K mg base (L2.CX P w) 3 f fd ["self", "name"] (spF T K F_Store_has) :=
  does (k := 2) F sc_Store_has G.tok rfl rfl fun cdv A outer s H E c =>
    one (ret (e_and (cmp c .In (v 1) (att c 2 G.ok_ G.f_texts (v 0))) (bo1 (cmp c .Eq (call c c_digest (ac (ix c (att c 2 G.ok_ G.f_texts (v 0)) (v 1)) an)) (v 1)))))
/-! #### Store.drop -/
abbrev s_Store_drop : Stmt := inClass (top 10) 5
theorem sc_Store_drop : FnScope ["self", "name"] ["self", "name"] (defScope s_Store_drop) := ⟨rfl, rfl, rfl, by decide +kernel, rfl, by decide +kernel, by decide +kernel⟩
noncomputable def m_Store_drop_0 : SM := sExpr (mMeth noC ["dict"] bPop (mOp1 (atO okF 2) (mVar 0)) (mCons (mVar 1) mNil))
noncomputable def m_Store_drop_1 : SM := sExpr (mMeth noC ["dict"] bPop (mOp1 (atO okF 7) (mVar 0)) (mCons (mVar 1) (mCons (mC .non) mNil)))
noncomputable def m_Store_drop_2 : SM := sAugAt okF 4 (augO .Sub) (mVar 0) (mMeth noC ["dict"] bPop (mOp1 (atO okF 5) (mVar 0)) (mCons (mVar 1) (mCons (mC (.int 0)) mNil)))
noncomputable def m_Store_drop : SM := sSeq m_Store_drop_0 (sSeq m_Store_drop_1 m_Store_drop_2)
noncomputable def F_Store_drop : Fn := runDef 2 2 m_Store_drop
theorem ok_Store_drop {f : Addr} {fd : FuncData} (F : L2.Fun K "drop" "Store.drop" s_Store_drop f fd) (G : Txt K mg T C_StoreError) : FnOk P w K mg base (L2.CX P w) 1 f fd ["self", "name"] (spF T K F_Store_drop) :=
  does (k := 0) F sc_Store_drop G.tok rfl rfl fun cdv A outer s H E c =>
    cons (ex c (bm1 c (ks := ["dict"]) (fun k hk => by rw [List.mem_singleton.mp hk]; exact (bok_popD c)) (att c 2 G.ok_ G.f_texts (v 0)) (ac (v 1) an) _)) (cons (ex c (bm1 c (ks := ["dict"]) (fun k hk => by rw [List.mem_singleton.mp hk]; exact (bok_popD c)) (att c 7 G.ok_ G.f_last (v 0)) (ac (v 1) (ac e_non an)) _)) (one (fldA c 4 .Sub G.ok_ G.f_used (v 0) (bm1 c (ks := ["dict"]) (fun k hk => by rw [List.mem_singleton.mp hk]; exact (bok_popD c)) (att c 5 G.ok_ G.f_sizes (v 0)) (ac (v 1) (ac e_int an)) _))))
/-! #### Store.make_room -/
abbrev s_Store_make_room : Stmt := inClass (top 10) 6
theorem sc_Store_make_room : FnScope ["self", "size", "free", "name"] ["self", "size"] (defScope s_Store_make_room) := ⟨rfl, rfl, rfl, by decide +kernel, rfl, by decide +kernel, by decide +kernel⟩
noncomputable def m_Store_make_room_0 : SM := sAsg (mReg (mBiL bSorted (mCons (mFz (mLock (mOp1 (atO okF 2) (mVar 0)) (mLc (mKeys (mOp1 (atO okF 2) (mVar 0))) (tName 3) (mTest (mOp2 (cmpV .Eq) (mMeth noC ["dict"] bGet (mOp1 (atO okF 8) (mVar 0)) (mCons (mVar 3) (mCons (mC (.int 0)) mNil))) (mC (.int 0)))) (mTup (mCons (mOp2 ixO (mOp1 (atO okF 7) (mVar 0)) (mVar 3)) (mCons (mVar 3) mNil))) [3]))) mNil))) (tName 2)
noncomputable def m_Store_make_room_1_b : SM := sExpr (mOwn 0 F_Store_drop (mVar 0) (mCons (mOp2 ixO (mMeth noC ["list"] bPop (mVar 2) (mCons (mC (.int 0)) mNil)) (mC (.int 1))) mNil))
noncomputable def m_Store_make_room_1 : SM := sWhile (mAnd (mTest (mOp2 (cmpV .Gt) (mOp2 (binO .Add) (mOp1 (atO okF 4) (mVar 0)) (mVar 1)) (mOp1 (atO okF 3) (mVar 0)))) (mTruth (mVar 2))) m_Store_make_room_1_b
noncomputable def m_Store_make_room_2 : SM := sIf (mTest (mOp2 (cmpV .Gt) (mOp2 (binO .Add) (mOp1 (atO okF 4) (mVar 0)) (mVar 1)) (mOp1 (atO okF 3) (mVar 0)))) (sRaise 0 (mkF [0, 1]) (mCons (mC t_full) (mCons (mC t_x0) mNil))) sSkip
noncomputable def m_Store_make_room : SM := sSeq m_Store_make_room_0 (sSeq m_Store_make_room_1 m_Store_make_room_2)
noncomputable def F_Store_make_room : Fn := runDef 2 4 m_Store_make_room
theorem ok_Store_make_room {f : Addr} {fd : FuncData} (F : L2.Fun K "make_room" "Store.make_room" s_Store_make_room f fd) (G : Txt K mg T C_StoreError) (c_Store_drop : MCal P w K mg base T 1 0 "drop" F_Store_drop) (E_StoreError : EIok P w K mg base T "StoreError" 0 [0, 1]) : FnOk P w K mg base (L2.CX P w) 3 f fd ["self", "size"] (spF T K F_Store_make_room) :=
  does (k := 2) F sc_Store_make_room G.tok rfl rfl fun cdv A outer s H E c =>
    cons (sset c 2 (e_reg (biSort c G.b_sorted (ac (e_fz (e_lock (src := mOp1 (atO okF 2) (mVar 0)) (lc c (own := [(("name" : Str), 3)]) (i_keys (att c 2 G.ok_ G.f_texts (v 0))) (by kernel_rfl) (fun _ _ _ _ _ => gn c.blk 3) (fun _ _ _ _ _ => if1 (tcmp c.blk .Eq (bm1 c.blk (ks := ["dict"]) (fun k hk => by rw [List.mem_singleton.mp hk]; exact (bok_get c.blk)) (att c.blk 8 G.ok_ G.f_pins (v 0)) (ac (v 3) (ac e_int an)) _) e_int)) (fun _ _ _ _ _ => tup (ac (ix c.blk (att c.blk 7 G.ok_ G.f_last (v 0)) (v 3)) (ac (v 3) an)))))) an)))) (cons (swh c (PW.pt (ta (tcmp c .Gt (bin .Add (att c 4 G.ok_ G.f_used (v 0)) (v 1)) (att c 3 G.ok_ G.f_quota (v 0))) (ta1 (tr (v 2))))) (one (ex c (meth c c_Store_drop (v 0) (ac (ix c (bm1 c (ks := ["list"]) (fun k hk => by rw [List.mem_singleton.mp hk]; exact bok_popL) (v 2) (ac e_int an) _) e_int) an) _)))) (one (sif (tcmp c .Gt (bin .Add (att c 4 G.ok_ G.f_used (v 0)) (v 1)) (att c 3 G.ok_ G.f_quota (v 0))) (one (raiseI c E_StoreError (ac (str t_full_l) (ac (str t_x0_l) an)))) nil)))
/-! #### Store.put -/
abbrev s_Store_put : Stmt := inClass (top 10) 2
theorem sc_Store_put : FnScope ["self", "text", "name"] ["self", "text"] (defScope s_Store_put) := ⟨rfl, rfl, rfl, by decide +kernel, rfl, by decide +kernel, by decide +kernel⟩
noncomputable def m_Store_put_0 : SM := sAsg (mCall F_digest (mCons (mVar 1) mNil)) (tName 2)
noncomputable def m_Store_put_1 : SM := sIf (mNot (mTruth (mOwn 0 F_Store_has (mVar 0) (mCons (mVar 2) mNil)))) (sSeq (sIf (mTest (mOp2 (cmpV .In) (mVar 2) (mOp1 (atO okF 2) (mVar 0)))) (sExpr (mOwn 0 F_Store_drop (mVar 0) (mCons (mVar 2) mNil))) sSkip) (sSeq (sExpr (mOwn 0 F_Store_make_room (mVar 0) (mCons (mBi bLen (mCons (mVar 1) mNil)) mNil))) (sSeq (sAsg (mVar 1) (tSub (mOp1 (atO okF 2) (mVar 0)) (mVar 2))) (sSeq (sAsg (mBi bLen (mCons (mVar 1) mNil)) (tSub (mOp1 (atO okF 5) (mVar 0)) (mVar 2))) (sAugAt okF 4 (augO .Add) (mVar 0) (mBi bLen (mCons (mVar 1) mNil))))))) sSkip
noncomputable def m_Store_put_2 : SM := sExpr (mOwn 0 F_Store_touch (mVar 0) (mCons (mVar 2) mNil))
noncomputable def m_Store_put_3 : SM := sRet (mVar 2)
noncomputable def m_Store_put : SM := sSeq m_Store_put_0 (sSeq m_Store_put_1 (sSeq m_Store_put_2 m_Store_put_3))
noncomputable def F_Store_put : Fn := runDef 2 3 m_Store_put
theorem ok_Store_put {f : Addr} {fd : FuncData} (F : L2.Fun K "put" "Store.put" s_Store_put f fd) (G : Txt K mg T C_StoreError) (c_Store_drop : MCal P w K mg base T 1 0 "drop" F_Store_drop) (c_Store_has : MCal P w K mg base T 3 0 "has" F_Store_has) (c_Store_make_room : MCal P w K mg base T 3 0 "make_room" F_Store_make_room) (c_Store_touch : MCal P w K mg base T 1 0 "touch" F_Store_touch) (c_digest : Cal P w K mg base T 2 "digest" F_digest) : FnOk P w K mg base (L2.CX P w) 4 f fd ["self", "text"] (spF T K F_Store_put) :=
  does (k := 3) F sc_Store_put G.tok rfl rfl fun cdv A outer s H E c =>
    cons (sset c 2 (call c c_digest (ac (v 1) an))) (cons (sif (nt (tr (meth c c_Store_has (v 0) (ac (v 2) an) _))) (cons (sif (tcmp c .In (v 2) (att c 2 G.ok_ G.f_texts (v 0))) (one (ex c (meth c c_Store_drop (v 0) (ac (v 2) an) _))) nil) (cons (ex c (meth c c_Store_make_room (v 0) (ac (biLen G.b_len (ac (v 1) an)) an) _)) (cons (asg (v 1) (gsub c (att c 2 G.ok_ G.f_texts (v 0)) (v 2))) (cons (asg (biLen G.b_len (ac (v 1) an)) (gsub c (att c 5 G.ok_ G.f_sizes (v 0)) (v 2))) (one (fldA c 4 .Add G.ok_ G.f_used (v 0) (biLen G.b_len (ac (v 1) an)))))))) nil) (cons (ex c (meth c c_Store_touch (v 0) (ac (v 2) an) _)) (one (ret (v 2)))))
/-! #### Store.get -/
abbrev s_Store_get : Stmt := inClass (top 10) 3
theorem sc_Store_get : FnScope ["self", "name"] ["self", "name"] (defScope s_Store_get) := ⟨rfl, rfl, rfl, by decide +kernel, rfl, by decide +kernel, by decide +kernel⟩
noncomputable def m_Store_get_0 : SM := sIf (mTest (mOp2 (cmpV .NotIn) (mVar 1) (mOp1 (atO okF 2) (mVar 0)))) (sRaise 0 (mkF [0, 1]) (mCons (mC t_missing) (mCons (mVar 1) mNil))) sSkip
noncomputable def m_Store_get_1 : SM := sIf (mTest (mOp2 (cmpV .NotEq) (mCall F_digest (mCons (mOp2 ixO (mOp1 (atO okF 2) (mVar 0)) (mVar 1)) mNil)) (mVar 1))) (sRaise 0 (mkF [0, 1]) (mCons (mC t_spoilt) (mCons (mVar 1) mNil))) sSkip
noncomputable def m_Store_get_2 : SM := sExpr (mOwn 0 F_Store_touch (mVar 0) (mCons (mVar 1) mNil))
noncomputable def m_Store_get_3 : SM := sRet (mOp2 ixO (mOp1 (atO okF 2) (mVar 0)) (mVar 1))
noncomputable def m_Store_get : SM := sSeq m_Store_get_0 (sSeq m_Store_get_1 (sSeq m_Store_get_2 m_Store_get_3))
noncomputable def F_Store_get : Fn := runDef 2 2 m_Store_get
theorem ok_Store_get {f : Addr} {fd : FuncData} (F : L2.Fun K "get" "Store.get" s_Store_get f fd) (G : Txt K mg T C_StoreError) (c_Store_touch : MCal P w K mg base T 1 0 "touch" F_Store_touch) (c_digest : Cal P w K mg base T 2 "digest" F_digest) (E_StoreError : EIok P w K mg base T "StoreError" 0 [0, 1]) : FnOk P w K mg base (L2.CX P w) 3 f fd ["self", "name"] (spF T K F_Store_get) :=
  does (k := 2) F sc_Store_get G.tok rfl rfl fun cdv A outer s H E c =>
    cons (sif (tcmp c .NotIn (v 1) (att c 2 G.ok_ G.f_texts (v 0))) (one (raiseI c E_StoreError (ac (str t_missing_l) (ac (v 1) an)))) nil) (cons (sif (tcmp c .NotEq (call c c_digest (ac (ix c (att c 2 G.ok_ G.f_texts (v 0)) (v 1)) an)) (v 1)) (one (raiseI c E_StoreError (ac (str t_spoilt_l) (ac (v 1) an)))) nil) (cons (ex c (meth c c_Store_touch (v 0) (ac (v 1) an) _)) (one (ret (ix c (att c 2 G.ok_ G.f_texts (v 0)) (v 1))))))
/-! #### Store.pin -/
abbrev s_Store_pin : Stmt := inClass (top 10) 7
theorem sc_Store_pin : FnScope ["self", "names", "name"] ["self", "names"] (defScope s_Store_pin) := ⟨rfl, rfl, rfl, by decide +kernel, rfl, by decide +kernel, by decide +kernel⟩
noncomputable def m_Store_pin_0_b : SM := sAsg (mOp2 (binO .Add) (mMeth noC ["dict"] bGet (mOp1 (atO okF 8) (mVar 0)) (mCons (mVar 2) (mCons (mC (.int 0)) mNil))) (mC (.int 1))) (tSub (mOp1 (atO okF 8) (mVar 0)) (mVar 2))
noncomputable def m_Store_pin : SM := sFor (mIter (mVar 1)) (tName 2) m_Store_pin_0_b
noncomputable def F_Store_pin : Fn := runDef 2 3 m_Store_pin
theorem ok_Store_pin {f : Addr} {fd : FuncData} (F : L2.Fun K "pin" "Store.pin" s_Store_pin f fd) (G : Txt K mg T C_StoreError) : FnOk P w K mg base (L2.CX P w) 1 f fd ["self", "names"] (spF T K F_Store_pin) :=
  does (k := 0) F sc_Store_pin G.tok rfl rfl fun cdv A outer s H E c =>
    one (sfor c (it (v 1)) (gn c 2) (one (asg (bin .Add (bm1 c (ks := ["dict"]) (fun k hk => by rw [List.mem_singleton.mp hk]; exact (bok_get c)) (att c 8 G.ok_ G.f_pins (v 0)) (ac (v 2) (ac e_int an)) _) e_int) (gsub c (att c 8 G.ok_ G.f_pins (v 0)) (v 2)))))
/-! #### Store.unpin -/
abbrev s_Store_unpin : Stmt := inClass (top 10) 8
theorem sc_Store_unpin : FnScope ["self", "names", "name"] ["self", "names"] (defScope s_Store_unpin) := ⟨rfl, rfl, rfl, by decide +kernel, rfl, by decide +kernel, by decide +kernel⟩
noncomputable def m_Store_unpin_0_b_0 : SM := sAsg (mOp2 (binO .Sub) (mMeth noC ["dict"] bGet (mOp1 (atO okF 8) (mVar 0)) (mCons (mVar 2) (mCons (mC (.int 0)) mNil))) (mC (.int 1))) (tSub (mOp1 (atO okF 8) (mVar 0)) (mVar 2))
noncomputable def m_Store_unpin_0_b_1 : SM := sIf (mTest (mOp2 (cmpV .LtE) (mOp2 ixO (mOp1 (atO okF 8) (mVar 0)) (mVar 2)) (mC (.int 0)))) (sExpr (mMeth noC ["dict"] bPop (mOp1 (atO okF 8) (mVar 0)) (mCons (mVar 2) mNil))) sSkip
noncomputable def m_Store_unpin_0_b : SM := sSeq m_Store_unpin_0_b_0 m_Store_unpin_0_b_1
noncomputable def m_Store_unpin : SM := sFor (mIter (mVar 1)) (tName 2) m_Store_unpin_0_b
noncomputable def F_Store_unpin : Fn := runDef 2 3 m_Store_unpin
theorem ok_Store_unpin {f : Addr} {fd : FuncData} (F : L2.Fun K "unpin" "Store.unpin" s_Store_unpin f fd) (G : Txt K mg T C_StoreError) : FnOk P w K mg base (L2.CX P w) 1 f fd ["self", "names"] (spF T K F_Store_unpin) :=
  does (k := 0) F sc_Store_unpin G.tok rfl rfl fun cdv A outer s H E c =>
    one (sfor c (it (v 1)) (gn c 2) (cons (asg (bin .Sub (bm1 c (ks := ["dict"]) (fun k hk => by rw [List.mem_singleton.mp hk]; exact (bok_get c)) (att c 8 G.ok_ G.f_pins (v 0)) (ac (v 2) (ac e_int an)) _) e_int) (gsub c (att c 8 G.ok_ G.f_pins (v 0)) (v 2))) (one (sif (tcmp c .LtE (ix c (att c 8 G.ok_ G.f_pins (v 0)) (v 2)) e_int) (one (ex c (bm1 c (ks := ["dict"]) (fun k hk => by rw [List.mem_singleton.mp hk]; exact (bok_popD c)) (att c 8 G.ok_ G.f_pins (v 0)) (ac (v 2) an) _))) nil))))
/-! #### Store.collect -/
abbrev s_Store_collect : Stmt := inClass (top 10) 9
theorem sc_Store_collect : FnScope ["self", "manifests", "held", "manifest", "name", "gone", "_"] ["self", "manifests"] (defScope s_Store_collect) := ⟨rfl, rfl, rfl, by decide +kernel, rfl, by decide +kernel, by decide +kernel⟩
noncomputable def m_Store_collect_0 : SM := sAsg (mRegD mPNil) (tName 2)
noncomputable def m_Store_collect_1_b : SM := sExpr (mMeth noC ["dict"] bUpdate (mVar 2) (mCons (mFzD (mDc (mIter (mVar 3)) (tTup (tCons (tName 6) (tCons (tName 4) tNil))) mYes (mVar 4) (mC (.bl true)) [6, 4])) mNil))
noncomputable def m_Store_collect_1 : SM := sFor (mIter (mVar 1)) (tName 3) m_Store_collect_1_b
noncomputable def m_Store_collect_2 : SM := sAsg (mFz (mBiL bSorted (mCons (mFz (mLock (mOp1 (atO okF 2) (mVar 0)) (mLc (mKeys (mOp1 (atO okF 2) (mVar 0))) (tName 4) (mAnd (mTest (mOp2 (cmpV .NotIn) (mVar 4) (mVar 2))) (mTest (mOp2 (cmpV .Eq) (mMeth noC ["dict"] bGet (mOp1 (atO okF 8) (mVar 0)) (mCons (mVar 4) (mCons (mC (.int 0)) mNil))) (mC (.int 0))))) (mVar 4) [4]))) mNil))) (tName 5)
noncomputable def m_Store_collect_3_b : SM := sExpr (mOwn 0 F_Store_drop (mVar 0) (mCons (mVar 4) mNil))
noncomputable def m_Store_collect_3 : SM := sFor (mIter (mVar 5)) (tName 4) m_Store_collect_3_b
noncomputable def m_Store_collect_4 : SM := sRet (mVar 5)
noncomputable def m_Store_collect : SM := sSeq m_Store_collect_0 (sSeq m_Store_collect_1 (sSeq m_Store_collect_2 (sSeq m_Store_collect_3 m_Store_collect_4)))
noncomputable def F_Store_collect : Fn := runDef 2 7 m_Store_collect
theorem ok_Store_collect {f : Addr} {fd : FuncData} (F : L2.Fun K "collect" "Store.collect" s_Store_collect f fd) (G : Txt K mg T C_StoreError) (c_Store_drop : MCal P w K mg base T 1 0 "drop" F_Store_drop) : FnOk P w K mg base (L2.CX P w) 2 f fd ["self", "manifests"] (spF T K F_Store_collect) :=
  does (k := 1) F sc_Store_collect G.tok rfl rfl fun cdv A outer s H E c =>
    cons (sset c 2 dct0) (cons (sfor c (it (v 1)) (gn c 3) (one (ex c (bm1 c (ks := ["dict"]) (fun k hk => by rw [List.mem_singleton.mp hk]; exact bok_update) (v 2) (ac (e_fzD (dc c (own := [(("_" : Str), 6), (("name" : Str), 4)]) (it (v 3)) (by kernel_rfl) (fun _ _ _ _ _ => gtup c.blk (gcons (gn c.blk 6) (gcons (gn c.blk 4) gnil)) (by rfl) (tcons_len (tcons_len tnil_len))) (fun _ _ _ _ _ => yes) (fun _ _ _ _ _ => v 4) (fun _ _ _ _ _ => e_bl))) an) _)))) (cons (sset c 5 (e_fz (biSort c G.b_sorted (ac (e_fz (e_lock (src := mOp1 (atO okF 2) (mVar 0)) (lc c (own := [(("name" : Str), 4)]) (i_keys (att c 2 G.ok_ G.f_texts (v 0))) (by kernel_rfl) (fun _ _ _ _ _ => gn c.blk 4) (fun _ _ _ _ _ => if1 (PW.pt (ta (tcmp c.blk .NotIn (v 4) (v 2)) (ta1 (tcmp c.blk .Eq (bm1 c.blk (ks := ["dict"]) (fun k hk => by rw [List.mem_singleton.mp hk]; exact (bok_get c.blk)) (att c.blk 8 G.ok_ G.f_pins (v 0)) (ac (v 4) (ac e_int an)) _) e_int))))) (fun _ _ _ _ _ => v 4)))) an)))) (cons (sfor c (it (v 5)) (gn c 4) (one (ex c (meth c c_Store_drop (v 0) (ac (v 4) an) _)))) (one (ret (v 5))))))
/-! #### Store.spoilt -/
abbrev s_Store_spoilt : Stmt := inClass (top 10) 10
theorem sc_Store_spoilt : FnScope ["self", "name", "text"] ["self"] (defScope s_Store_spoilt) := ⟨rfl, rfl, rfl, by decide +kernel, rfl, by decide +kernel, by decide +kernel⟩
noncomputable def m_Store_spoilt : SM := sRet (mFz (mBiL bSorted (mCons (mFz (mLock (mOp1 (atO okF 2) (mVar 0)) (mLc (mItems (mOp1 (atO okF 2) (mVar 0))) (tTup (tCons (tName 1) (tCons (tName 2) tNil))) (mTest (mOp2 (cmpV .NotEq) (mCall F_digest (mCons (mVar 2) mNil)) (mVar 1))) (mVar 1) [1, 2]))) mNil)))
noncomputable def F_Store_spoilt : Fn := runDef 1 3 m_Store_spoilt
theorem ok_Store_spoilt {f : Addr} {fd : FuncData} (F : L2.Fun K "spoilt" "Store.spoilt" s_Store_spoilt f fd) (G : Txt K mg T C_StoreError) (c_digest : Cal P w K mg base T 2 "digest" F_digest) : FnOk P w K mg base (L2.CX P w) 3 f fd ["self"] (spF T K F_Store_spoilt) :=
  does (k := 2) F sc_Store_spoilt G.tok rfl rfl fun cdv A outer s H E c =>
    one (ret (e_fz (biSort c G.b_sorted (ac (e_fz (e_lock (src := mOp1 (atO okF 2) (mVar 0)) (lc c (own := [(("name" : Str), 1), (("text" : Str), 2)]) (i_items (att c 2 G.ok_ G.f_texts (v 0))) (by kernel_rfl) (fun _ _ _ _ _ => gtup c.blk (gcons (gn c.blk 1) (gcons (gn c.blk 2) gnil)) (by rfl) (tcons_len (tcons_len tnil_len))) (fun _ _ _ _ _ => if1 (tcmp c.blk .NotEq (call c.blk c_digest (ac (v 2) an)) (v 1))) (fun _ _ _ _ _ => v 1)))) an))))
/-! #### _law_tape -/
abbrev s__law_tape : Stmt := top 12
theorem sc__law_tape : FnScope ["script", "cell", "cells", "seed"] ["script"] (defScope s__law_tape) := ⟨rfl, rfl, rfl, by decide +kernel, rfl, by decide +kernel, by decide +kernel⟩
noncomputable def m__law_tape_0 : SM := sAsg (mFz (mLc (mIter (mVar 0)) (tName 1) mYes (mBi bAbs (mCons (mBi bInt (mCons (mVar 1) mNil)) mNil)) [1])) (tName 2)
noncomputable def m__law_tape_1 : SM := sAsg (mC (.int 7)) (tName 3)
noncomputable def m__law_tape_2_b : SM := sAsg (mOp2 (binO .Mod) (mBi bInt (mCons (mOp2 (binO .Add) (mOp2 (binO .Mult) (mVar 3) (mC (.int 31))) (mVar 1)) mNil)) (mC (.int 2147483647))) (tName 3)
noncomputable def m__law_tape_2 : SM := sFor (mIter (mVar 2)) (tName 1) m__law_tape_2_b
noncomputable def m__law_tape_3 : SM := sRet (mRegD (mDisp (mPCons (mC t_cells) (mVar 2) (mPCons (mC t_at) (mC (.int 0)) (mPCons (mC t_left) (mC (.int 0)) (mPCons (mC t_seed) (mVar 3) (mPCons (mC t_salt) (mC (.int 0)) mPNil)))))))
noncomputable def m__law_tape : SM := sSeq m__law_tape_0 (sSeq m__law_tape_1 (sSeq m__law_tape_2 m__law_tape_3))
noncomputable def F__law_tape : Fn := runDef 1 4 m__law_tape
theorem ok__law_tape {f : Addr} {fd : FuncData} (F : L2.Fun K "_law_tape" "_law_tape" s__law_tape f fd) (G : Txt K mg T C_StoreError) : FnOk P w K mg base (L2.CX P w) 1 f fd ["script"] (spF T K F__law_tape) :=
  does (k := 0) F sc__law_tape G.tok rfl rfl fun cdv A outer s H E c =>
    cons (ssetLcF c 2 (own := [(("cell" : Str), 1)]) (it (v 0)) (by kernel_rfl) (fun _ _ _ _ _ => gn c.blk 1) (fun _ _ _ _ _ => yes) (fun _ _ _ _ _ => biAbs G.b_abs (ac (biInt G.b_int (ac (v 1) an)) an))) (cons (sset c 3 e_int) (cons (sfor c (it (v 2)) (gn c 1) (one (sset c 3 (bin .Mod (biInt G.b_int (ac (bin .Add (bin .Mult (v 3) e_int) (v 1)) an)) e_int)))) (one (ret (disp (dpc (str t_cells_l) (v 2) (dpc (str t_at_l) e_int (dpc (str t_left_l) e_int (dpc (str t_seed_l) (v 3) (dpc (str t_salt_l) e_int dpn))))))))))
/-! #### _law_take -/
abbrev s__law_take : Stmt := top 13
theorem sc__law_take : FnScope ["tape", "many", "drawn", "mixed"] ["tape", "many"] (defScope s__law_take) := ⟨rfl, rfl, rfl, by decide +kernel, rfl, by decide +kernel, by decide +kernel⟩
noncomputable def m__law_take_0 : SM := sIf (mAnd (mTest (mOp2 (cmpV .Eq) (mOp2 ixO (mVar 0) (mC t_left)) (mC (.int 0)))) (mTest (mOp2 (cmpV .Lt) (mOp2 ixO (mVar 0) (mC t_at)) (mBi bLen (mCons (mOp2 ixO (mVar 0) (mC t_cells)) mNil))))) (sSeq (sAsg (mOp2 ixO (mOp2 ixO (mVar 0) (mC t_cells)) (mOp2 ixO (mVar 0) (mC t_at))) (tSub (mVar 0) (mC t_left))) (sAsg (mOp2 (binO .Add) (mOp2 ixO (mVar 0) (mC t_at)) (mC (.int 1))) (tSub (mVar 0) (mC t_at)))) sSkip
noncomputable def m__law_take_1 : SM := sIf (mTest (mOp2 (cmpV .Gt) (mOp2 ixO (mVar 0) (mC t_left)) (mC (.int 0)))) (sSeq (sAsg (mOp2 (binO .Mod) (mBi bInt (mCons (mOp2 ixO (mVar 0) (mC t_left)) mNil)) (mVar 1)) (tName 2)) (sSeq (sAsg (mOp2 (binO .FloorDiv) (mOp2 ixO (mVar 0) (mC t_left)) (mVar 1)) (tSub (mVar 0) (mC t_left))) (sRet (mVar 2)))) sSkip
noncomputable def m__law_take_2 : SM := sAsg (mOp2 (binO .Add) (mOp2 ixO (mVar 0) (mC t_salt)) (mC (.int 1))) (tSub (mVar 0) (mC t_salt))
noncomputable def m__law_take_3 : SM := sAsg (mOp2 (binO .Mod) (mBi bInt (mCons (mOp2 (binO .Add) (mOp2 (binO .Mult) (mOp2 ixO (mVar 0) (mC t_seed)) (mC (.int 48271))) (mOp2 (binO .Mult) (mOp2 ixO (mVar 0) (mC t_salt)) (mC (.int 69621)))) mNil)) (mC (.int 2147483647))) (tName 3)
noncomputable def m__law_take_4 : SM := sAsg (mOp2 (binO .Mod) (mBi bInt (mCons (mOp2 (binO .Add) (mOp2 (binO .Add) (mOp2 (binO .Mult) (mVar 3) (mVar 3)) (mOp2 (binO .Mult) (mOp2 ixO (mVar 0) (mC t_salt)) (mC (.int 40692)))) (mC (.int 12345))) mNil)) (mC (.int 2147483399))) (tName 3)
noncomputable def m__law_take_5 : SM := sRet (mOp2 (binO .Mod) (mBi bInt (mCons (mVar 3) mNil)) (mVar 1))
noncomputable def m__law_take : SM := sSeq m__law_take_0 (sSeq m__law_take_1 (sSeq m__law_take_2 (sSeq m__law_take_3 (sSeq m__law_take_4 m__law_take_5))))
noncomputable def F__law_take : Fn := runDef 2 4 m__law_take
theorem ok__law_take {f : Addr} {fd : FuncData} (F : L2.Fun K "_law_take" "_law_take" s__law_take f fd) (G : Txt K mg T C_StoreError) : FnOk P w K mg base (L2.CX P w) 1 f fd ["tape", "many"] (spF T K F__law_take) :=
  does (k := 0) F sc__law_take G.tok rfl rfl fun cdv A outer s H E c =>
    cons (sif (PW.pt (ta (tcmp c .Eq (ix c (v 0) (str t_left_l)) e_int) (ta1 (tcmp c .Lt (ix c (v 0) (str t_at_l)) (biLen G.b_len (ac (ix c (v 0) (str t_cells_l)) an)))))) (cons (asg (ix c (ix c (v 0) (str t_cells_l)) (ix c (v 0) (str t_at_l))) (gsub c (v 0) (str t_left_l))) (one (asg (bin .Add (ix c (v 0) (str t_at_l)) e_int) (gsub c (v 0) (str t_at_l))))) nil) (cons (sif (tcmp c .Gt (ix c (v 0) (str t_left_l)) e_int) (cons (sset c 2 (bin .Mod (biInt G.b_int (ac (ix c (v 0) (str t_left_l)) an)) (v 1))) (cons (asg (bin .FloorDiv (ix c (v 0) (str t_left_l)) (v 1)) (gsub c (v 0) (str t_left_l))) (one (ret (v 2))))) nil) (cons (asg (bin .Add (ix c (v 0) (str t_salt_l)) e_int) (gsub c (v 0) (str t_salt_l))) (cons (sset c 3 (bin .Mod (biInt G.b_int (ac (bin .Add (bin .Mult (ix c (v 0) (str t_seed_l)) e_int) (bin .Mult (ix c (v 0) (str t_salt_l)) e_int)) an)) e_int)) (cons (sset c 3 (bin .Mod (biInt G.b_int (ac (bin .Add (bin .Add (bin .Mult (v 3) (v 3)) (bin .Mult (ix c (v 0) (str t_salt_l)) e_int)) e_int) an)) e_int)) (one (ret (bin .Mod (biInt G.b_int (ac (v 3) an)) (v 1))))))))
/-! #### _law_digest -/
abbrev s__law_digest : Stmt := top 14
theorem sc__law_digest : FnScope ["text", "found", "told", "sign", "k"] ["text"] (defScope s__law_digest) := ⟨rfl, rfl, rfl, by decide +kernel, rfl, by decide +kernel, by decide +kernel⟩
noncomputable def m__law_digest_0 : SM := sPar2 1 2 (mCons (mOp2 (binO .Add) (mBi bLen (mCons (mVar 0) mNil)) (mC (.int 7))) (mCons (mC t_x0) mNil))
noncomputable def m__law_digest_1_b : SM := sAsg (mOp2 (binO .Mod) (mBi bInt (mCons (mOp2 (binO .Add) (mOp2 (binO .Mult) (mVar 1) (mC (.int 2000003))) (mBi bOrd (mCons (mVar 3) mNil))) mNil)) (mC (.int 2305843009213693951))) (tName 1)
noncomputable def m__law_digest_1 : SM := sFor (mIter (mVar 0)) (tName 3) m__law_digest_1_b
noncomputable def m__law_digest_2_b_0 : SM := sAsg (mOp2 (binO .Add) (mOp2 ixO (mC t_0123456789ab) (mOp2 (binO .Mod) (mBi bInt (mCons (mVar 1) mNil)) (mC (.int 16)))) (mVar 2)) (tName 2)
noncomputable def m__law_digest_2_b_1 : SM := sAsg (mOp2 (binO .FloorDiv) (mVar 1) (mC (.int 16))) (tName 1)
noncomputable def m__law_digest_2_b : SM := sSeq m__law_digest_2_b_0 m__law_digest_2_b_1
noncomputable def m__law_digest_2 : SM := sFor (mRange (mCons (mC (.int 16)) mNil)) (tName 4) m__law_digest_2_b
noncomputable def m__law_digest_3 : SM := sRet (mVar 2)
noncomputable def m__law_digest : SM := sSeq m__law_digest_0 (sSeq m__law_digest_1 (sSeq m__law_digest_2 m__law_digest_3))
noncomputable def F__law_digest : Fn := runDef 1 5 m__law_digest
theorem ok__law_digest {f : Addr} {fd : FuncData} (F : L2.Fun K "_law_digest" "_law_digest" s__law_digest f fd) (G : Txt K mg T C_StoreError) : FnOk P w K mg base (L2.CX P w) 1 f fd ["text"] (spF T K F__law_digest) :=
  does (k := 0) F sc__law_digest G.tok rfl rfl fun cdv A outer s H E c =>
    cons (par2 c 1 2 (ac (bin .Add (biLen G.b_len (ac (v 0) an)) e_int) (ac (str t_x0_l) an))) (cons (sfor c (it (v 0)) (gn c 3) (one (sset c 1 (bin .Mod (biInt G.b_int (ac (bin .Add (bin .Mult (v 1) e_int) (biOrd G.b_ord (ac (v 3) an))) an)) e_int)))) (cons (sfor c (rng1 G.b_range e_int) (gn c 4) (cons (sset c 2 (bin .Add (ix c (str t_0123456789ab_l) (bin .Mod (biInt G.b_int (ac (v 1) an)) e_int)) (v 2))) (one (sset c 1 (bin .FloorDiv (v 1) e_int))))) (one (ret (v 2)))))
/-! #### _law_name -/
abbrev s__law_name : Stmt := top 15
theorem sc__law_name : FnScope ["met", "text", "told"] ["met", "text"] (defScope s__law_name) := ⟨rfl, rfl, rfl, by decide +kernel, rfl, by decide +kernel, by decide +kernel⟩
noncomputable def m__law_name_0 : SM := sAsg (mCall F__law_digest (mCons (mVar 1) mNil)) (tName 2)
noncomputable def m__law_name_1 : SM := sIf (mTest (mOp2 (cmpV .NotEq) (mMeth noC ["dict"] bGet (mVar 0) (mCons (mVar 2) (mCons (mVar 1) mNil))) (mVar 1))) (sAsg (mVar 2) (tSub (mVar 0) (mC t_clash))) sSkip
noncomputable def m__law_name_2 : SM := sAsg (mVar 1) (tSub (mVar 0) (mVar 2))
noncomputable def m__law_name_3 : SM := sRet (mVar 2)
noncomputable def m__law_name : SM := sSeq m__law_name_0 (sSeq m__law_name_1 (sSeq m__law_name_2 m__law_name_3))
noncomputable def F__law_name : Fn := runDef 2 3 m__law_name
theorem ok__law_name {f : Addr} {fd : FuncData} (F : L2.Fun K "_law_name" "_law_name" s__law_name f fd) (G : Txt K mg T C_StoreError) (c__law_digest : Cal P w K mg base T 1 "_law_digest" F__law_digest) : FnOk P w K mg base (L2.CX P w) 2 f fd ["met", "text"] (spF T K F__law_name) :=
  does (k := 1) F sc__law_name G.tok rfl rfl fun cdv A outer s H E c =>
    cons (sset c 2 (call c c__law_digest (ac (v 1) an))) (cons (sif (tcmp c .NotEq (bm1 c (ks := ["dict"]) (fun k hk => by rw [List.mem_singleton.mp hk]; exact (bok_get c)) (v 0) (ac (v 2) (ac (v 1) an)) _) (v 1)) (one (asg (v 2) (gsub c (v 0) (str t_clash_l)))) nil) (cons (asg (v 1) (gsub c (v 0) (v 2))) (one (ret (v 2)))))
/-! #### _law_put -/
abbrev s__law_put : Stmt := top 16
theorem sc__law_put : FnScope ["store", "text", "model", "room", "name", "told", "e", "free", "gone", "one"] ["store", "text", "model", "room"] (defScope s__law_put) := ⟨rfl, rfl, rfl, by decide +kernel, rfl, by decide +kernel, by decide +kernel⟩
noncomputable def m__law_put_0 : SM := sAsg (mCall F__law_digest (mCons (mVar 1) mNil)) (tName 4)
noncomputable def m__law_put_1 : SM := sTryA (sAsg (mOwn 0 F_Store_put (mVar 0) (mCons (mVar 1) mNil)) (tName 5)) cs_StoreError 6 (sAsg (mExAt 6 0) (tName 5))
noncomputable def m__law_put_2 : SM := sIf (mTest (mOp2 (cmpV .In) (mVar 1) (mOp2 ixO (mVar 2) (mC t_row)))) (sSeq (sAsg (mOp2 (binO .Add) (mFz (mLc (mIter (mOp2 ixO (mVar 2) (mC t_row))) (tName 9) (mTest (mOp2 (cmpV .NotEq) (mVar 9) (mVar 1))) (mVar 9) [9])) (mFz (mNewL (mCons (mVar 1) mNil)))) (tSub (mVar 2) (mC t_row))) (sRet (mOp2 (cmpV .Eq) (mVar 5) (mVar 4)))) sSkip
noncomputable def m__law_put_3 : SM := sAsg (mFz (mLc (mIter (mOp2 ixO (mVar 2) (mC t_row))) (tName 9) (mTest (mOp2 (cmpV .Eq) (mMeth noC ["dict"] bGet (mOp2 ixO (mVar 2) (mC t_pins)) (mCons (mVar 9) (mCons (mC (.int 0)) mNil))) (mC (.int 0)))) (mVar 9) [9])) (tName 7)
noncomputable def m__law_put_4 : SM := sIf (mAnd (mTest (mOp2 (cmpV .GtE) (mBi bLen (mCons (mOp2 ixO (mVar 2) (mC t_row)) mNil)) (mVar 3))) (mTest (mOp2 (cmpV .Eq) (mVar 7) (mFz (mNewL mNil))))) (sRet (mOp2 (cmpV .Eq) (mVar 5) (mC t_full))) sSkip
noncomputable def m__law_put_5 : SM := sAsg (mIf (mTest (mOp2 (cmpV .GtE) (mBi bLen (mCons (mOp2 ixO (mVar 2) (mC t_row)) mNil)) (mVar 3))) (mSl (mVar 7) mNoPart (mPart (mC (.int 1)))) (mFz (mNewL mNil))) (tName 8)
noncomputable def m__law_put_6 : SM := sAsg (mOp2 (binO .Add) (mFz (mLc (mIter (mOp2 ixO (mVar 2) (mC t_row))) (tName 9) (mTest (mOp2 (cmpV .NotIn) (mVar 9) (mVar 8))) (mVar 9) [9])) (mFz (mNewL (mCons (mVar 1) mNil)))) (tSub (mVar 2) (mC t_row))
noncomputable def m__law_put_7 : SM := sRet (mOp2 (cmpV .Eq) (mVar 5) (mVar 4))
noncomputable def m__law_put : SM := sSeq m__law_put_0 (sSeq m__law_put_1 (sSeq m__law_put_2 (sSeq m__law_put_3 (sSeq m__law_put_4 (sSeq m__law_put_5 (sSeq m__law_put_6 m__law_put_7))))))
noncomputable def F__law_put : Fn := runDef 4 10 m__law_put
theorem ok__law_put {f : Addr} {fd : FuncData} (F : L2.Fun K "_law_put" "_law_put" s__law_put f fd) (G : Txt K mg T C_StoreError) (c_Store_put : MCal P w K mg base T 4 0 "put" F_Store_put) (c__law_digest : Cal P w K mg base T 1 "_law_digest" F__law_digest) : FnOk P w K mg base (L2.CX P w) 5 f fd ["store", "text", "model", "room"] (spF T K F__law_put) :=
  does (k := 4) F sc__law_put G.tok rfl rfl fun cdv A outer s H E c =>
    cons (sset c 4 (call c c__law_digest (ac (v 1) an))) (cons (stryAs c 6 ⟨rfl, by decide, .inl G.n_StoreError⟩ G.x_StoreError cs_StoreError_n (fun W pn xe c => one (sset c 5 (meth c c_Store_put (v 0) (ac (v 1) an) _))) (suxSet c 6 5 0 G.y_StoreError (by decide) G.f_word)) (cons (sif (tcmp c .In (v 1) (ix c (v 2) (str t_row_l))) (cons (asg (bin .Add (e_fz (lc c (own := [(("one" : Str), 9)]) (it (ix c (v 2) (str t_row_l))) (by kernel_rfl) (fun _ _ _ _ _ => gn c.blk 9) (fun _ _ _ _ _ => if1 (tcmp c.blk .NotEq (v 9) (v 1))) (fun _ _ _ _ _ => v 9))) (lstF (ac (v 1) an))) (gsub c (v 2) (str t_row_l))) (one (ret (cmp c .Eq (v 5) (v 4))))) nil) (cons (ssetLcF c 7 (own := [(("one" : Str), 9)]) (it (ix c (v 2) (str t_row_l))) (by kernel_rfl) (fun _ _ _ _ _ => gn c.blk 9) (fun _ _ _ _ _ => if1 (tcmp c.blk .Eq (bm1 c.blk (ks := ["dict"]) (fun k hk => by rw [List.mem_singleton.mp hk]; exact (bok_get c.blk)) (ix c.blk (v 2) (str t_pins_l)) (ac (v 9) (ac e_int an)) _) e_int)) (fun _ _ _ _ _ => v 9)) (cons (sif (PW.pt (ta (tcmp c .GtE (biLen G.b_len (ac (ix c (v 2) (str t_row_l)) an)) (v 3)) (ta1 (tcmp c .Eq (v 7) (lstF an))))) (one (ret (cmp c .Eq (v 5) (str t_full_l)))) nil) (cons (sset c 8 (ife (tcmp c .GtE (biLen G.b_len (ac (ix c (v 2) (str t_row_l)) an)) (v 3)) (sl (v 7) o_none (o_some e_int)) (lstF an))) (cons (asg (bin .Add (e_fz (lc c (own := [(("one" : Str), 9)]) (it (ix c (v 2) (str t_row_l))) (by kernel_rfl) (fun _ _ _ _ _ => gn c.blk 9) (fun _ _ _ _ _ => if1 (tcmp c.blk .NotIn (v 9) (v 8))) (fun _ _ _ _ _ => v 9))) (lstF (ac (v 1) an))) (gsub c (v 2) (str t_row_l))) (one (ret (cmp c .Eq (v 5) (v 4))))))))))
/-! #### _law_get -/
abbrev s__law_get : Stmt := top 17
theorem sc__law_get : FnScope ["store", "text", "model", "told", "e", "one"] ["store", "text", "model"] (defScope s__law_get) := ⟨rfl, rfl, rfl, by decide +kernel, rfl, by decide +kernel, by decide +kernel⟩
noncomputable def m__law_get_0 : SM := sTryA (sAsg (mOwn 0 F_Store_get (mVar 0) (mCons (mCall F__law_digest (mCons (mVar 1) mNil)) mNil)) (tName 3)) cs_StoreError 4 (sAsg (mTup (mCons (mExAt 4 0) (mCons (mExAt 4 1) mNil))) (tName 3))
noncomputable def m__law_get_1 : SM := sIf (mTest (mOp2 (cmpV .NotIn) (mVar 1) (mOp2 ixO (mVar 2) (mC t_row)))) (sRet (mOp2 (cmpV .Eq) (mVar 3) (mTup (mCons (mC t_missing) (mCons (mCall F__law_digest (mCons (mVar 1) mNil)) mNil))))) sSkip
noncomputable def m__law_get_2 : SM := sAsg (mOp2 (binO .Add) (mFz (mLc (mIter (mOp2 ixO (mVar 2) (mC t_row))) (tName 5) (mTest (mOp2 (cmpV .NotEq) (mVar 5) (mVar 1))) (mVar 5) [5])) (mFz (mNewL (mCons (mVar 1) mNil)))) (tSub (mVar 2) (mC t_row))
noncomputable def m__law_get_3 : SM := sRet (mOp2 (cmpV .Eq) (mVar 3) (mVar 1))
noncomputable def m__law_get : SM := sSeq m__law_get_0 (sSeq m__law_get_1 (sSeq m__law_get_2 m__law_get_3))
noncomputable def F__law_get : Fn := runDef 3 6 m__law_get
theorem ok__law_get {f : Addr} {fd : FuncData} (F : L2.Fun K "_law_get" "_law_get" s__law_get f fd) (G : Txt K mg T C_StoreError) (c_Store_get : MCal P w K mg base T 3 0 "get" F_Store_get) (c__law_digest : Cal P w K mg base T 1 "_law_digest" F__law_digest) : FnOk P w K mg base (L2.CX P w) 4 f fd ["store", "text", "model"] (spF T K F__law_get) :=
  does (k := 3) F sc__law_get G.tok rfl rfl fun cdv A outer s H E c =>
    cons (stryAs c 4 ⟨rfl, by decide, .inl G.n_StoreError⟩ G.x_StoreError cs_StoreError_n (fun W pn xe c => one (sset c 3 (meth c c_Store_get (v 0) (ac (call c c__law_digest (ac (v 1) an)) an) _))) (suxSet2 c 4 3 0 1 G.y_StoreError (by decide) (by decide) G.f_word G.f_name)) (cons (sif (tcmp c .NotIn (v 1) (ix c (v 2) (str t_row_l))) (one (ret (cmp c .Eq (v 3) (tup (ac (str t_missing_l) (ac (call c c__law_digest (ac (v 1) an)) an)))))) nil) (cons (asg (bin .Add (e_fz (lc c (own := [(("one" : Str), 5)]) (it (ix c (v 2) (str t_row_l))) (by kernel_rfl) (fun _ _ _ _ _ => gn c.blk 5) (fun _ _ _ _ _ => if1 (tcmp c.blk .NotEq (v 5) (v 1))) (fun _ _ _ _ _ => v 5))) (lstF (ac (v 1) an))) (gsub c (v 2) (str t_row_l))) (one (ret (cmp c .Eq (v 3) (v 1))))))
/-! #### _law_right -/
abbrev s__law_right : Stmt := top 18
theorem sc__law_right : FnScope ["store", "model", "texts", "size", "text"] ["store", "model", "texts", "size"] (defScope s__law_right) := ⟨rfl, rfl, rfl, by decide +kernel, rfl, by decide +kernel, by decide +kernel⟩
noncomputable def m__law_right_0 : SM := sIf (mOr (mTest (mOp2 (cmpV .NotEq) (mFz (mSortV (mOp1 (atO okF 2) (mVar 0)))) (mFz (mBiL bSorted (mCons (mOp2 ixO (mVar 1) (mC t_row)) mNil))))) (mOr (mTest (mOp2 (cmpV .NotEq) (mOp1 (atO okF 4) (mVar 0)) (mOp2 (binO .Mult) (mVar 3) (mBi bLen (mCons (mOp2 ixO (mVar 1) (mC t_row)) mNil))))) (mTest (mOp2 (cmpV .NotEq) (mOwn 0 F_Store_spoilt (mVar 0) mNil) (mFz (mNewL mNil)))))) (sRet (mC (.bl false))) sSkip
noncomputable def m__law_right_1 : SM := sRet (mBi bAll (mCons (mFz (mLc (mIter (mVar 2)) (tName 4) mYes (mOp2 (cmpV .Eq) (mOwn 0 F_Store_has (mVar 0) (mCons (mCall F__law_digest (mCons (mVar 4) mNil)) mNil)) (mOp2 (cmpV .In) (mVar 4) (mOp2 ixO (mVar 1) (mC t_row)))) [4])) mNil))
noncomputable def m__law_right : SM := sSeq m__law_right_0 m__law_right_1
noncomputable def F__law_right : Fn := runDef 4 5 m__law_right
theorem ok__law_right {f : Addr} {fd : FuncData} (F : L2.Fun K "_law_right" "_law_right" s__law_right f fd) (G : Txt K mg T C_StoreError) (c_Store_has : MCal P w K mg base T 3 0 "has" F_Store_has) (c_Store_spoilt : MCal P w K mg base T 3 0 "spoilt" F_Store_spoilt) (c__law_digest : Cal P w K mg base T 1 "_law_digest" F__law_digest) : FnOk P w K mg base (L2.CX P w) 4 f fd ["store", "model", "texts", "size"] (spF T K F__law_right) :=
  does (k := 3) F sc__law_right G.tok rfl rfl fun cdv A outer s H E c =>
    cons (sif (PW.pt (to (tcmp c .NotEq (e_fz (sortV c (att c 2 G.ok_ G.f_texts (v 0)) G.b_sorted)) (e_fz (biSort c G.b_sorted (ac (ix c (v 1) (str t_row_l)) an)))) (to (tcmp c .NotEq (att c 4 G.ok_ G.f_used (v 0)) (bin .Mult (v 3) (biLen G.b_len (ac (ix c (v 1) (str t_row_l)) an)))) (to1 (tcmp c .NotEq (meth0 c c_Store_spoilt (v 0) _) (lstF an)))))) (one (ret e_bl)) nil) (one (ret (biAll c G.b_all (ac (e_fz (lc c (own := [(("text" : Str), 4)]) (it (v 2)) (by kernel_rfl) (fun _ _ _ _ _ => gn c.blk 4) (fun _ _ _ _ _ => yes) (fun _ _ _ _ _ => cmp c.blk .Eq (meth c.blk c_Store_has (v 0) (ac (call c.blk c__law_digest (ac (v 4) an)) an) _) (cmp c.blk .In (v 4) (ix c.blk (v 1) (str t_row_l)))))) an))))
/-! #### _law_pinned -/
abbrev s__law_pinned : Stmt := top 19
theorem sc__law_pinned : FnScope ["tape", "store", "model", "text", "name"] ["tape", "store", "model", "text"] (defScope s__law_pinned) := ⟨rfl, rfl, rfl, by decide +kernel, rfl, by decide +kernel, by decide +kernel⟩
noncomputable def m__law_pinned_0 : SM := sAsg (mCall F__law_digest (mCons (mVar 3) mNil)) (tName 4)
noncomputable def m__law_pinned_1 : SM := sIf (mTest (mOp2 (cmpV .Eq) (mCall F__law_take (mCons (mVar 0) (mCons (mC (.int 2)) mNil))) (mC (.int 0)))) (sSeq (sExpr (mOwn 0 F_Store_pin (mVar 1) (mCons (mFz (mNewL (mCons (mVar 4) mNil))) mNil))) (sAsg (mOp2 (binO .Add) (mMeth noC ["dict"] bGet (mOp2 ixO (mVar 2) (mC t_pins)) (mCons (mVar 3) (mCons (mC (.int 0)) mNil))) (mC (.int 1))) (tSub (mOp2 ixO (mVar 2) (mC t_pins)) (mVar 3)))) (sIf (mTest (mOp2 (cmpV .Gt) (mMeth noC ["dict"] bGet (mOp2 ixO (mVar 2) (mC t_pins)) (mCons (mVar 3) (mCons (mC (.int 0)) mNil))) (mC (.int 0)))) (sSeq (sExpr (mOwn 0 F_Store_unpin (mVar 1) (mCons (mFz (mNewL (mCons (mVar 4) mNil))) mNil))) (sAsg (mOp2 (binO .Sub) (mOp2 ixO (mOp2 ixO (mVar 2) (mC t_pins)) (mVar 3)) (mC (.int 1))) (tSub (mOp2 ixO (mVar 2) (mC t_pins)) (mVar 3)))) sSkip)
noncomputable def m__law_pinned : SM := sSeq m__law_pinned_0 m__law_pinned_1
noncomputable def F__law_pinned : Fn := runDef 4 5 m__law_pinned
theorem ok__law_pinned {f : Addr} {fd : FuncData} (F : L2.Fun K "_law_pinned" "_law_pinned" s__law_pinned f fd) (G : Txt K mg T C_StoreError) (c_Store_pin : MCal P w K mg base T 1 0 "pin" F_Store_pin) (c_Store_unpin : MCal P w K mg base T 1 0 "unpin" F_Store_unpin) (c__law_digest : Cal P w K mg base T 1 "_law_digest" F__law_digest) (c__law_take : Cal P w K mg base T 1 "_law_take" F__law_take) : FnOk P w K mg base (L2.CX P w) 2 f fd ["tape", "store", "model", "text"] (spF T K F__law_pinned) :=
  does (k := 1) F sc__law_pinned G.tok rfl rfl fun cdv A outer s H E c =>
    cons (sset c 4 (call c c__law_digest (ac (v 3) an))) (one (sif (tcmp c .Eq (call c c__law_take (ac (v 0) (ac e_int an))) e_int) (cons (ex c (meth c c_Store_pin (v 1) (ac (lstF (ac (v 4) an)) an) _)) (one (asg (bin .Add (bm1 c (ks := ["dict"]) (fun k hk => by rw [List.mem_singleton.mp hk]; exact (bok_get c)) (ix c (v 2) (str t_pins_l)) (ac (v 3) (ac e_int an)) _) e_int) (gsub c (ix c (v 2) (str t_pins_l)) (v 3))))) (one (sif (tcmp c .Gt (bm1 c (ks := ["dict"]) (fun k hk => by rw [List.mem_singleton.mp hk]; exact (bok_get c)) (ix c (v 2) (str t_pins_l)) (ac (v 3) (ac e_int an)) _) e_int) (cons (ex c (meth c c_Store_unpin (v 1) (ac (lstF (ac (v 4) an)) an) _)) (one (asg (bin .Sub (ix c (ix c (v 2) (str t_pins_l)) (v 3)) e_int) (gsub c (ix c (v 2) (str t_pins_l)) (v 3))))) nil))))
/-! #### law -/
abbrev s_law : Stmt := top 20
theorem sc_law : FnScope ["script", "tape", "size", "count", "k", "texts", "met", "text", "rooms", "stores", "models", "pins", "row", "turn", "how", "there", "since", "good", "held", "kept", "gone", "room", "model"] ["script"] (defScope s_law) := ⟨rfl, rfl, rfl, by decide +kernel, rfl, by decide +kernel, by decide +kernel⟩
noncomputable def m_law_0 : SM := sAsg (mCall F__law_tape (mCons (mVar 0) mNil)) (tName 1)
noncomputable def m_law_1 : SM := sAsg (mTup (mCons (mOp2 (binO .Add) (mC (.int 2)) (mCall F__law_take (mCons (mVar 1) (mCons (mC (.int 9)) mNil)))) (mCons (mOp2 (binO .Add) (mC (.int 3)) (mCall F__law_take (mCons (mVar 1) (mCons (mC (.int 6)) mNil)))) mNil))) (tTup (tCons (tName 2) (tCons (tName 3) tNil)))
noncomputable def m_law_2 : SM := sPar2 5 6 (mCons (mFz (mLc (mRange (mCons (mVar 3) mNil)) (tName 4) mYes (mOp2 (binO .Add) (mBi bStr (mCons (mVar 4) mNil)) (mOp2 (binO .Mult) (mC t_z) (mOp2 (binO .Sub) (mVar 2) (mC (.int 1))))) [4])) (mCons (mRegD mPNil) mNil))
noncomputable def m_law_3_b : SM := sExpr (mCall F__law_name (mCons (mVar 6) (mCons (mVar 7) mNil)))
noncomputable def m_law_3 : SM := sFor (mIter (mVar 5)) (tName 7) m_law_3_b
noncomputable def m_law_4 : SM := sIf (mTest (mOp2 (cmpV .In) (mC t_clash) (mVar 6))) (sRet (mC (.bl true))) sSkip
noncomputable def m_law_5 : SM := sAsg (mFz (mLc (mRange (mCons (mOp2 (binO .Add) (mC (.int 1)) (mCall F__law_take (mCons (mVar 1) (mCons (mC (.int 4)) mNil)))) mNil)) (tName 4) mYes (mCall F__law_take (mCons (mVar 1) (mCons (mC (.int 8)) mNil))) [4])) (tName 8)
noncomputable def m_law_6 : SM := sAsg (mTup (mCons (mFz (mLc (mIter (mVar 8)) (tName 21) mYes (mMake 0 F_Store___init__ (mCons (mOp2 (binO .Add) (mOp2 (binO .Mult) (mVar 21) (mVar 2)) (mCall F__law_take (mCons (mVar 1) (mCons (mVar 2) mNil)))) mNil)) [21])) (mCons (mFz (mLc (mIter (mVar 8)) (tName 21) mYes (mRegD (mDisp (mPCons (mC t_row) (mFz (mNewL mNil)) (mPCons (mC t_pins) (mRegD mPNil) mPNil)))) [21])) mNil))) (tTup (tCons (tName 9) (tCons (tName 10) tNil)))
noncomputable def m_law_7 : SM := sPar2 11 12 (mCons (mOp2 (cmpV .Eq) (mCall F__law_take (mCons (mVar 1) (mCons (mC (.int 3)) mNil))) (mC (.int 0))) (mCons (mReg (mNewL mNil)) mNil))
noncomputable def m_law_8_b_0 : SM := sAsg (mTup (mCons (mCall F__law_take (mCons (mVar 1) (mCons (mC (.int 8)) mNil))) (mCons (mOp2 ixO (mVar 5) (mCall F__law_take (mCons (mVar 1) (mCons (mVar 3) mNil)))) mNil))) (tTup (tCons (tName 14) (tCons (tName 7) tNil)))
noncomputable def m_law_8_b_1_b_0 : SM := sAsg (mOp2 (cmpV .In) (mVar 7) (mOp2 ixO (mOp2 ixO (mVar 10) (mVar 4)) (mC t_row))) (tName 15)
noncomputable def m_law_8_b_1_b_1 : SM := sAsg (mIf (mTest (mOp2 (cmpV .In) (mVar 7) (mVar 12))) (mSl (mVar 12) (mPart (mOp2 (binO .Sub) (mBi bLen (mCons (mVar 12) mNil)) (mMeth noC ["list"] bIndex (mFz (mRev (mVar 12))) (mCons (mVar 7) mNil)))) mNoPart) (mFz (mNewL mNil))) (tName 16)
noncomputable def m_law_8_b_1_b_2 : SM := sIf (mAnd (mNot (mTruth (mVar 11))) (mTest (mOp2 (cmpV .NotEq) (mVar 15) (mAndV (mOp2 (cmpV .In) (mVar 7) (mVar 12)) (mOp2 (cmpV .Lt) (mLenSet (mVar 16)) (mOp2 ixO (mVar 8) (mVar 4))))))) (sRet (mC (.bl false))) sSkip
noncomputable def m_law_8_b_1_b_3 : SM := sIf (mTest (mOp2 (cmpV .Lt) (mVar 14) (mC (.int 5)))) (sAsg (mCall F__law_put (mCons (mOp2 ixO (mVar 9) (mVar 4)) (mCons (mVar 7) (mCons (mOp2 ixO (mVar 10) (mVar 4)) (mCons (mOp2 ixO (mVar 8) (mVar 4)) mNil))))) (tName 17)) (sIf (mAnd (mTest (mOp2 (cmpV .Eq) (mVar 14) (mC (.int 5)))) (mTruth (mBi bAll (mCons (mFz (mLc (mIter (mVar 10)) (tName 22) mYes (mOp2 (cmpV .In) (mVar 7) (mOp2 ixO (mVar 22) (mC t_row))) [22])) mNil)))) (sAsg (mCall F__law_get (mCons (mOp2 ixO (mVar 9) (mVar 4)) (mCons (mVar 7) (mCons (mOp2 ixO (mVar 10) (mVar 4)) mNil)))) (tName 17)) (sIf (mAnd (mTest (mOp2 (cmpV .Eq) (mVar 14) (mC (.int 6)))) (mTruth (mVar 11))) (sAsg (mOp2 (cmpV .Is) (mCall F__law_pinned (mCons (mVar 1) (mCons (mOp2 ixO (mVar 9) (mVar 4)) (mCons (mOp2 ixO (mVar 10) (mVar 4)) (mCons (mVar 7) mNil))))) (mC .non)) (tName 17)) (sAsg (mCall F__law_put (mCons (mOp2 ixO (mVar 9) (mVar 4)) (mCons (mVar 7) (mCons (mOp2 ixO (mVar 10) (mVar 4)) (mCons (mOp2 ixO (mVar 8) (mVar 4)) mNil))))) (tName 17))))
noncomputable def m_law_8_b_1_b_4 : SM := sIf (mOr (mNot (mTruth (mVar 17))) (mNot (mTruth (mCall F__law_right (mCons (mOp2 ixO (mVar 9) (mVar 4)) (mCons (mOp2 ixO (mVar 10) (mVar 4)) (mCons (mVar 5) (mCons (mVar 2) mNil)))))))) (sRet (mC (.bl false))) sSkip
noncomputable def m_law_8_b_1_b : SM := sSeq m_law_8_b_1_b_0 (sSeq m_law_8_b_1_b_1 (sSeq m_law_8_b_1_b_2 (sSeq m_law_8_b_1_b_3 m_law_8_b_1_b_4)))
noncomputable def m_law_8_b_1 : SM := sFor (mRange (mCons (mBi bLen (mCons (mVar 8) mNil)) mNil)) (tName 4) m_law_8_b_1_b
noncomputable def m_law_8_b_2 : SM := sIf (mOr (mTest (mOp2 (cmpV .Lt) (mVar 14) (mC (.int 6)))) (mNot (mTruth (mVar 11)))) (sExpr (mMeth noC ["list"] bAppend (mVar 12) (mCons (mVar 7) mNil))) sSkip
noncomputable def m_law_8_b : SM := sSeq m_law_8_b_0 (sSeq m_law_8_b_1 m_law_8_b_2)
noncomputable def m_law_8 : SM := sFor (mRange (mCons (mC (.int 30)) mNil)) (tName 13) m_law_8_b
noncomputable def m_law_9_b_0 : SM := sAsg (mFz (mLc (mIter (mOp2 ixO (mOp2 ixO (mVar 10) (mVar 4)) (mC t_row))) (tName 7) (mTest (mOp2 (cmpV .Gt) (mMeth noC ["dict"] bGet (mOp2 ixO (mOp2 ixO (mVar 10) (mVar 4)) (mC t_pins)) (mCons (mVar 7) (mCons (mC (.int 0)) mNil))) (mC (.int 0)))) (mVar 7) [7])) (tName 18)
noncomputable def m_law_9_b_1 : SM := sAsg (mFz (mLc (mIter (mOp2 ixO (mOp2 ixO (mVar 10) (mVar 4)) (mC t_row))) (tName 7) (mTest (mOp2 (cmpV .Eq) (mCall F__law_take (mCons (mVar 1) (mCons (mC (.int 2)) mNil))) (mC (.int 0)))) (mVar 7) [7])) (tName 19)
noncomputable def m_law_9_b_2 : SM := sAsg (mFz (mBiL bSorted (mCons (mFz (mLc (mIter (mOp2 ixO (mOp2 ixO (mVar 10) (mVar 4)) (mC t_row))) (tName 7) (mAnd (mTest (mOp2 (cmpV .NotIn) (mVar 7) (mVar 18))) (mTest (mOp2 (cmpV .NotIn) (mVar 7) (mVar 19)))) (mCall F__law_digest (mCons (mVar 7) mNil)) [7])) mNil))) (tName 20)
noncomputable def m_law_9_b_3 : SM := sIf (mOr (mTest (mOp2 (cmpV .NotEq) (mOwn 0 F_Store_collect (mOp2 ixO (mVar 9) (mVar 4)) (mCons (mFz (mLc (mIter (mVar 19)) (tName 7) mYes (mBi bTuple (mCons (mFz (mNewL (mCons (mTup (mCons (mC t_p) (mCons (mCall F__law_digest (mCons (mVar 7) mNil)) mNil))) mNil))) mNil)) [7])) mNil)) (mVar 20))) (mTest (mOp2 (cmpV .NotEq) (mOwn 0 F_Store_collect (mOp2 ixO (mVar 9) (mVar 4)) (mCons (mFz (mLc (mIter (mVar 19)) (tName 7) mYes (mBi bTuple (mCons (mFz (mNewL (mCons (mTup (mCons (mC t_p) (mCons (mCall F__law_digest (mCons (mVar 7) mNil)) mNil))) mNil))) mNil)) [7])) mNil)) (mFz (mNewL mNil))))) (sRet (mC (.bl false))) sSkip
noncomputable def m_law_9_b_4 : SM := sIf (mOr (mTest (mOp2 (cmpV .NotEq) (mFz (mSortV (mOp1 (atO okF 2) (mOp2 ixO (mVar 9) (mVar 4))))) (mFz (mSortSet (mOp2 (binO .Add) (mVar 18) (mVar 19)))))) (mTest (mOp2 (cmpV .NotEq) (mOp1 (atO okF 4) (mOp2 ixO (mVar 9) (mVar 4))) (mOp2 (binO .Mult) (mVar 2) (mBi bLen (mCons (mOp1 (atO okF 2) (mOp2 ixO (mVar 9) (mVar 4))) mNil)))))) (sRet (mC (.bl false))) sSkip
noncomputable def m_law_9_b : SM := sSeq m_law_9_b_0 (sSeq m_law_9_b_1 (sSeq m_law_9_b_2 (sSeq m_law_9_b_3 m_law_9_b_4)))
noncomputable def m_law_9 : SM := sFor (mRange (mCons (mBi bLen (mCons (mVar 8) mNil)) mNil)) (tName 4) m_law_9_b
noncomputable def m_law_10 : SM := sRet (mC (.bl true))
noncomputable def m_law : SM := sSeq m_law_0 (sSeq m_law_1 (sSeq m_law_2 (sSeq m_law_3 (sSeq m_law_4 (sSeq m_law_5 (sSeq m_law_6 (sSeq m_law_7 (sSeq m_law_8 (sSeq m_law_9 m_law_10)))))))))
noncomputable def F_law : Fn := runDef 1 23 m_law
theorem ok_law {f : Addr} {fd : FuncData} (F : L2.Fun K "law" "law" s_law f fd) (G : Txt K mg T C_StoreError) (c_Store_collect : MCal P w K mg base T 2 0 "collect" F_Store_collect) (c__law_digest : Cal P w K mg base T 1 "_law_digest" F__law_digest) (c__law_get : Cal P w K mg base T 4 "_law_get" F__law_get) (c__law_name : Cal P w K mg base T 2 "_law_name" F__law_name) (c__law_pinned : Cal P w K mg base T 2 "_law_pinned" F__law_pinned) (c__law_put : Cal P w K mg base T 5 "_law_put" F__law_put) (c__law_right : Cal P w K mg base T 4 "_law_right" F__law_right) (c__law_take : Cal P w K mg base T 1 "_law_take" F__law_take) (c__law_tape : Cal P w K mg base T 1 "_law_tape" F__law_tape) (k_Store : KCal P w K mg base T 1 "Store" 0 F_Store___init__) : FnOk P w K mg base (L2.CX P w) 6 f fd ["script"] (spF T K F_law) :=
  does (k := 5) F sc_law G.tok rfl rfl fun cdv A outer s H E c =>
    cons (sset c 1 (call c c__law_tape (ac (v 0) an))) (cons (asg (tup (ac (bin .Add e_int (call c c__law_take (ac (v 1) (ac e_int an)))) (ac (bin .Add e_int (call c c__law_take (ac (v 1) (ac e_int an)))) an))) (gtup c (gcons (gn c 2) (gcons (gn c 3) gnil)) (by rfl) (tcons_len (tcons_len tnil_len)))) (cons (par2 c 5 6 (ac (e_fz (lc c (own := [(("k" : Str), 4)]) (rng1 G.b_range (v 3)) (by kernel_rfl) (fun _ _ _ _ _ => gn c.blk 4) (fun _ _ _ _ _ => yes) (fun _ _ _ _ _ => bin .Add (biStr G.b_str (ac (v 4) an)) (bin .Mult (str t_z_l) (bin .Sub (v 2) e_int))))) (ac dct0 an))) (cons (sfor c (it (v 5)) (gn c 7) (one (ex c (call c c__law_name (ac (v 6) (ac (v 7) an)))))) (cons (sif (tcmp c .In (str t_clash_l) (v 6)) (one (ret e_bl)) nil) (cons (ssetLcF c 8 (own := [(("k" : Str), 4)]) (rng1 G.b_range (bin .Add e_int (call c c__law_take (ac (v 1) (ac e_int an))))) (by kernel_rfl) (fun _ _ _ _ _ => gn c.blk 4) (fun _ _ _ _ _ => yes) (fun _ _ _ _ _ => call c.blk c__law_take (ac (v 1) (ac e_int an)))) (cons (asg (tup (ac (e_fz (lc c (own := [(("room" : Str), 21)]) (it (v 8)) (by kernel_rfl) (fun _ _ _ _ _ => gn c.blk 21) (fun _ _ _ _ _ => yes) (fun _ _ _ _ _ => make c.blk k_Store (ac (bin .Add (bin .Mult (v 21) (v 2)) (call c.blk c__law_take (ac (v 1) (ac (v 2) an)))) an)))) (ac (e_fz (lc c (own := [(("room" : Str), 21)]) (it (v 8)) (by kernel_rfl) (fun _ _ _ _ _ => gn c.blk 21) (fun _ _ _ _ _ => yes) (fun _ _ _ _ _ => disp (dpc (str t_row_l) (lstF an) (dpc (str t_pins_l) dct0 dpn))))) an))) (gtup c (gcons (gn c 9) (gcons (gn c 10) gnil)) (by rfl) (tcons_len (tcons_len tnil_len)))) (cons (par2 c 11 12 (ac (cmp c .Eq (call c c__law_take (ac (v 1) (ac e_int an))) e_int) (ac (lstR an) an))) (cons (sfor c (rng1 G.b_range e_int) (gn c 13) (cons (asg (tup (ac (call c c__law_take (ac (v 1) (ac e_int an))) (ac (ix c (v 5) (call c c__law_take (ac (v 1) (ac (v 3) an)))) an))) (gtup c (gcons (gn c 14) (gcons (gn c 7) gnil)) (by rfl) (tcons_len (tcons_len tnil_len)))) (cons (sfor c (rng1 G.b_range (biLen G.b_len (ac (v 8) an))) (gn c 4) (cons (sset c 15 (cmp c .In (v 7) (ix c (ix c (v 10) (v 4)) (str t_row_l)))) (cons (sset c 16 (ife (tcmp c .In (v 7) (v 12)) (sl (v 12) (o_some (bin .Sub (biLen G.b_len (ac (v 12) an)) (bm1 c (ks := ["list"]) (fun k hk => by rw [List.mem_singleton.mp hk]; exact bok_index) (e_fz (rev (v 12))) (ac (v 7) an) _))) o_none) (lstF an))) (cons (sif (PW.pt (ta (nt (tr (v 11))) (ta1 (tcmp c .NotEq (v 15) (e_and (cmp c .In (v 7) (v 12)) (bo1 (cmp c .Lt (lenSet c (v 16) G.b_len G.b_set) (ix c (v 8) (v 4))))))))) (one (ret e_bl)) nil) (cons (sif (tcmp c .Lt (v 14) e_int) (one (sset c 17 (call c c__law_put (ac (ix c (v 9) (v 4)) (ac (v 7) (ac (ix c (v 10) (v 4)) (ac (ix c (v 8) (v 4)) an))))))) (one (sif (PW.pt (ta (tcmp c .Eq (v 14) e_int) (ta1 (tr (biAll c G.b_all (ac (e_fz (lc c (own := [(("model" : Str), 22)]) (it (v 10)) (by kernel_rfl) (fun _ _ _ _ _ => gn c.blk 22) (fun _ _ _ _ _ => yes) (fun _ _ _ _ _ => cmp c.blk .In (v 7) (ix c.blk (v 22) (str t_row_l))))) an)))))) (one (sset c 17 (call c c__law_get (ac (ix c (v 9) (v 4)) (ac (v 7) (ac (ix c (v 10) (v 4)) an)))))) (one (sif (PW.pt (ta (tcmp c .Eq (v 14) e_int) (ta1 (tr (v 11))))) (one (sset c 17 (cmp c .Is (call c c__law_pinned (ac (v 1) (ac (ix c (v 9) (v 4)) (ac (ix c (v 10) (v 4)) (ac (v 7) an))))) e_non))) (one (sset c 17 (call c c__law_put (ac (ix c (v 9) (v 4)) (ac (v 7) (ac (ix c (v 10) (v 4)) (ac (ix c (v 8) (v 4)) an)))))))))))) (one (sif (PW.pt (to (nt (tr (v 17))) (to1 (nt (tr (call c c__law_right (ac (ix c (v 9) (v 4)) (ac (ix c (v 10) (v 4)) (ac (v 5) (ac (v 2) an)))))))))) (one (ret e_bl)) nil))))))) (one (sif (PW.pt (to (tcmp c .Lt (v 14) e_int) (to1 (nt (tr (v 11)))))) (one (ex c (bm1 c (ks := ["list"]) (fun k hk => by rw [List.mem_singleton.mp hk]; exact bok_append) (v 12) (ac (v 7) an) _))) nil))))) (cons (sfor c (rng1 G.b_range (biLen G.b_len (ac (v 8) an))) (gn c 4) (cons (sset c 18 (e_fz (lc c (own := [(("text" : Str), 7)]) (it (ix c (ix c (v 10) (v 4)) (str t_row_l))) (by kernel_rfl) (fun _ _ _ _ _ => gn c.blk 7) (fun _ _ _ _ _ => if1 (tcmp c.blk .Gt (bm1 c.blk (ks := ["dict"]) (fun k hk => by rw [List.mem_singleton.mp hk]; exact (bok_get c.blk)) (ix c.blk (ix c.blk (v 10) (v 4)) (str t_pins_l)) (ac (v 7) (ac e_int an)) _) e_int)) (fun _ _ _ _ _ => v 7)))) (cons (sset c 19 (e_fz (lc c (own := [(("text" : Str), 7)]) (it (ix c (ix c (v 10) (v 4)) (str t_row_l))) (by kernel_rfl) (fun _ _ _ _ _ => gn c.blk 7) (fun _ _ _ _ _ => if1 (tcmp c.blk .Eq (call c.blk c__law_take (ac (v 1) (ac e_int an))) e_int)) (fun _ _ _ _ _ => v 7)))) (cons (sset c 20 (e_fz (biSort c G.b_sorted (ac (e_fz (lc c (own := [(("text" : Str), 7)]) (it (ix c (ix c (v 10) (v 4)) (str t_row_l))) (by kernel_rfl) (fun _ _ _ _ _ => gn c.blk 7) (fun _ _ _ _ _ => if1 (PW.pt (ta (tcmp c.blk .NotIn (v 7) (v 18)) (ta1 (tcmp c.blk .NotIn (v 7) (v 19)))))) (fun _ _ _ _ _ => call c.blk c__law_digest (ac (v 7) an)))) an)))) (cons (sif (PW.pt (to (tcmp c .NotEq (meth c c_Store_collect (ix c (v 9) (v 4)) (ac (e_fz (lc c (own := [(("text" : Str), 7)]) (it (v 19)) (by kernel_rfl) (fun _ _ _ _ _ => gn c.blk 7) (fun _ _ _ _ _ => yes) (fun _ _ _ _ _ => biTuple G.b_tuple (ac (lstF (ac (tup (ac (str t_p_l) (ac (call c.blk c__law_digest (ac (v 7) an)) an))) an)) an)))) an) _) (v 20)) (to1 (tcmp c .NotEq (meth c c_Store_collect (ix c (v 9) (v 4)) (ac (e_fz (lc c (own := [(("text" : Str), 7)]) (it (v 19)) (by kernel_rfl) (fun _ _ _ _ _ => gn c.blk 7) (fun _ _ _ _ _ => yes) (fun _ _ _ _ _ => biTuple G.b_tuple (ac (lstF (ac (tup (ac (str t_p_l) (ac (call c.blk c__law_digest (ac (v 7) an)) an))) an)) an)))) an) _) (lstF an))))) (one (ret e_bl)) nil) (one (sif (PW.pt (to (tcmp c .NotEq (e_fz (sortV c (att c 2 G.ok_ G.f_texts (ix c (v 9) (v 4))) G.b_sorted)) (e_fz (sortSet c (bin .Add (v 18) (v 19)) G.b_sorted G.b_set))) (to1 (tcmp c .NotEq (att c 4 G.ok_ G.f_used (ix c (v 9) (v 4))) (bin .Mult (v 2) (biLen G.b_len (ac (att c 2 G.ok_ G.f_texts (ix c (v 9) (v 4))) an))))))) (one (ret e_bl)) nil))))))) (one (ret e_bl)))))))))))
end
end Y.k33

set_option maxHeartbeats 1000000
namespace Y.k33
open PySem Y
/-! ### digests -/
def pr : Int := 2305843009213693951
def num (s : List Nat) (f : Int) : Int := s.foldl (fun (f : Int) (c : Nat) => (f * 2000003 + (c : Int)) % pr) f
def hexL : List Nat := [48, 49, 50, 51, 52, 53, 54, 55, 56, 57, 97, 98, 99, 100, 101, 102]
def hexd (n : Int) : Nat := hexL.getD (n % 16).toNat 0
def digs : Nat → Int → List Nat → List Nat
  | 0, _, acc => acc
  | k + 1, n, acc => digs k (n / 16) (hexd n :: acc)
def dig (s : List Nat) : List Nat := digs 16 (num s ((s.length : Int) + 7)) []
theorem num_for : ∀ (s : List Nat) (t : PV) (f : Int) (x : Option PV) (h : VH), ∃ x', forL (tName 2) m_number_of_1_b (s.map fun c => .str [c]) [some t, some (.int f), x] h = .nx [some t, some (.int (num s f)), x'] h
  | [], t, f, x, h => ⟨x, rfl⟩
  | c :: r, t, f, x, h => by
    obtain ⟨x', e⟩ := num_for r t ((f * 2000003 + (c : Int)) % pr) (some (.str [c])) h
    refine ⟨x', ?_⟩
    rw [List.map_cons, forL_cons]
    simp [m_number_of_1_b, mulOk]
    exact e
theorem number_of_ok (s : List Nat) (h : VH) : F_number_of [.str s] h = .ok (.int (num s ((s.length : Int) + 7))) h := by
  obtain ⟨x', e⟩ := num_for s (.str s) ((s.length : Int) + 7) none h
  unfold F_number_of runDef m_number_of startS
  simp [m_number_of_0, m_number_of_1, m_number_of_2, e]
theorem hex_it (n : Int) : itO hexL (n % 16) = some (hexd n) := by
  have hk : ∀ k : Nat, k < 16 → itO hexL (k : Int) = some (hexL.getD k 0) := by decide
  have h1 : n % 16 = ((n % 16).toNat : Int) := by omega
  rw [h1, hk _ (by omega)]
  rfl
theorem digs_len : ∀ (k : Nat) (n : Int) (acc : List Nat), (digs k n acc).length = k + acc.length
  | 0, _, acc => by simp [digs]
  | k + 1, n, acc => by
    unfold digs
    rw [digs_len k]
    simp; omega
theorem dig_len (s : List Nat) : (dig s).length = 16 := digs_len 16 _ _
theorem rangeL_cons (lo : Int) (n : Nat) : rangeL lo (n + 1) = .int lo :: rangeL (lo + 1) n := by
  unfold rangeL
  rw [List.range_succ_eq_map]
  simp
  intro a _
  omega
theorem digs_for : ∀ (k : Nat) (lo : Int) (t : PV) (n : Int) (acc : List Nat) (x : Option PV) (h : VH), acc.length + k ≤ 16 → ∃ n' x', forL (tName 3) m_digest_1_b (rangeL lo k) [some t, some (.int n), some (.str acc), x] h = .nx [some t, some (.int n'), some (.str (digs k n acc)), x'] h
  | 0, lo, t, n, acc, x, h, _ => ⟨n, x, rfl⟩
  | k + 1, lo, t, n, acc, x, h, hl => by
    obtain ⟨n', x', e⟩ := digs_for k (lo + 1) t (n / 16) (hexd n :: acc) (some (.int lo)) h (by simp; omega)
    refine ⟨n', x', ?_⟩
    have e2 := hex_it n
    unfold hexL at e2
    have l1 : 1 + acc.length ≤ line := Nat.le_trans (show 1 + acc.length ≤ 17 by omega) (by decide)
    rw [rangeL_cons, forL_cons]
    simp [m_digest_1_b, m_digest_1_b_0, m_digest_1_b_1, e2, l1]
    exact e
theorem digest_ok (s : List Nat) (h : VH) : F_digest [.str s] h = .ok (.str (dig s)) h := by
  obtain ⟨n', x', e⟩ := digs_for 16 0 (.str s) (num s ((s.length : Int) + 7)) [] none h (by simp)
  unfold F_digest runDef m_digest startS
  simp [m_digest_0, m_digest_1, m_digest_2, number_of_ok, rngOk, e]
  rfl
theorem lnum_for : ∀ (s : List Nat) (t u : PV) (f : Int) (x y : Option PV) (h : VH), ∃ x', forL (tName 3) m__law_digest_1_b (s.map fun c => .str [c]) [some t, some (.int f), some u, x, y] h = .nx [some t, some (.int (num s f)), some u, x', y] h
  | [], t, u, f, x, y, h => ⟨x, rfl⟩
  | c :: r, t, u, f, x, y, h => by
    obtain ⟨x', e⟩ := lnum_for r t u ((f * 2000003 + (c : Int)) % pr) (some (.str [c])) y h
    refine ⟨x', ?_⟩
    rw [List.map_cons, forL_cons]
    simp [m__law_digest_1_b, mulOk]
    exact e
theorem ldigs_for : ∀ (k : Nat) (lo : Int) (t : PV) (n : Int) (acc : List Nat) (y x : Option PV) (h : VH), acc.length + k ≤ 16 → ∃ n' x', forL (tName 4) m__law_digest_2_b (rangeL lo k) [some t, some (.int n), some (.str acc), y, x] h = .nx [some t, some (.int n'), some (.str (digs k n acc)), y, x'] h
  | 0, lo, t, n, acc, y, x, h, _ => ⟨n, x, rfl⟩
  | k + 1, lo, t, n, acc, y, x, h, hl => by
    obtain ⟨n', x', e⟩ := ldigs_for k (lo + 1) t (n / 16) (hexd n :: acc) y (some (.int lo)) h (by simp; omega)
    refine ⟨n', x', ?_⟩
    have e2 := hex_it n
    unfold hexL at e2
    have l1 : 1 + acc.length ≤ line := Nat.le_trans (show 1 + acc.length ≤ 17 by omega) (by decide)
    rw [rangeL_cons, forL_cons]
    simp [m__law_digest_2_b, m__law_digest_2_b_0, m__law_digest_2_b_1, e2, l1]
    exact e
theorem law_digest_ok (s : List Nat) (h : VH) : F__law_digest [.str s] h = .ok (.str (dig s)) h := by
  obtain ⟨x1, e1⟩ := lnum_for s (.str s) (.str []) ((s.length : Int) + 7) none none h
  obtain ⟨n', x', e⟩ := ldigs_for 16 0 (.str s) (num s ((s.length : Int) + 7)) [] x1 none h (by simp)
  unfold F__law_digest runDef m__law_digest startS
  simp [m__law_digest_0, m__law_digest_1, m__law_digest_2, m__law_digest_3, e1, rngOk, e]
  rfl
/-! ### the tape -/
def tp (cs : List Int) (a l s z : Int) : List (PV × PV) := [(t_cells, .lst (cs.map .int)), (t_at, .int a), (t_left, .int l), (t_seed, .int s), (t_salt, .int z)]
section
variable (cs : List Int) (a l s z : Int)
@[simp] theorem tp_cells : kget (tp cs a l s z) t_cells = some (.lst (cs.map .int)) := by simp [kget, tp]
@[simp] theorem tp_at : kget (tp cs a l s z) t_at = some (.int a) := by simp [kget, tp]
@[simp] theorem tp_left : kget (tp cs a l s z) t_left = some (.int l) := by simp [kget, tp]
@[simp] theorem tp_seed : kget (tp cs a l s z) t_seed = some (.int s) := by simp [kget, tp]
@[simp] theorem tp_salt : kget (tp cs a l s z) t_salt = some (.int z) := by simp [kget, tp]
@[simp] theorem tp_pat (v : Int) : kput (tp cs a l s z) t_at (.int v) = tp cs v l s z := by simp [kput, kget, tp]
@[simp] theorem tp_pleft (v : Int) : kput (tp cs a l s z) t_left (.int v) = tp cs a v s z := by simp [kput, kget, tp]
@[simp] theorem tp_psalt (v : Int) : kput (tp cs a l s z) t_salt (.int v) = tp cs a l s v := by simp [kput, kget, tp]
end
theorem set_tp {h : VH} {t : Nat} {cs : List Int} {a l s z : Int} {k : List Nat} {v : PV} (e : h[t]? = some (.dct (tp cs a l s z))) : setIx (.ref t) (.str k) v h = some (h.set t (.dct (kput (tp cs a l s z) (.str k) v))) := by
  unfold setIx
  simp only [e]
  rfl
/-- the tape stands at t -/
structure Tape (h : VH) (t : Nat) (cs : List Int) (a l s z : Int) : Prop where
  at_ : h[t]? = some (.dct (tp cs a l s z))
  cs0 : ∀ c ∈ cs, 0 ≤ c
  a0 : 0 ≤ a
  l0 : 0 ≤ l
  s0 : 0 ≤ s ∧ s < 2147483647
theorem set_get {h : VH} {t : Nat} {o : VO} (ht : t < h.length) : (h.set t o)[t]? = some o := List.getElem?_set_self ht
theorem take_1 {h : VH} {t : Nat} {cs : List Int} {a l s z m : Int} (T : Tape h t cs a l s z) (hm : 0 < m ∧ m < 1073741824) :
    ∃ v l' z', (∃ σ h', m__law_take_1 [some (.ref t), some (.int m), none, none] h = .nx σ h' ∧ sSeq m__law_take_2 (sSeq m__law_take_3 (sSeq m__law_take_4 m__law_take_5)) σ h' = .ret (.int v) (h.set t (.dct (tp cs a l' s z'))) ∨ m__law_take_1 [some (.ref t), some (.int m), none, none] h = .ret (.int v) (h.set t (.dct (tp cs a l' s z')))) ∧ 0 ≤ v ∧ v < m ∧ 0 ≤ l' := by
  obtain ⟨e, _, _, hl, hs1, hs2⟩ := T
  have ht : t < h.length := (List.getElem?_eq_some_iff.mp e).1
  have x0 : ∀ (o : VO), (h.set t o)[t]? = some o := fun o => set_get ht
  by_cases h0 : 0 < l
  · refine ⟨l % m, l / m, z, ⟨[], [], .inr ?_⟩, Int.emod_nonneg _ (by omega), Int.emod_lt_of_pos _ hm.1, Int.ediv_nonneg hl (by omega)⟩
    unfold m__law_take_1
    simp [ix_refd e, h0, hm.1, divOk_of hm.1 hm.2, set_tp e]
  · refine ⟨((((s * 48271 + (z + 1) * 69621) % 2147483647) * ((s * 48271 + (z + 1) * 69621) % 2147483647) + (z + 1) * 40692 + 12345) % 2147483399) % m, l, z + 1, ⟨[some (.ref t), some (.int m), none, none], h, .inl ⟨?_, ?_⟩⟩, Int.emod_nonneg _ (by omega), Int.emod_lt_of_pos _ hm.1, hl⟩
    · unfold m__law_take_1
      simp [ix_refd e, h0]
    · have b1 : 0 ≤ (s * 48271 + (z + 1) * 69621) % 2147483647 := Int.emod_nonneg _ (by decide)
      have b2 : (s * 48271 + (z + 1) * 69621) % 2147483647 < 2147483647 := Int.emod_lt_of_pos _ (by decide)
      have b3 : mulOk ((s * 48271 + (z + 1) * 69621) % 2147483647) = true := mulOk_of (by omega) (by omega)
      have c1 : mulOk 48271 = true := rfl
      have c2 : mulOk 69621 = true := rfl
      have c3 : mulOk 40692 = true := rfl
      unfold m__law_take_2 m__law_take_3 m__law_take_4 m__law_take_5
      simp [ix_refd e, set_tp e, ix_refd (x0 _), c1, c2, c3, b3, hm.1]
theorem take_ok {h : VH} {t : Nat} {cs : List Int} {a l s z m : Int} (T : Tape h t cs a l s z) (hm : 0 < m ∧ m < 1073741824) :
    ∃ v a' l' z', F__law_take [.ref t, .int m] h = .ok (.int v) (h.set t (.dct (tp cs a' l' s z'))) ∧ 0 ≤ v ∧ v < m ∧ Tape (h.set t (.dct (tp cs a' l' s z'))) t cs a' l' s z' := by
  obtain ⟨e, hc, ha, hl, hs⟩ := id T
  have ht : t < h.length := (List.getElem?_eq_some_iff.mp e).1
  have x0 : ∀ (o : VO), (h.set t o)[t]? = some o := fun o => set_get ht
  obtain ⟨h1, a1, l1, e1, T1, k1⟩ : ∃ h1 a1 l1, m__law_take_0 [some (.ref t), some (.int m), none, none] h = .nx [some (.ref t), some (.int m), none, none] h1 ∧ Tape h1 t cs a1 l1 s z ∧ ∀ o, h1.set t o = h.set t o := by
    by_cases hq : l = 0 ∧ a < cs.length
    · obtain ⟨q1, q2⟩ := hq
      subst q1
      obtain ⟨i, rfl⟩ : ∃ i : Nat, a = i := ⟨a.toNat, by omega⟩
      have hi : i < cs.length := by omega
      refine ⟨h.set t (.dct (tp cs (i + 1) cs[i] s z)), i + 1, cs[i], ?_, ⟨x0 _, hc, by omega, hc _ (List.getElem_mem hi), hs⟩, fun o => by simp⟩
      unfold m__law_take_0
      simp [ix_refd e, hi, set_tp e, ix_refd (x0 _), set_tp (x0 _), itO_nn]
    · refine ⟨h, a, l, ?_, T, fun o => rfl⟩
      unfold m__law_take_0
      by_cases q1 : l = 0
      · have q2 : ¬ a < cs.length := fun z => hq ⟨q1, z⟩
        simp [ix_refd e, q1, q2]
      · simp [ix_refd e, q1]
  obtain ⟨v, l', z', ⟨σ, h', e2⟩, v0, vm, l0⟩ := take_1 T1 hm
  refine ⟨v, a1, l', z', ?_, v0, vm, ⟨x0 _, hc, T1.a0, l0, hs⟩⟩
  refine run_ret rfl ?_
  show m__law_take [some (.ref t), some (.int m), none, none] h = _
  unfold m__law_take
  rw [seqE e1]
  rw [k1] at e2
  rcases e2 with ⟨e2, e3⟩ | e2
  · rw [seqE e2, e3]
  · rw [sSeq_e, e2]
def absI (i : Int) : Int := if i < 0 then -i else i
def absV : PV → PV
  | .int i => .int (absI i)
  | x => x
theorem tape_cells (ns : List Int) (h : VH) (hl : ns.length ≤ line) : lcLoop (tName 1) mYes (mBi bAbs (mCons (mBi bInt (mCons (mVar 1) mNil)) mNil)) [some (.scr ns), none, none, none] (ns.map PV.int) [] h = .ok ((ns.map absI).map PV.int) h := by
  rw [lc_map absV _ _ (by simpa using hl) fun x hx => ?_]
  · rw [List.nil_append, List.map_map, List.map_map]; rfl
  · obtain ⟨i, _, rfl⟩ := List.mem_map.mp hx
    refine ⟨_, rfl, ?_⟩
    simp [absV, absI]
theorem tape_seed : ∀ (cs : List Int) (v c : PV) (s : Int) (x : Option PV) (h : VH), 0 ≤ s ∧ s < 2147483647 → ∃ s' x', forL (tName 1) m__law_tape_2_b (cs.map PV.int) [some v, x, some c, some (.int s)] h = .nx [some v, x', some c, some (.int s')] h ∧ 0 ≤ s' ∧ s' < 2147483647
  | [], v, c, s, x, h, hs => ⟨s, x, rfl, hs⟩
  | i :: r, v, c, s, x, h, hs => by
    obtain ⟨s', x', e, hs'⟩ := tape_seed r v c ((s * 31 + i) % 2147483647) (some (.int i)) h ⟨Int.emod_nonneg _ (by decide), Int.emod_lt_of_pos _ (by decide)⟩
    refine ⟨s', x', ?_, hs'⟩
    rw [List.map_cons, forL_cons]
    simp [m__law_tape_2_b, mulOk]
    exact e
theorem tape_ok (ns : List Int) (h : VH) (hl : ns.length ≤ 63) : ∃ s, F__law_tape [.scr ns] h = .ok (.ref h.length) (h ++ [.dct (tp (ns.map absI) 0 0 s 0)]) ∧ 0 ≤ s ∧ s < 2147483647 := by
  obtain ⟨s, x, e, hs⟩ := tape_seed (ns.map absI) (.scr ns) (.lst ((ns.map absI).map .int)) 7 none h (by decide)
  refine ⟨s, run_ret rfl ?_, hs⟩
  show m__law_tape [some (.scr ns), none, none, none] h = _
  have e1 := tape_cells ns h (Nat.le_trans hl (by decide))
  unfold m__law_tape m__law_tape_0 m__law_tape_1 m__law_tape_2 m__law_tape_3
  rw [List.map_map] at e1 e
  simp [Y.wipe, e1, e, kmerge, kput, kget, tp]
end Y.k33

set_option maxHeartbeats 1000000
namespace Y.k33
open PySem Y
/-! ### a store in the heap -/
def sf (s : Nat) (q u c : Int) : List (Nat × PV) := [(2, .ref (s + 1)), (3, .int q), (4, .int u), (5, .ref (s + 2)), (6, .int c), (7, .ref (s + 3)), (8, .ref (s + 4))]
structure StAt (h : VH) (s : Nat) (q u c : Int) (tx sz la pi : List (PV × PV)) : Prop where
  o : h[s]? = some (.ins 0 (sf s q u c))
  t : h[s + 1]? = some (.dct tx)
  z : h[s + 2]? = some (.dct sz)
  l : h[s + 3]? = some (.dct la)
  p : h[s + 4]? = some (.dct pi)
def InSt (s : Nat) (i : Nat) : Prop := s ≤ i ∧ i < s + 5
section
variable {h : VH} {s : Nat} {q u c : Int} {tx sz la pi : List (PV × PV)}
theorem StAt.t_ (S : StAt h s q u c tx sz la pi) : atO okF 2 (.ref s) h = some (.ref (s + 1)) := at_ok S.o rfl rfl
theorem StAt.q_ (S : StAt h s q u c tx sz la pi) : atO okF 3 (.ref s) h = some (.int q) := at_ok S.o rfl rfl
theorem StAt.u_ (S : StAt h s q u c tx sz la pi) : atO okF 4 (.ref s) h = some (.int u) := at_ok S.o rfl rfl
theorem StAt.z_ (S : StAt h s q u c tx sz la pi) : atO okF 5 (.ref s) h = some (.ref (s + 2)) := at_ok S.o rfl rfl
theorem StAt.c_ (S : StAt h s q u c tx sz la pi) : atO okF 6 (.ref s) h = some (.int c) := at_ok S.o rfl rfl
theorem StAt.l_ (S : StAt h s q u c tx sz la pi) : atO okF 7 (.ref s) h = some (.ref (s + 3)) := at_ok S.o rfl rfl
theorem StAt.p_ (S : StAt h s q u c tx sz la pi) : atO okF 8 (.ref s) h = some (.ref (s + 4)) := at_ok S.o rfl rfl
theorem StAt.k_ (S : StAt h s q u c tx sz la pi) : clsOf (.ref s) h = some 0 := cls_ok S.o
theorem StAt.su (S : StAt h s q u c tx sz la pi) (u' : Int) : setAt okF 4 (.ref s) (.int u') h = some (h.set s (.ins 0 (sf s q u' c))) := set_ok S.o rfl (by show 7 < 900; decide)
theorem StAt.sc (S : StAt h s q u c tx sz la pi) (c' : Int) : setAt okF 6 (.ref s) (.int c') h = some (h.set s (.ins 0 (sf s q u c'))) := set_ok S.o rfl (by show 7 < 900; decide)
theorem StAt.lt (S : StAt h s q u c tx sz la pi) : s + 4 < h.length := (List.getElem?_eq_some_iff.mp S.p).1
theorem StAt.ext {h' : VH} {P : Nat → Prop} (S : StAt h s q u c tx sz la pi) (x : Ext P h h') (n : ∀ i, InSt s i → ¬ P i) : StAt h' s q u c tx sz la pi :=
  ⟨x.get S.o (n _ ⟨by omega, by omega⟩), x.get S.t (n _ ⟨by omega, by omega⟩), x.get S.z (n _ ⟨by omega, by omega⟩), x.get S.l (n _ ⟨by omega, by omega⟩), x.get S.p (n _ ⟨by omega, by omega⟩)⟩
theorem StAt.wo (S : StAt h s q u c tx sz la pi) (u' c' : Int) : StAt (h.set s (.ins 0 (sf s q u' c'))) s q u' c' tx sz la pi := by
  have := S.lt
  refine ⟨List.getElem?_set_self (by omega), ?_, ?_, ?_, ?_⟩
  all_goals rw [List.getElem?_set_ne (by omega)]
  · exact S.t
  · exact S.z
  · exact S.l
  · exact S.p
theorem StAt.wt (S : StAt h s q u c tx sz la pi) (tx' : List (PV × PV)) : StAt (h.set (s + 1) (.dct tx')) s q u c tx' sz la pi := by
  have := S.lt
  refine ⟨?_, List.getElem?_set_self (by omega), ?_, ?_, ?_⟩
  all_goals rw [List.getElem?_set_ne (by omega)]
  · exact S.o
  · exact S.z
  · exact S.l
  · exact S.p
theorem StAt.wz (S : StAt h s q u c tx sz la pi) (sz' : List (PV × PV)) : StAt (h.set (s + 2) (.dct sz')) s q u c tx sz' la pi := by
  have := S.lt
  refine ⟨?_, ?_, List.getElem?_set_self (by omega), ?_, ?_⟩
  all_goals rw [List.getElem?_set_ne (by omega)]
  · exact S.o
  · exact S.t
  · exact S.l
  · exact S.p
theorem StAt.wl (S : StAt h s q u c tx sz la pi) (la' : List (PV × PV)) : StAt (h.set (s + 3) (.dct la')) s q u c tx sz la' pi := by
  have := S.lt
  refine ⟨?_, ?_, ?_, List.getElem?_set_self (by omega), ?_⟩
  all_goals rw [List.getElem?_set_ne (by omega)]
  · exact S.o
  · exact S.t
  · exact S.z
  · exact S.p
theorem StAt.wp (S : StAt h s q u c tx sz la pi) (pi' : List (PV × PV)) : StAt (h.set (s + 4) (.dct pi')) s q u c tx sz la pi' := by
  have := S.lt
  refine ⟨?_, ?_, ?_, ?_, List.getElem?_set_self (by omega)⟩
  all_goals rw [List.getElem?_set_ne (by omega)]
  · exact S.o
  · exact S.t
  · exact S.z
  · exact S.l
/-! ### the methods -/
theorem touch_ok (S : StAt h s q u c tx sz la pi) (hl : la.length < line) (n : List Nat) : ∃ h', F_Store_touch [.ref s, .str n] h = .ok .non h' ∧ StAt h' s q u (c + 1) tx sz (kput la (.str n) (.int (c + 1))) pi ∧ Ext (InSt s) h h' := by
  have S1 := S.wo u (c + 1)
  have S2 := S1.wl (kput la (.str n) (.int (c + 1)))
  refine ⟨_, run_nx (σ := [some (.ref s), some (.str n)]) rfl ?_, S2, (Ext.set (S := InSt s) ⟨by omega, by omega⟩).tr (Ext.set ⟨by omega, by omega⟩)⟩
  show m_Store_touch [some (.ref s), some (.str n)] h = _
  unfold m_Store_touch m_Store_touch_0 m_Store_touch_1
  simp [S.c_, S.k_, S.sc, S1.c_, S1.l_, augO, setIx_s n S1.l hl]
theorem has_no (S : StAt h s q u c tx sz la pi) {n : List Nat} (e : kget tx (.str n) = none) : F_Store_has [.ref s, .str n] h = .ok (.bl false) h := by
  refine run_ret rfl ?_
  show m_Store_has [some (.ref s), some (.str n)] h = _
  unfold m_Store_has
  simp [S.t_, inV_s n S.t, e]
theorem has_yes (S : StAt h s q u c tx sz la pi) {n t : List Nat} (e : kget tx (.str n) = some (.str t)) (hd : dig t = n) : F_Store_has [.ref s, .str n] h = .ok (.bl true) h := by
  refine run_ret rfl ?_
  show m_Store_has [some (.ref s), some (.str n)] h = _
  unfold m_Store_has
  simp [S.t_, inV_s n S.t, e, ix_s n S.t, digest_ok, hd]
theorem drop_ok (S : StAt h s q u c tx sz la pi) {n : List Nat} {a b : PV} {z : Int} (e1 : kget tx (.str n) = some a) (e2 : kget la (.str n) = some b) (e3 : kget sz (.str n) = some (.int z)) :
    ∃ h', F_Store_drop [.ref s, .str n] h = .ok .non h' ∧ StAt h' s q (u - z) c (kdrop tx (.str n)) (kdrop sz (.str n)) (kdrop la (.str n)) pi ∧ Ext (InSt s) h h' := by
  have S1 := S.wt (kdrop tx (.str n))
  have S2 := S1.wl (kdrop la (.str n))
  have S3 := S2.wz (kdrop sz (.str n))
  have S4 := S3.wo (u - z) c
  have i : ∀ k, k < 5 → InSt s (s + k) := fun k hk => ⟨by omega, by omega⟩
  refine ⟨_, run_nx (σ := [some (.ref s), some (.str n)]) rfl ?_, S4, (((Ext.set (S := InSt s) (i 1 (by omega))).tr (Ext.set (i 3 (by omega)))).tr (Ext.set (i 2 (by omega)))).tr (Ext.set (i 0 (by omega)))⟩
  show m_Store_drop [some (.ref s), some (.str n)] h = _
  unfold m_Store_drop m_Store_drop_0 m_Store_drop_1 m_Store_drop_2
  have p1 := bmd (o := mOp1 (atO okF 2) (mVar 0)) (as := mCons (mVar 1) mNil) (σ := [some (.ref s), some (.str n)]) (by simp [S.t_]) S.t (by simp) (popd1_s n S.t e1)
  have p2 := bmd (o := mOp1 (atO okF 7) (mVar 0)) (as := mCons (mVar 1) (mCons (mC .non) mNil)) (σ := [some (.ref s), some (.str n)]) (by simp [S1.l_]) S1.l (by simp) (popd2_s (d := .non) n S1.l e2)
  have p3 := bmd (o := mOp1 (atO okF 5) (mVar 0)) (as := mCons (mVar 1) (mCons (mC (.int 0)) mNil)) (σ := [some (.ref s), some (.str n)]) (by simp [S2.z_]) S2.z (by simp) (popd2_s (d := .int 0) n S2.z e3)
  simp [p1, p2, p3, S2.u_, S2.k_, S3.k_, S3.su, augO]
end
end Y.k33

set_option maxHeartbeats 1000000
namespace Y.k33
open PySem Y
/-! ### entries: a text and the moment of its last use -/
abbrev En := List Nat × Int
def tx (es : List En) : List (PV × PV) := es.map fun e => (.str (dig e.1), .str e.1)
def sz (n : Int) (es : List En) : List (PV × PV) := es.map fun e => (.str (dig e.1), .int n)
def la (es : List En) : List (PV × PV) := es.map fun e => (.str (dig e.1), .int e.2)
/-- names tell texts apart -/
def Dj (ts : List (List Nat)) : Prop := ∀ a ∈ ts, ∀ b ∈ ts, dig a = dig b → a = b
theorem kget_map_in {f : En → PV} {ts : List (List Nat)} (dj : Dj ts) : ∀ {es : List En}, (∀ e ∈ es, e.1 ∈ ts) → ∀ {t : List Nat}, t ∈ ts → kget (es.map fun e => (.str (dig e.1), f e)) (.str (dig t)) = (es.find? fun e => decide (e.1 = t)).map f
  | [], _, t, _ => rfl
  | e :: es, he, t, ht => by
    rw [List.map_cons, kget_cons, List.find?_cons]
    by_cases h : e.1 = t
    · simp [h]
    · have : PV.str (dig e.1) ≠ PV.str (dig t) := fun z => h (dj _ (he e List.mem_cons_self) _ ht (PV.str.inj z))
      rw [if_neg this, kget_map_in dj (fun e h => he e (List.mem_cons_of_mem _ h)) ht]
      simp [h]
theorem kdrop_map {f : En → PV} {ts : List (List Nat)} (dj : Dj ts) {es : List En} (he : ∀ e ∈ es, e.1 ∈ ts) {t : List Nat} (ht : t ∈ ts) : kdrop (es.map fun e => (.str (dig e.1), f e)) (.str (dig t)) = (es.filter fun e => decide (e.1 ≠ t)).map fun e => (.str (dig e.1), f e) := by
  unfold kdrop
  rw [List.filter_map]
  congr 1
  apply List.filter_congr
  intro e h
  simp only [Function.comp]
  apply decide_eq_decide.mpr
  constructor
  · intro q z; exact q (by rw [z])
  · intro q z; exact q (dj _ (he e h) _ ht (PV.str.inj z))
theorem find_some {es : List En} {t : List Nat} (h : t ∈ es.map (·.1)) : ∃ c, es.find? (fun e => decide (e.1 = t)) = some (t, c) ∧ (t, c) ∈ es := by
  induction es with
  | nil => simp at h
  | cons e es ih =>
    rw [List.find?_cons]
    by_cases q : e.1 = t
    · refine ⟨e.2, ?_, ?_⟩
      · simp [q]; exact Prod.ext q rfl
      · rw [← q]; exact List.mem_cons_self
    · rw [List.map_cons, List.mem_cons] at h
      rcases h with h | h
      · exact absurd h.symm q
      · obtain ⟨c, e1, e2⟩ := ih h
        exact ⟨c, by simpa [q] using e1, List.mem_cons_of_mem _ e2⟩
theorem find_is : ∀ {es : List En}, (es.map (·.1)).Nodup → ∀ {e : En}, e ∈ es → es.find? (fun d => decide (d.1 = e.1)) = some e
  | [], _, _, h => by cases h
  | d :: es, nd, e, h => by
    rw [List.map_cons, List.nodup_cons] at nd
    rw [List.find?_cons]
    rcases List.mem_cons.mp h with z | z
    · simp [z]
    · have : d.1 ≠ e.1 := fun q => nd.1 (q ▸ List.mem_map_of_mem z)
      simp only [this, decide_false]
      exact find_is nd.2 z
theorem find_none {es : List En} {t : List Nat} (h : t ∉ es.map (·.1)) : es.find? (fun e => decide (e.1 = t)) = none := by
  rw [List.find?_eq_none]
  intro e he q
  exact h (List.mem_map.mpr ⟨e, he, of_decide_eq_true q⟩)
/-! ### room is made -/
/-- what may go, in its order -/
def frees (cnt : List Nat → Int) (rs : List En) : List (Int × List Nat) := (rs.filter fun e => decide (cnt e.1 = 0)).map fun e => (e.2, dig e.1)
section
variable {h : VH} {s : Nat} {q u c n : Int} {es rs : List En} {pi : List (PV × PV)} {ts : List (List Nat)} {cnt : List Nat → Int}
theorem room_0 (S : StAt h s q u c (tx es) (sz n es) (la es) pi) (dj : Dj ts) (he : ∀ e ∈ es, e.1 ∈ ts) (nd : (es.map (·.1)).Nodup) (hl : es.length ≤ line) (hp : ∀ t ∈ ts, (kget pi (.str (dig t))).getD (.int 0) = .int (cnt t)) (pr : rs.Perm es) (ho : rs.Pairwise fun a b => a.2 < b.2) (z : Int) :
    m_Store_make_room_0 [some (.ref s), some (.int z), none, none] h = .nx [some (.ref s), some (.int z), some (.ref h.length), none] (h ++ [.lst ((frees cnt rs).map isV)]) := by
  unfold m_Store_make_room_0
  have hS : ∀ kv, StAt (h.set (s + 1) (.ldct (tx es))) s q u c kv (sz n es) (la es) pi → False → True := fun _ _ _ => trivial
  have e3 : (h.set (s + 1) (.ldct (tx es)))[s + 3]? = some (.dct (la es)) := by rw [List.getElem?_set_ne (by omega)]; exact S.l
  have e4 : (h.set (s + 1) (.ldct (tx es)))[s + 4]? = some (.dct pi) := by rw [List.getElem?_set_ne (by omega)]; exact S.p
  have e0 : (h.set (s + 1) (.ldct (tx es)))[s]? = some (.ins 0 (sf s q u c)) := by rw [List.getElem?_set_ne (by omega)]; exact S.o
  have e1 : (h.set (s + 1) (.ldct (tx es)))[s + 1]? = some (.ldct (tx es)) := List.getElem?_set_self (by have := S.lt; omega)
  have a2 : atO okF 2 (.ref s) (h.set (s + 1) (.ldct (tx es))) = some (.ref (s + 1)) := at_ok e0 rfl rfl
  have a7 : atO okF 7 (.ref s) (h.set (s + 1) (.ldct (tx es))) = some (.ref (s + 3)) := at_ok e0 rfl rfl
  have a8 : atO okF 8 (.ref s) (h.set (s + 1) (.ldct (tx es))) = some (.ref (s + 4)) := at_ok e0 rfl rfl
  have key : mLock (mOp1 (atO okF 2) (mVar 0)) (mLc (mKeys (mOp1 (atO okF 2) (mVar 0))) (tName 3) (mTest (mOp2 (cmpV .Eq) (mMeth noC ["dict"] bGet (mOp1 (atO okF 8) (mVar 0)) (mCons (mVar 3) (mCons (mC (.int 0)) mNil))) (mC (.int 0)))) (mTup (mCons (mOp2 ixO (mOp1 (atO okF 7) (mVar 0)) (mVar 3)) (mCons (mVar 3) mNil))) [3])
      [some (.ref s), some (.int z), none, none] h = .ok ((((es.filter fun e => decide (cnt e.1 = 0)).map fun e => (e.2, dig e.1))).map isV) h := by
    refine lock_ok (n := s + 1) (by simp [S.t_]) S.t ?_
    rw [mLc_e, keys_ok (n := s + 1) (by simp [a2]) e1]
    simp only [R.bnd_ok, Y.wipe, List.set]
    have ek : (tx es).map (·.1) = es.map fun e => PV.str (dig e.1) := by unfold tx; rw [List.map_map]; rfl
    rw [ek]
    have step := lc_fm (tg := tName 3) (t := mTest (mOp2 (cmpV .Eq) (mMeth noC ["dict"] bGet (mOp1 (atO okF 8) (mVar 0)) (mCons (mVar 3) (mCons (mC (.int 0)) mNil))) (mC (.int 0)))) (e := mTup (mCons (mOp2 ixO (mOp1 (atO okF 7) (mVar 0)) (mVar 3)) (mCons (mVar 3) mNil))) (σ := [some (.ref s), some (.int z), none, none]) (h := h.set (s + 1) (.ldct (tx es)))
      (fun x => decide ((kget pi x).getD (.int 0) = .int 0)) (fun x => .tup [(kget (la es) x).getD .non, x]) (es.map fun e => PV.str (dig e.1)) [] (by simpa using hl) fun x hx => by
        obtain ⟨e, he', rfl⟩ := List.mem_map.mp hx
        refine ⟨_, rfl, ?_, fun _ => ?_⟩
        · have g := bmd (o := mOp1 (atO okF 8) (mVar 0)) (as := mCons (mVar 3) (mCons (mC (.int 0)) mNil)) (σ := [some (.ref s), some (.int z), none, some (.str (dig e.1))]) (by simp [a8]) e4 (by simp) (get_s (d := .int 0) (dig e.1) e4)
          rw [hp _ (he e he')] at g ⊢
          simp [g]
        · have : kget (la es) (.str (dig e.1)) = some (.int e.2) := by
            unfold la
            rw [kget_map_in dj he (he e he')]
            rw [find_is nd he']
            rfl
          have l2 : (2 : Nat) ≤ line := by decide
          simp [a7, ix_s (dig e.1) e3, this, l2]
    rw [step, List.nil_append, List.filter_map, List.map_map, List.map_map]
    congr 1
    have f1 : ∀ e ∈ es, ((fun x => decide ((kget pi x).getD (.int 0) = .int 0)) ∘ fun e : En => PV.str (dig e.1)) e = decide (cnt e.1 = 0) := fun e he' => by
      simp only [Function.comp]
      rw [hp _ (he e he')]
      exact decide_eq_decide.mpr ⟨fun z => PV.int.inj z, fun z => by rw [z]⟩
    rw [List.filter_congr f1]
    refine List.map_congr_left fun e he' => ?_
    have he2 := (List.mem_filter.mp he').1
    simp only [Function.comp]
    have : kget (la es) (.str (dig e.1)) = some (.int e.2) := by
      unfold la
      rw [kget_map_in dj he (he e he2), find_is nd he2]
      rfl
    rw [this]
    rfl
  have es' : bSorted [.lst ((((es.filter fun e => decide (cnt e.1 = 0)).map fun e => (e.2, dig e.1))).map isV)] h = some ((frees cnt rs).map isV) := by
    show (if sortOk _ then some _ else none) = _
    rw [if_pos (sortOk_is _)]
    congr 1
    refine sort_isV ((pr.filter _).map _) ?_
    unfold frees
    rw [List.pairwise_map]
    exact ho.filter _
  simp only [sAsg_e, mReg_e, mBiL_e, mCons_e, mFz_e, mNil_e, key, R.bnd_ok, es', retO_some, R.thn_ok, tName_e]
  rfl
end
end Y.k33

set_option maxHeartbeats 1000000
namespace Y.k33
open PySem Y
/-! ### entries, changed -/
def upE (es : List En) (t : List Nat) (v : Int) : List En := es.map fun e => if e.1 = t then (t, v) else e
def out (es : List En) (t : List Nat) : List En := es.filter fun e => decide (e.1 ≠ t)
theorem tx_up (es : List En) (t : List Nat) (v : Int) : tx (upE es t v) = tx es := by
  unfold tx upE
  rw [List.map_map]
  refine List.map_congr_left fun e _ => ?_
  simp only [Function.comp]
  split
  · rename_i h; rw [h]
  · rfl
theorem sz_up (n : Int) (es : List En) (t : List Nat) (v : Int) : sz n (upE es t v) = sz n es := by
  unfold sz upE
  rw [List.map_map]
  refine List.map_congr_left fun e _ => ?_
  simp only [Function.comp]
  split
  · rename_i h; rw [h]
  · rfl
theorem up_fst (es : List En) (t : List Nat) (v : Int) : (upE es t v).map (·.1) = es.map (·.1) := by
  unfold upE
  rw [List.map_map]
  refine List.map_congr_left fun e _ => ?_
  simp only [Function.comp]
  split
  · rename_i h; rw [h]
  · rfl
theorem kget_la {ts : List (List Nat)} (dj : Dj ts) {es : List En} (he : ∀ e ∈ es, e.1 ∈ ts) {f : En → PV} {t : List Nat} (ht : t ∈ ts) (hn : t ∉ es.map (·.1)) : kget (es.map fun e => (.str (dig e.1), f e)) (.str (dig t)) = none := by
  rw [kget_map_in dj he ht, find_none hn]
  rfl
theorem kput_new {ts : List (List Nat)} (dj : Dj ts) {es : List En} (he : ∀ e ∈ es, e.1 ∈ ts) {f : En → PV} {t : List Nat} (ht : t ∈ ts) (hn : t ∉ es.map (·.1)) (v : PV) : kput (es.map fun e => (.str (dig e.1), f e)) (.str (dig t)) v = (es.map fun e => (.str (dig e.1), f e)) ++ [(.str (dig t), v)] := by
  unfold kput
  rw [kget_la dj he ht hn]
  rfl
theorem kput_la {ts : List (List Nat)} (dj : Dj ts) {es : List En} (he : ∀ e ∈ es, e.1 ∈ ts) {t : List Nat} (ht : t ∈ ts) (hi : t ∈ es.map (·.1)) (v : Int) : kput (la es) (.str (dig t)) (.int v) = la (upE es t v) := by
  obtain ⟨c, f1, _⟩ := find_some hi
  unfold kput la upE
  rw [kget_map_in dj he ht, f1]
  simp only [Option.map_some, Option.isSome_some, if_true, List.map_map]
  refine List.map_congr_left fun e h => ?_
  simp only [Function.comp]
  by_cases q : e.1 = t
  · simp [q]
  · have : PV.str (dig e.1) ≠ PV.str (dig t) := fun z => q (dj _ (he e h) _ ht (PV.str.inj z))
    simp [q, this]
theorem out_id {es : List En} {t : List Nat} (h : t ∉ es.map (·.1)) : out es t = es := by
  unfold out
  rw [List.filter_eq_self]
  intro e he
  exact decide_eq_true fun q => h (q ▸ List.mem_map_of_mem he)
theorem up_id {es : List En} {t : List Nat} {v : Int} (h : t ∉ es.map (·.1)) : upE es t v = es := by
  unfold upE
  rw [List.map_congr_left (g := id) fun e he => ?_, List.map_id]
  have q : e.1 ≠ t := fun q => h (q ▸ List.mem_map_of_mem he)
  simp [q]
theorem up_perm : ∀ {es : List En} {t : List Nat} {v : Int}, (es.map (·.1)).Nodup → t ∈ es.map (·.1) → (upE es t v).Perm (out es t ++ [(t, v)])
  | [], _, _, _, h => by simp at h
  | e :: es, t, v, nd, h => by
    rw [List.map_cons, List.nodup_cons] at nd
    by_cases q : e.1 = t
    · have hn : t ∉ es.map (·.1) := by rw [← q]; exact nd.1
      have e1 : upE (e :: es) t v = (t, v) :: es := by
        have := up_id (v := v) hn
        unfold upE at this ⊢
        rw [List.map_cons, if_pos q, this]
      have e2 : out (e :: es) t = es := by
        have := out_id hn
        unfold out at this ⊢
        rw [List.filter_cons_of_neg (by simp [q]), this]
      rw [e1, e2]
      exact (List.perm_append_singleton _ _).symm
    · rw [List.map_cons, List.mem_cons] at h
      have h := h.resolve_left fun z => q z.symm
      have e1 : upE (e :: es) t v = e :: upE es t v := by unfold upE; rw [List.map_cons, if_neg q]
      have e2 : out (e :: es) t = e :: out es t := by unfold out; rw [List.filter_cons_of_pos (by simp [q])]
      rw [e1, e2]
      exact .cons e (up_perm nd.2 h)
theorem out_perm {es rs : List En} {t : List Nat} (p : rs.Perm es) : (out rs t).Perm (out es t) := p.filter _
theorem out_fst (es : List En) (t : List Nat) : (out es t).map (·.1) = (es.map (·.1)).filter fun x => decide (x ≠ t) := by
  unfold out
  rw [List.filter_map]
  rfl
theorem out_len {es : List En} {t : List Nat} (nd : (es.map (·.1)).Nodup) (h : t ∈ es.map (·.1)) : (out es t).length + 1 = es.length := by
  have p := up_perm (v := 0) nd h
  have := p.length_eq
  unfold upE at this
  rw [List.length_map, List.length_append] at this
  exact this.symm
/-! ### a store, by the texts that it has: used longest ago first -/
structure Sto (h : VH) (s : Nat) (q n : Int) (ts : List (List Nat)) (cnt : List Nat → Int) (N : Nat) (row : List (List Nat)) (rs es : List En) (c : Int) (pi : List (PV × PV)) : Prop where
  st : StAt h s q (n * es.length) c (tx es) (sz n es) (la es) pi
  pl : pi.length ≤ N
  pn : ∀ t ∈ ts, (kget pi (.str (dig t))).getD (.int 0) = .int (cnt t)
  he : ∀ e ∈ es, e.1 ∈ ts
  nd : (es.map (·.1)).Nodup
  pr : rs.Perm es
  ho : rs.Pairwise fun a b => a.2 < b.2
  up : ∀ e ∈ es, e.2 ≤ c
  rw_ : row = rs.map (·.1)
def StoR (h : VH) (s : Nat) (q n : Int) (ts : List (List Nat)) (cnt : List Nat → Int) (N : Nat) (row : List (List Nat)) : Prop := ∃ rs es c pi, Sto h s q n ts cnt N row rs es c pi
section
variable {h h' : VH} {s : Nat} {q n c : Int} {ts : List (List Nat)} {cnt : List Nat → Int} {N : Nat} {row : List (List Nat)} {rs es : List En} {pi : List (PV × PV)}
theorem Sto.row_es (S : Sto h s q n ts cnt N row rs es c pi) : row.Perm (es.map (·.1)) := by rw [S.rw_]; exact S.pr.map _
theorem Sto.mem (S : Sto h s q n ts cnt N row rs es c pi) {t : List Nat} : t ∈ row ↔ t ∈ es.map (·.1) := S.row_es.mem_iff
theorem Sto.len (S : Sto h s q n ts cnt N row rs es c pi) : es.length = row.length := by have := S.row_es.length_eq; rw [List.length_map] at this; exact this.symm
theorem Sto.ndr (S : Sto h s q n ts cnt N row rs es c pi) : row.Nodup := S.row_es.nodup_iff.mpr S.nd
theorem Sto.sub (S : Sto h s q n ts cnt N row rs es c pi) {t : List Nat} (ht : t ∈ row) : t ∈ ts := by
  obtain ⟨e, he, rfl⟩ := List.mem_map.mp (S.mem.mp ht)
  exact S.he e he
theorem Sto.ext {P : Nat → Prop} (S : Sto h s q n ts cnt N row rs es c pi) (x : Ext P h h') (hn : ∀ i, InSt s i → ¬ P i) : Sto h' s q n ts cnt N row rs es c pi := ⟨S.st.ext x hn, S.pl, S.pn, S.he, S.nd, S.pr, S.ho, S.up, S.rw_⟩
theorem StoR.ext {P : Nat → Prop} (S : StoR h s q n ts cnt N row) (x : Ext P h h') (hn : ∀ i, InSt s i → ¬ P i) : StoR h' s q n ts cnt N row := by
  obtain ⟨rs, es, c, pi, S⟩ := S
  exact ⟨rs, es, c, pi, S.ext x hn⟩
/-- a text that is there is used -/
theorem use_ok (dj : Dj ts) (S : Sto h s q n ts cnt N row rs es c pi) {t : List Nat} (ht : t ∈ row) (hl : es.length < line) : ∃ h', F_Store_touch [.ref s, .str (dig t)] h = .ok .non h' ∧ StoR h' s q n ts cnt N (row.filter (fun x => decide (x ≠ t)) ++ [t]) ∧ Ext (InSt s) h h' := by
  have hi := S.mem.mp ht
  have hts := S.sub ht
  obtain ⟨h', e1, S', x⟩ := touch_ok S.st (by unfold la; rw [List.length_map]; exact hl) (dig t)
  refine ⟨h', e1, ⟨out rs t ++ [(t, c + 1)], upE es t (c + 1), c + 1, pi, ?_⟩, x⟩
  rw [kput_la dj S.he hts hi] at S'
  have hlen : (upE es t (c + 1)).length = es.length := by unfold upE; rw [List.length_map]
  refine ⟨by rw [hlen, tx_up, sz_up]; exact S', S.pl, S.pn, fun e h => ?_, by rw [up_fst]; exact S.nd, ?_, ?_, fun e h => ?_, ?_⟩
  · have : e.1 ∈ (upE es t (c + 1)).map (·.1) := List.mem_map_of_mem h
    rw [up_fst] at this
    obtain ⟨d, hd, e2⟩ := List.mem_map.mp this
    rw [← e2]; exact S.he d hd
  · exact ((out_perm S.pr).append_right _).trans (up_perm S.nd hi).symm
  · rw [List.pairwise_append]
    refine ⟨S.ho.filter _, List.pairwise_singleton _ _, fun a ha b hb => ?_⟩
    rw [List.mem_singleton.mp hb]
    have := S.up a (S.pr.mem_iff.mp (List.mem_filter.mp ha).1)
    show a.2 < c + 1
    omega
  · unfold upE at h
    obtain ⟨d, hd, e2⟩ := List.mem_map.mp h
    split at e2
    · rw [← e2]; exact Int.le_refl _
    · rw [← e2]; have := S.up d hd; omega
  · rw [List.map_append, out_fst, ← S.rw_]
    rfl
end
end Y.k33

set_option maxHeartbeats 1000000
namespace Y.k33
open PySem Y
section
variable {h h' : VH} {s : Nat} {q n c : Int} {ts : List (List Nat)} {cnt : List Nat → Int} {N : Nat} {row : List (List Nat)} {rs es : List En} {pi : List (PV × PV)}
theorem Sto.room0 (dj : Dj ts) (S : Sto h s q n ts cnt N row rs es c pi) (hl : es.length ≤ line) (z : Int) : m_Store_make_room_0 [some (.ref s), some (.int z), none, none] h = .nx [some (.ref s), some (.int z), some (.ref h.length), none] (h ++ [.lst ((frees cnt rs).map isV)]) :=
  room_0 S.st dj S.he S.nd hl S.pn S.pr S.ho z
theorem Sto.push (S : Sto h s q n ts cnt N row rs es c pi) (l : List VO) : Sto (h ++ l) s q n ts cnt N row rs es c pi := S.ext (Ext.push (S := fun _ => False)) fun _ _ z => z
theorem test_no {σ : Sl} {u z : Int} {tx sz la pi : List (PV × PV)} (S : StAt h s q u c tx sz la pi) {F : PV} {x : Option PV} (hz : u + z ≤ q) : (mAnd (mTest (mOp2 (cmpV .Gt) (mOp2 (binO .Add) (mOp1 (atO okF 4) (mVar 0)) (mVar 1)) (mOp1 (atO okF 3) (mVar 0)))) (mTruth (mVar 2))) [some (.ref s), some (.int z), some F, x] h = .ok false h := by
  have : ¬ q < u + z := by omega
  simp [S.u_, S.q_, this]
theorem test_yes {σ : Sl} {u z : Int} {tx sz la pi : List (PV × PV)} (S : StAt h s q u c tx sz la pi) {F : Nat} {l : List PV} {x : Option PV} (hz : q < u + z) (e : h[F]? = some (.lst l)) : (mAnd (mTest (mOp2 (cmpV .Gt) (mOp2 (binO .Add) (mOp1 (atO okF 4) (mVar 0)) (mVar 1)) (mOp1 (atO okF 3) (mVar 0)))) (mTruth (mVar 2))) [some (.ref s), some (.int z), some (.ref F), x] h = .ok (!l.isEmpty) h := by
  have t : truth (.ref F) h = .ok (!l.isEmpty) h := by unfold truth; simp only [e]
  simp [S.u_, S.q_, hz, t]
theorem room_A (dj : Dj ts) (S : Sto h s q n ts cnt N row rs es c pi) (hl : es.length ≤ line) {z : Int} (hz : n * row.length + z ≤ q) : ∃ h', F_Store_make_room [.ref s, .int z] h = .ok .non h' ∧ Sto h' s q n ts cnt N row rs es c pi ∧ Ext (InSt s) h h' := by
  have S1 := S.push [.lst ((frees cnt rs).map isV)]
  rw [← S.len] at hz
  refine ⟨_, run_nx (σ := [some (.ref s), some (.int z), some (.ref h.length), none]) rfl ?_, S1, Ext.push⟩
  show m_Store_make_room [some (.ref s), some (.int z), none, none] h = _
  unfold m_Store_make_room
  rw [seqE (S.room0 dj hl z)]
  unfold m_Store_make_room_1 m_Store_make_room_2
  rw [sSeq_e, sWhile_e, test_no (σ := []) S1.st hz]
  have : ¬ q < n * (es.length : Int) + z := by omega
  simp [S1.st.u_, S1.st.q_, this]
theorem room_B (dj : Dj ts) (S : Sto h s q n ts cnt N row rs es c pi) (hl : es.length ≤ line) {z : Int} (hz : q < n * row.length + z) (hf : row.filter (fun t => decide (cnt t = 0)) = []) : ∃ h', F_Store_make_room [.ref s, .int z] h = .exc 0 [(1, .str []), (0, t_full)] h' ∧ Sto h' s q n ts cnt N row rs es c pi ∧ Ext (InSt s) h h' := by
  have S1 := S.push [.lst []]
  rw [← S.len] at hz
  have e0 : frees cnt rs = [] := by
    unfold frees
    rw [S.rw_, List.filter_map, List.map_eq_nil_iff] at hf
    have : rs.filter (fun e => decide (cnt e.1 = 0)) = [] := hf
    rw [this]; rfl
  have r0 := S.room0 dj hl z
  rw [e0, List.map_nil] at r0
  refine ⟨_, run_exc (σ := [some (.ref s), some (.int z), some (.ref h.length), none]) rfl ?_, S1, Ext.push⟩
  show m_Store_make_room [some (.ref s), some (.int z), none, none] h = _
  unfold m_Store_make_room
  rw [seqE r0]
  unfold m_Store_make_room_1 m_Store_make_room_2
  have e1 : (h ++ [VO.lst []])[h.length]? = some (.lst []) := by simp
  rw [sSeq_e, sWhile_e, test_yes (σ := []) S1.st hz e1]
  simp [S1.st.u_, S1.st.q_, hz, mkF]
theorem room_C (dj : Dj ts) (S : Sto h s q n ts cnt N row rs es c pi) (hl : es.length ≤ line) {z : Int} (hz : q < n * row.length + z) (hz2 : n * row.length - n + z ≤ q) {g : List Nat} {r : List (List Nat)} (hf : row.filter (fun t => decide (cnt t = 0)) = g :: r) :
    ∃ h', F_Store_make_room [.ref s, .int z] h = .ok .non h' ∧ StoR h' s q n ts cnt N (row.filter fun x => decide (x ≠ g)) ∧ Ext (InSt s) h h' := by
  rw [← S.len] at hz hz2
  have hlen := S.st.lt
  have hg : g ∈ row := (List.mem_filter.mp (hf ▸ List.mem_cons_self : g ∈ row.filter _)).1
  have hgs := S.mem.mp hg
  have hgt := S.sub hg
  obtain ⟨v, fr', e0⟩ : ∃ v fr', frees cnt rs = (v, dig g) :: fr' := by
    unfold frees
    rw [S.rw_, List.filter_map] at hf
    cases e : rs.filter ((fun t => decide (cnt t = 0)) ∘ fun x => x.1) with
    | nil => rw [e] at hf; simp at hf
    | cons d ds =>
      rw [e] at hf
      have e2 : rs.filter (fun e => decide (cnt e.1 = 0)) = d :: ds := e
      simp only [List.map_cons, List.cons.injEq] at hf
      rw [e2, List.map_cons]
      exact ⟨_, _, by rw [hf.1]⟩
  have r0 := S.room0 dj hl z
  rw [e0, List.map_cons] at r0
  have S1 := S.push [.lst (isV (v, dig g) :: fr'.map isV)]
  have e1 : (h ++ [VO.lst (isV (v, dig g) :: fr'.map isV)])[h.length]? = some (.lst (isV (v, dig g) :: fr'.map isV)) := by simp
  -- the list loses its first
  have hP : bPop (.ref h.length) [.int 0] (h ++ [VO.lst (isV (v, dig g) :: fr'.map isV)]) = some (isV (v, dig g), (h ++ [VO.lst (isV (v, dig g) :: fr'.map isV)]).set h.length (.lst (fr'.map isV))) := by
    unfold bPop
    simp only [e1]
    have : bPopL (isV (v, dig g) :: fr'.map isV) [.int 0] = some (isV (v, dig g), fr'.map isV) := by
      unfold bPopL
      simp [atI]
    rw [this]
    rfl
  have es' : (h ++ [VO.lst (isV (v, dig g) :: fr'.map isV)]).set h.length (.lst (fr'.map isV)) = h ++ [.lst (fr'.map isV)] := by simp
  rw [es'] at hP
  have S2 := S.push [.lst (fr'.map isV)]
  obtain ⟨c1, f1, f2⟩ := find_some hgs
  have k1 : kget (tx es) (.str (dig g)) = some (.str g) := by unfold tx; rw [kget_map_in dj S.he hgt, f1]; rfl
  have k2 : kget (la es) (.str (dig g)) = some (.int c1) := by unfold la; rw [kget_map_in dj S.he hgt, f1]; rfl
  have k3 : kget (sz n es) (.str (dig g)) = some (.int n) := by unfold sz; rw [kget_map_in dj S.he hgt, f1]; rfl
  obtain ⟨h3, ed, S3, X3⟩ := drop_ok S2.st k1 k2 k3
  have d1 : kdrop (tx es) (.str (dig g)) = tx (out es g) := kdrop_map dj S.he hgt
  have d2 : kdrop (la es) (.str (dig g)) = la (out es g) := kdrop_map dj S.he hgt
  have d3 : kdrop (sz n es) (.str (dig g)) = sz n (out es g) := kdrop_map dj S.he hgt
  rw [d1, d2, d3] at S3
  have ol := out_len S.nd hgs
  have eu : n * (es.length : Int) - n = n * ((out es g).length : Int) := by
    rw [← ol, Int.natCast_add, Int.mul_add]
    simp
  rw [eu] at S3 hz2
  have XX : Ext (InSt s) h h3 := Ext.push.tr X3
  refine ⟨h3, run_nx (σ := [some (.ref s), some (.int z), some (.ref h.length), none]) rfl ?_, ⟨out rs g, out es g, c, pi, ?_⟩, XX⟩
  · show m_Store_make_room [some (.ref s), some (.int z), none, none] h = _
    unfold m_Store_make_room
    rw [seqE r0]
    unfold m_Store_make_room_1
    have body : m_Store_make_room_1_b [some (.ref s), some (.int z), some (.ref h.length), none] (h ++ [VO.lst (isV (v, dig g) :: fr'.map isV)]) = .nx [some (.ref s), some (.int z), some (.ref h.length), none] h3 := by
      unfold m_Store_make_room_1_b
      have g1 := bml (o := mVar 2) (as := mCons (mC (.int 0)) mNil) (σ := [some (.ref s), some (.int z), some (.ref h.length), none]) (by simp) e1 (by simp) hP
      have i1 : ∀ hh, ixO (isV (v, dig g)) (.int 1) hh = some (.str (dig g)) := fun _ => rfl
      simp [S1.st.k_, g1, i1, ed]
    have nt := test_no (σ := []) (F := .ref h.length) (x := none) S3 hz2
    rw [sSeq_e, sWhile_e, test_yes (σ := []) S1.st hz e1]
    simp only [R.thn_ok, List.isEmpty_cons, Bool.not_false, if_true]
    rw [body, again_nx, sWhile_e, nt]
    unfold m_Store_make_room_2
    have : ¬ q < n * ((out es g).length : Int) + z := by omega
    simp [S3.u_, S3.q_, this]
  · refine ⟨S3, S.pl, S.pn, fun e he => S.he e (List.mem_filter.mp he).1, ?_, out_perm S.pr, S.ho.filter _, fun e he => S.up e (List.mem_filter.mp he).1, ?_⟩
    · rw [out_fst]; exact S.nd.filter _
    · rw [out_fst, ← S.rw_]
end
end Y.k33

set_option maxHeartbeats 1000000
namespace Y.k33
open PySem Y
/-! ### a text is put, a text is asked -/
def putRow (cnt : List Nat → Int) (rm : Nat) (row : List (List Nat)) (t : List Nat) : Option (List (List Nat)) :=
  if t ∈ row then some (row.filter (fun x => decide (x ≠ t)) ++ [t])
  else if row.length < rm then some (row ++ [t])
  else match row.filter fun x => decide (cnt x = 0) with
    | [] => none
    | g :: _ => some (row.filter (fun x => decide (x ≠ g)) ++ [t])
abbrev noRoom : List (Nat × PV) := [(1, .str []), (0, t_full)]
section
variable {h h' : VH} {s : Nat} {q n c : Int} {ts : List (List Nat)} {cnt : List Nat → Int} {N rm : Nat} {row : List (List Nat)} {rs es : List En} {pi : List (PV × PV)}
theorem Sto.kt (dj : Dj ts) (S : Sto h s q n ts cnt N row rs es c pi) {t : List Nat} (ht : t ∈ row) : kget (tx es) (.str (dig t)) = some (.str t) := by
  obtain ⟨c1, f1, f2⟩ := find_some (S.mem.mp ht)
  unfold tx; rw [kget_map_in dj S.he (S.sub ht), f1]; rfl
theorem Sto.kn (dj : Dj ts) (S : Sto h s q n ts cnt N row rs es c pi) {t : List Nat} (hts : t ∈ ts) (ht : t ∉ row) {f : En → PV} : kget (es.map fun e => (.str (dig e.1), f e)) (.str (dig t)) = none :=
  kget_la dj S.he hts fun z => ht (S.mem.mpr z)
theorem l8 {a : Nat} (h : a ≤ 8) : a < line := Nat.lt_of_le_of_lt h (by decide)
theorem add_ok (dj : Dj ts) (S : Sto h s q n ts cnt N row rs es c pi) {t : List Nat} (hts : t ∈ ts) (ht : t ∉ row) (hn : (t.length : Int) = n) (hl : row.length ≤ 7) (τ : Option PV) :
    ∃ h2 h', sSeq (sAsg (mVar 1) (tSub (mOp1 (atO okF 2) (mVar 0)) (mVar 2))) (sSeq (sAsg (mBi bLen (mCons (mVar 1) mNil)) (tSub (mOp1 (atO okF 5) (mVar 0)) (mVar 2))) (sAugAt okF 4 (augO .Add) (mVar 0) (mBi bLen (mCons (mVar 1) mNil)))) [some (.ref s), some (.str t), some (.str (dig t))] h = .nx [some (.ref s), some (.str t), some (.str (dig t))] h2 ∧
      clsOf (.ref s) h2 = some 0 ∧ F_Store_touch [.ref s, .str (dig t)] h2 = .ok .non h' ∧ StoR h' s q n ts cnt N (row ++ [t]) ∧ Ext (InSt s) h h' := by
  have hl8 : es.length ≤ 8 := by rw [S.len]; omega
  have S1 := S.st.wt (kput (tx es) (.str (dig t)) (.str t))
  have S2 := S1.wz (kput (sz n es) (.str (dig t)) (.int n))
  have S3 := S2.wo (n * (es.length : Int) + n) c
  obtain ⟨h', e1, S4, X4⟩ := touch_ok S3 (by unfold la; rw [List.length_map]; exact l8 hl8) (dig t)
  have ne : t ∉ es.map (·.1) := fun z => ht (S.mem.mpr z)
  have a1 : kput (tx es) (.str (dig t)) (.str t) = tx (es ++ [(t, c + 1)]) := by unfold tx; rw [kput_new dj S.he hts ne, List.map_append]; rfl
  have a2 : kput (sz n es) (.str (dig t)) (.int n) = sz n (es ++ [(t, c + 1)]) := by unfold sz; rw [kput_new dj S.he hts ne, List.map_append]; rfl
  have a3 : kput (la es) (.str (dig t)) (.int (c + 1)) = la (es ++ [(t, c + 1)]) := by unfold la; rw [kput_new dj S.he hts ne, List.map_append]; rfl
  have a4 : n * (es.length : Int) + n = n * ((es ++ [(t, c + 1)]).length : Int) := by rw [List.length_append, Int.natCast_add, Int.mul_add]; simp
  refine ⟨_, h', ?_, S3.k_, e1, ⟨rs ++ [(t, c + 1)], es ++ [(t, c + 1)], c + 1, pi, ?_⟩, ?_⟩
  · have l1 : (tx es).length < line := by unfold tx; rw [List.length_map]; exact l8 hl8
    have l2 : (sz n es).length < line := by unfold sz; rw [List.length_map]; exact l8 hl8
    simp [S.st.t_, setIx_s _ S.st.t l1, S1.z_, setIx_s _ S1.z l2, hn, S2.u_, S2.k_, S2.su, augO]
  · refine ⟨by rw [← a1, ← a2, ← a3, ← a4]; exact S4, S.pl, S.pn, fun e he => ?_, ?_, S.pr.append_right _, ?_, fun e he => ?_, ?_⟩
    · rcases List.mem_append.mp he with z | z
      · exact S.he e z
      · rw [List.mem_singleton.mp z]; exact hts
    · rw [List.map_append, List.nodup_append]
      refine ⟨S.nd, by simp, fun a ha b hb z => ?_⟩
      have : b = t := by simpa using hb
      exact ne (by rw [← this, ← z]; exact ha)
    · rw [List.pairwise_append]
      refine ⟨S.ho, List.pairwise_singleton _ _, fun a ha b hb => ?_⟩
      rw [List.mem_singleton.mp hb]
      have := S.up a (S.pr.mem_iff.mp ha)
      show a.2 < c + 1
      omega
    · rcases List.mem_append.mp he with z | z
      · have := S.up e z; omega
      · rw [List.mem_singleton.mp z]; exact Int.le_refl _
    · rw [List.map_append, ← S.rw_]; rfl
  · have i : ∀ k, k < 5 → InSt s (s + k) := fun k hk => ⟨by omega, by omega⟩
    exact (((Ext.set (S := InSt s) (i 1 (by omega))).tr (Ext.set (i 2 (by omega)))).tr (Ext.set (i 0 (by omega)))).tr X4
theorem put_tail (S : StoR h s q n ts cnt N row) {t : List Nat} : clsOf (.ref s) h = some 0 := by
  obtain ⟨rs, es, c, pi, S⟩ := S
  exact S.st.k_
theorem put_ok (dj : Dj ts) (S : StoR h s q n ts cnt N row) {t : List Nat} (hts : t ∈ ts) (hn : (t.length : Int) = n) (hl : row.length ≤ rm) (h7 : rm ≤ 7) (q1 : n * rm ≤ q) (q2 : q < n * rm + n) (np : 0 < n) :
    ∃ h', Ext (InSt s) h h' ∧ ((∃ row', putRow cnt rm row t = some row' ∧ F_Store_put [.ref s, .str t] h = .ok (.str (dig t)) h' ∧ StoR h' s q n ts cnt N row') ∨ (putRow cnt rm row t = none ∧ F_Store_put [.ref s, .str t] h = .exc 0 noRoom h' ∧ StoR h' s q n ts cnt N row)) := by
  obtain ⟨rs, es, c, pi, S⟩ := S
  have hl8 : es.length ≤ 8 := by rw [S.len]; omega
  have hll : es.length ≤ line := Nat.le_of_lt (l8 hl8)
  by_cases hi : t ∈ row
  · obtain ⟨h', e1, S1, X⟩ := use_ok dj S hi (l8 hl8)
    refine ⟨h', X, .inl ⟨_, by unfold putRow; rw [if_pos hi], ?_, S1⟩⟩
    refine run_ret rfl ?_
    show m_Store_put [some (.ref s), some (.str t), none] h = _
    unfold m_Store_put m_Store_put_0 m_Store_put_1 m_Store_put_2 m_Store_put_3
    simp [digest_ok, S.st.k_, has_yes S.st (S.kt dj hi) rfl, e1]
  · have h1 := has_no S.st (S.kn dj hts hi (f := fun e => .str e.1))
    have h2 := inV_s (h := h) (dig t) S.st.t
    rw [show kget (tx es) (.str (dig t)) = none from S.kn dj hts hi (f := fun e => .str e.1)] at h2
    -- room is made, and then
    have fin : ∀ {h1 : VH} {row1 : List (List Nat)}, F_Store_make_room [.ref s, .int n] h = .ok .non h1 → StoR h1 s q n ts cnt N row1 → t ∉ row1 → row1.length ≤ 7 → Ext (InSt s) h h1 → ∃ h', Ext (InSt s) h h' ∧ F_Store_put [.ref s, .str t] h = .ok (.str (dig t)) h' ∧ StoR h' s q n ts cnt N (row1 ++ [t]) := by
      intro h1' row1 er S1 n1 l1 X1
      obtain ⟨rs1, es1, c1, pi1, S1⟩ := S1
      obtain ⟨h2', h', a1, a2, a3, a4, a5⟩ := add_ok dj S1 hts n1 hn l1 none
      refine ⟨h', X1.tr a5, ?_, a4⟩
      refine run_ret rfl ?_
      show m_Store_put [some (.ref s), some (.str t), none] h = _
      unfold m_Store_put m_Store_put_0 m_Store_put_1 m_Store_put_2 m_Store_put_3
      rw [sSeq_e] at a1
      simp [digest_ok, S.st.k_, h1, S.st.t_, h2, hn, er] 
      simp at a1
      simp [a1, a2, a3]
    have hc : n * (row.length : Int) ≤ n * (rm : Int) := Int.mul_le_mul_of_nonneg_left (by omega) (by omega)
    by_cases hf : row.length < rm
    · have hz : n * (row.length : Int) + n ≤ q := by
        have : n * ((row.length : Int) + 1) ≤ n * (rm : Int) := Int.mul_le_mul_of_nonneg_left (by omega) (by omega)
        rw [Int.mul_add] at this
        omega
      obtain ⟨h', er, S1, X1⟩ := room_A dj S hll hz
      obtain ⟨h', x, e, z⟩ := fin er ⟨_, _, _, _, S1⟩ hi (by omega) X1
      exact ⟨h', x, .inl ⟨_, by unfold putRow; rw [if_neg hi, if_pos hf], e, z⟩⟩
    · have hz : q < n * (row.length : Int) + n := by
        have : row.length = rm := by omega
        rw [this]; exact q2
      cases hg : row.filter fun x => decide (cnt x = 0) with
      | nil =>
        obtain ⟨h', er, S1, X1⟩ := room_B dj S hll hz hg
        refine ⟨h', X1, .inr ⟨by unfold putRow; rw [if_neg hi, if_neg hf, hg], ?_, ⟨_, _, _, _, S1⟩⟩⟩
        refine run_exc (σ := [some (.ref s), some (.str t), some (.str (dig t))]) rfl ?_
        show m_Store_put [some (.ref s), some (.str t), none] h = _
        unfold m_Store_put m_Store_put_0 m_Store_put_1 m_Store_put_2 m_Store_put_3
        simp [digest_ok, S.st.k_, h1, S.st.t_, h2, hn, er]
      | cons g r =>
        have hz2 : n * (row.length : Int) - n + n ≤ q := by omega
        obtain ⟨h', er, S1, X1⟩ := room_C dj S hll hz hz2 hg
        obtain ⟨h', x, e, z⟩ := fin er S1 (fun z => hi (List.mem_filter.mp z).1) (Nat.le_trans (List.length_filter_le _ _) (by omega)) X1
        exact ⟨h', x, .inl ⟨_, by unfold putRow; rw [if_neg hi, if_neg hf, hg], e, z⟩⟩
/-- get -/
theorem get_yes (dj : Dj ts) (S : StoR h s q n ts cnt N row) {t : List Nat} (ht : t ∈ row) (hl : row.length ≤ 7) : ∃ h', Ext (InSt s) h h' ∧ F_Store_get [.ref s, .str (dig t)] h = .ok (.str t) h' ∧ StoR h' s q n ts cnt N (row.filter (fun x => decide (x ≠ t)) ++ [t]) := by
  obtain ⟨rs, es, c, pi, S⟩ := S
  have hl8 : es.length ≤ 8 := by rw [S.len]; omega
  obtain ⟨h', e1, S1, X⟩ := use_ok dj S ht (l8 hl8)
  refine ⟨h', X, ?_, S1⟩
  have k := S.kt dj ht
  have h2 := ninV_s (h := h) (dig t) S.st.t
  rw [k] at h2
  refine run_ret rfl ?_
  show m_Store_get [some (.ref s), some (.str (dig t))] h = _
  unfold m_Store_get m_Store_get_0 m_Store_get_1 m_Store_get_2 m_Store_get_3
  obtain ⟨rs', es', c', pi', S'⟩ := S1
  have k' := S'.kt dj (t := t) (by simp)
  simp [S.st.t_, h2, ix_s _ S.st.t, k, digest_ok, S.st.k_, e1, S'.st.t_, ix_s _ S'.st.t, k']
theorem get_no (dj : Dj ts) (S : StoR h s q n ts cnt N row) {t : List Nat} (hts : t ∈ ts) (ht : t ∉ row) : F_Store_get [.ref s, .str (dig t)] h = .exc 0 [(1, .str (dig t)), (0, t_missing)] h := by
  obtain ⟨rs, es, c, pi, S⟩ := S
  have h2 := ninV_s (h := h) (dig t) S.st.t
  rw [show kget (tx es) (.str (dig t)) = none from S.kn dj hts ht (f := fun e => .str e.1)] at h2
  refine run_exc (σ := [some (.ref s), some (.str (dig t))]) rfl ?_
  show m_Store_get [some (.ref s), some (.str (dig t))] h = _
  unfold m_Store_get m_Store_get_0 m_Store_get_1 m_Store_get_2 m_Store_get_3
  simp [S.st.t_, h2, mkF]
/-- has -/
theorem has_ok (dj : Dj ts) (S : StoR h s q n ts cnt N row) {t : List Nat} (hts : t ∈ ts) : F_Store_has [.ref s, .str (dig t)] h = .ok (.bl (decide (t ∈ row))) h := by
  obtain ⟨rs, es, c, pi, S⟩ := S
  by_cases ht : t ∈ row
  · rw [has_yes S.st (S.kt dj ht) rfl, decide_eq_true ht]
  · rw [has_no S.st (S.kn dj hts ht (f := fun e => .str e.1)), decide_eq_false ht]
end
end Y.k33

set_option maxHeartbeats 1000000
namespace Y.k33
open PySem Y
/-! ### the law's own model, beside the store -/
theorem lc_strs {i : Nat} {t : TM} {σ : Sl} {h : VH} (p : List Nat → Bool) (row : List (List Nat)) (hi : i < σ.length) (hl : row.length ≤ line) (ht : ∀ x ∈ row, t (σ.set i (some (.str x))) h = .ok (p x) h) : lcLoop (tName i) t (mVar i) σ (row.map PV.str) [] h = .ok ((row.filter p).map PV.str) h := by
  rw [lc_fm (fun v => match v with | .str x => p x | _ => false) id (row.map PV.str) [] (by simpa using hl) fun x hx => ?_]
  · rw [List.nil_append, List.map_id, List.filter_map]
    rfl
  · obtain ⟨y, hy, rfl⟩ := List.mem_map.mp hx
    exact ⟨_, rfl, ht y hy, fun _ => mVar_e (by rw [List.getElem?_set_self hi]; rfl) rfl⟩
theorem add_strs (a b : List (List Nat)) (h : VH) (l : a.length + b.length ≤ line) : binO .Add (.lst (a.map PV.str)) (.lst (b.map PV.str)) h = some (.lst ((a ++ b).map PV.str)) := by
  have : binO .Add (.lst (a.map PV.str)) (.lst (b.map PV.str)) h = if (a.map PV.str).length + (b.map PV.str).length ≤ line then some (.lst (a.map PV.str ++ b.map PV.str)) else none := rfl
  rw [this, List.length_map, List.length_map, if_pos l, List.map_append]
def md (row : List (List Nat)) (p : Nat) : List (PV × PV) := [(t_row, .lst (row.map PV.str)), (t_pins, .ref p)]
section
variable (row row' : List (List Nat)) (p : Nat)
@[simp] theorem md_row : kget (md row p) t_row = some (.lst (row.map PV.str)) := by simp [kget, md]
@[simp] theorem md_pins : kget (md row p) t_pins = some (.ref p) := by simp [kget, md]
@[simp] theorem md_put : kput (md row p) t_row (.lst (row'.map PV.str)) = md row' p := by simp [kput, kget, md]
end
structure MoAt (h : VH) (p : Nat) (ts : List (List Nat)) (cnt : List Nat → Int) (N : Nat) (row : List (List Nat)) (pd : List (PV × PV)) : Prop where
  d : h[p]? = some (.dct pd)
  m : h[p + 1]? = some (.dct (md row p))
  pl : pd.length ≤ N
  pn : ∀ t ∈ ts, (kget pd (.str t)).getD (.int 0) = .int (cnt t)
def InMo (p i : Nat) : Prop := i = p ∨ i = p + 1
def InP (s p i : Nat) : Prop := InSt s i ∨ InMo p i
section
variable {h h' : VH} {s p : Nat} {q n c : Int} {ts : List (List Nat)} {cnt : List Nat → Int} {N rm : Nat} {row row' : List (List Nat)} {pd : List (PV × PV)}
theorem MoAt.ext {P : Nat → Prop} (M : MoAt h p ts cnt N row pd) (x : Ext P h h') (hn : ∀ i, InMo p i → ¬ P i) : MoAt h' p ts cnt N row pd := ⟨x.get M.d (hn _ (.inl rfl)), x.get M.m (hn _ (.inr rfl)), M.pl, M.pn⟩
theorem MoAt.r_ (M : MoAt h p ts cnt N row pd) : ixO (.ref (p + 1)) t_row h = some (.lst (row.map PV.str)) := by rw [ix_s _ M.m, md_row]
theorem MoAt.p_ (M : MoAt h p ts cnt N row pd) : ixO (.ref (p + 1)) t_pins h = some (.ref p) := by rw [ix_s _ M.m, md_pins]
theorem MoAt.w_ (M : MoAt h p ts cnt N row pd) (row' : List (List Nat)) : setIx (.ref (p + 1)) t_row (.lst (row'.map PV.str)) h = some (h.set (p + 1) (.dct (md row' p))) := by
  rw [setIx_s _ M.m (by show 2 < line; decide), md_put]
theorem MoAt.w (M : MoAt h p ts cnt N row pd) (row' : List (List Nat)) : MoAt (h.set (p + 1) (.dct (md row' p))) p ts cnt N row' pd :=
  ⟨by rw [List.getElem?_set_ne (by omega)]; exact M.d, List.getElem?_set_self (List.getElem?_eq_some_iff.mp M.m).1, M.pl, M.pn⟩
/-- a store and its model -/
structure Pair (h : VH) (s p : Nat) (q n : Int) (ts : List (List Nat)) (cnt : List Nat → Int) (N : Nat) (rm : Nat) (row : List (List Nat)) : Prop where
  st : StoR h s q n ts cnt N row
  mo : ∃ pd, MoAt h p ts cnt N row pd
  sp : s + 5 ≤ p
  hl : row.length ≤ rm
  h7 : rm ≤ 7
  q1 : n * rm ≤ q
  q2 : q < n * rm + n
  np : 0 < n
theorem Pair.ext {P : Nat → Prop} (A : Pair h s p q n ts cnt N rm row) (x : Ext P h h') (hn : ∀ i, InP s p i → ¬ P i) : Pair h' s p q n ts cnt N rm row := by
  obtain ⟨st, ⟨pd, mo⟩, a, b, c, d, e, f⟩ := A
  exact ⟨st.ext x fun i z => hn i (.inl z), ⟨pd, mo.ext x fun i z => hn i (.inr z)⟩, a, b, c, d, e, f⟩
def nextRow (cnt : List Nat → Int) (rm : Nat) (row : List (List Nat)) (t : List Nat) : List (List Nat) := (putRow cnt rm row t).getD row
theorem l7 {a : Nat} (h : a ≤ 9) : a ≤ line := Nat.le_trans h (by decide)
theorem filt_ne (row : List (List Nat)) (t : List Nat) (ht : t ∈ row) (nd : row.Nodup) : (row.filter fun x => decide (x ≠ t)).length + 1 = row.length := by
  have := out_len (es := row.map fun x => (x, 0)) (t := t) (by rw [List.map_map]; simpa [Function.comp_def] using nd) (by simpa [Function.comp_def] using ht)
  unfold out at this
  rw [List.filter_map, List.length_map, List.length_map] at this
  exact this
theorem StoR.ndr (S : StoR h s q n ts cnt N row) : row.Nodup := by obtain ⟨_, _, _, _, S⟩ := S; exact S.ndr
theorem StoR.sub (S : StoR h s q n ts cnt N row) {t : List Nat} (ht : t ∈ row) : t ∈ ts := by obtain ⟨_, _, _, _, S⟩ := S; exact S.sub ht
theorem nextRow_len (S : StoR h s q n ts cnt N row) {t : List Nat} (hl : row.length ≤ rm) : (nextRow cnt rm row t).length ≤ rm := by
  unfold nextRow putRow
  split
  · rename_i hi
    have := filt_ne row t hi S.ndr
    simp only [Option.getD_some, List.length_append, List.length_singleton]
    omega
  · split
    · simp only [Option.getD_some, List.length_append, List.length_singleton]
      omega
    · cases hg : row.filter fun x => decide (cnt x = 0) with
      | nil => exact hl
      | cons g r =>
        have : g ∈ row := (List.mem_filter.mp (hg ▸ List.mem_cons_self : g ∈ row.filter _)).1
        have := filt_ne row g this S.ndr
        simp only [Option.getD_some, List.length_append, List.length_singleton]
        omega
theorem law_put_ok (dj : Dj ts) (A : Pair h s p q n ts cnt N rm row) {t : List Nat} (hts : t ∈ ts) (hn : (t.length : Int) = n) :
    ∃ h', Ext (InP s p) h h' ∧ F__law_put [.ref s, .str t, .ref (p + 1), .int rm] h = .ok (.bl true) h' ∧ Pair h' s p q n ts cnt N rm (nextRow cnt rm row t) := by
  obtain ⟨h1, X1, H⟩ := put_ok dj A.st hts hn A.hl A.h7 A.q1 A.q2 A.np
  obtain ⟨pd, M⟩ := A.mo
  have sp := A.sp
  have M1 := M.ext X1 fun i z w => by rcases z with z | z <;> (obtain ⟨w1, w2⟩ := w; omega)
  have hr9 : row.length ≤ 7 := Nat.le_trans A.hl A.h7
  have hcl : clsOf (.ref s) h = some 0 := put_tail (t := t) A.st
  -- the new row is written
  have fin : ∀ row', StoR h1 s q n ts cnt N row' → row'.length ≤ rm → Ext (InP s p) h (h1.set (p + 1) (.dct (md row' p))) ∧ Pair (h1.set (p + 1) (.dct (md row' p))) s p q n ts cnt N rm row' := fun row' S1 l => by
    have X2 : Ext (InMo p) h1 (h1.set (p + 1) (.dct (md row' p))) := Ext.set (.inr rfl)
    refine ⟨(X1.mono fun _ z => .inl z).tr (X2.mono fun _ z => .inr z), ?_, ⟨pd, M1.w row'⟩, sp, l, A.h7, A.q1, A.q2, A.np⟩
    exact S1.ext X2 fun i z w => by rcases w with w | w <;> (obtain ⟨w1, w2⟩ := z; omega)
  have F1 : ∀ (a b c d e : Option PV), lcLoop (tName 9) (mTest (mOp2 (cmpV .NotEq) (mVar 9) (mVar 1))) (mVar 9) [a, some (.str t), b, c, d, e, none, none, none, none] (row.map PV.str) [] h1 = .ok ((row.filter fun x => decide (x ≠ t)).map PV.str) h1 := fun a b c d e => by
    refine lc_strs (fun x => decide (x ≠ t)) row (by simp) (l7 (by omega)) fun x _ => ?_
    simp
  have F3 : ∀ (a b c d e : Option PV), lcLoop (tName 9) (mTest (mOp2 (cmpV .Eq) (mMeth noC ["dict"] bGet (mOp2 ixO (mVar 2) (mC t_pins)) (mCons (mVar 9) (mCons (mC (.int 0)) mNil))) (mC (.int 0)))) (mVar 9) [a, b, some (.ref (p + 1)), c, d, e, none, none, none, none] (row.map PV.str) [] h1 = .ok ((row.filter fun x => decide (cnt x = 0)).map PV.str) h1 := fun a b c d e => by
    refine lc_strs (fun x => decide (cnt x = 0)) row (by simp) (l7 (by omega)) fun x hx => ?_
    have g := bmd (o := mOp2 ixO (mVar 2) (mC t_pins)) (as := mCons (mVar 9) (mCons (mC (.int 0)) mNil)) (σ := [a, b, some (.ref (p + 1)), c, d, e, none, none, none, some (.str x)]) (by simp [M1.p_]) M1.d (by simp) (get_s (d := .int 0) x M1.d)
    rw [M.pn x (A.st.sub hx)] at g
    simp [g]
  have F4 : ∀ (a b c d e f : Option PV) (gone : List (List Nat)), lcLoop (tName 9) (mTest (mOp2 (cmpV .NotIn) (mVar 9) (mVar 8))) (mVar 9) [a, b, c, d, e, f, none, some (.lst ((row.filter fun x => decide (cnt x = 0)).map PV.str)), some (.lst (gone.map PV.str)), none] (row.map PV.str) [] h1 = .ok ((row.filter fun x => !decide (x ∈ gone)).map PV.str) h1 := fun a b c d e f gone => by
    refine lc_strs (fun x => !decide (x ∈ gone)) row (by simp) (l7 (by omega)) fun x _ => ?_
    simp [nin_strs]
  have in1 : cmpV .In (.str t) (.lst (row.map PV.str)) h1 = some (.bl (decide (t ∈ row))) := in_strs t row
  have w1 : ∀ row', setIx (.ref (p + 1)) t_row (.lst (row'.map PV.str)) h1 = some (h1.set (p + 1) (.dct (md row' p))) := M1.w_
  have ad : ∀ (gone : List (List Nat)), gone.length ≤ 8 → binO .Add (.lst (gone.map PV.str)) (.lst [.str t]) h1 = some (.lst ((gone ++ [t]).map PV.str)) := fun g hg => add_strs g [t] h1 (l7 (by simp; omega))
  have fl : ∀ f : List Nat → Bool, (row.filter f).length ≤ 8 := fun f => Nat.le_trans (List.length_filter_le _ _) (by omega)
  rcases H with ⟨row', e1, e2, S1⟩ | ⟨e1, e2, S1⟩
  · -- told its name
    have l' := nextRow_len A.st (t := t) A.hl
    have en : nextRow cnt rm row t = row' := by unfold nextRow; rw [e1]; rfl
    rw [en] at l' ⊢
    obtain ⟨X, P'⟩ := fin row' S1 l'
    refine ⟨_, X, run_ret rfl ?_, P'⟩
    show m__law_put [some (.ref s), some (.str t), some (.ref (p + 1)), some (.int rm), none, none, none, none, none, none] h = _
    unfold m__law_put m__law_put_0 m__law_put_1 m__law_put_2 m__law_put_3 m__law_put_4 m__law_put_5 m__law_put_6 m__law_put_7
    unfold putRow at e1
    by_cases hi : t ∈ row
    · rw [if_pos hi] at e1
      have e1 := Option.some.inj e1
      have a1 := ad _ (fl fun x => decide (x ≠ t))
      rw [e1] at a1
      have w := w1 row'
      have l1 : (1 : Nat) ≤ line := by decide
      simp at a1
      simp [law_digest_ok, hcl, e2, M1.r_, in1, hi, F1, l1, Y.wipe, a1, w]
    · rw [if_neg hi] at e1
      have l1 : (1 : Nat) ≤ line := by decide
      by_cases hf : row.length < rm
      · rw [if_pos hf] at e1
        have e1 := Option.some.inj e1
        have f4 := fun a b c d e f => F4 a b c d e f []
        have a1 := ad row (by omega)
        rw [e1] at a1
        have hf' : ¬ (rm : Int) ≤ row.length := by omega
        simp only [List.not_mem_nil, decide_false, Bool.not_false, List.map_nil] at f4
        rw [show row.filter (fun _ => true) = row from List.filter_eq_self.mpr fun _ _ => rfl] at f4
        have w := w1 row'
        simp [law_digest_ok, hcl, e2, M1.r_, M1.p_, in1, hi, F3, l1, Y.wipe, hf', hf, f4, a1, w]
      · rw [if_neg hf] at e1
        cases hg : row.filter fun x => decide (cnt x = 0) with
        | nil => rw [hg] at e1; cases e1
        | cons g r =>
          rw [hg] at e1
          have e1 : row.filter (fun x => decide (x ≠ g)) ++ [t] = row' := Option.some.inj e1
          rw [hg] at F3 F4
          have hf' : (rm : Int) ≤ row.length := by omega
          have f4 := fun a b c d e f => F4 a b c d e f [g]
          have q1 : (row.filter fun x => !decide (x ∈ [g])) = row.filter fun x => decide (x ≠ g) := by
            congr 1; funext x; simp
          rw [q1] at f4
          have a1 := ad _ (fl fun x => decide (x ≠ g))
          rw [e1] at a1
          have w := w1 row'
          have ne : cmpV .Eq (.lst ((g :: r).map PV.str)) (.lst []) h1 = some (.bl false) := eq_strs (g :: r) []
          have ct : cut (PV.str g :: r.map PV.str) none (some 1) = [.str g] := cut_hi _ 1
          simp at f4 ne
          simp [law_digest_ok, hcl, e2, M1.r_, M1.p_, in1, hi, F3, l1, Y.wipe, hf', hf, ne, ct, f4]
          simp at a1
          simp [a1, w]
  · -- full
    have en : nextRow cnt rm row t = row := by unfold nextRow; rw [e1]; rfl
    rw [en]
    refine ⟨h1, X1.mono fun _ z => .inl z, run_ret rfl ?_, ⟨S1, ⟨pd, M1⟩, A.sp, A.hl, A.h7, A.q1, A.q2, A.np⟩⟩
    show m__law_put [some (.ref s), some (.str t), some (.ref (p + 1)), some (.int rm), none, none, none, none, none, none] h = _
    unfold m__law_put m__law_put_0 m__law_put_1 m__law_put_2 m__law_put_3 m__law_put_4 m__law_put_5 m__law_put_6 m__law_put_7
    unfold putRow at e1
    have hi : ¬ t ∈ row := fun z => by rw [if_pos z] at e1; cases e1
    rw [if_neg hi] at e1
    have hf : ¬ row.length < rm := fun z => by rw [if_pos z] at e1; cases e1
    rw [if_neg hf] at e1
    cases hg : row.filter fun x => decide (cnt x = 0) with
    | cons g r => rw [hg] at e1; cases e1
    | nil =>
      rw [hg] at F3
      have hf' : (rm : Int) ≤ row.length := by omega
      have eq : cmpV .Eq (.lst []) (.lst []) h1 = some (.bl true) := eq_strs [] []
      have l1 : (1 : Nat) ≤ line := by decide
      have ex : ∀ a b c d e f g : Option PV, mExAt 6 0 [a, b, c, d, e, f, some (.exn 0 noRoom), g, g, g] h1 = .ok t_full h1 := fun _ _ _ _ _ _ _ => rfl
      have cs0 : cs_StoreError 0 = some true := rfl
      simp [law_digest_ok, hcl, e2, M1.r_, M1.p_, in1, hi, F3, l1, Y.wipe, hf', hf, eq, cs0, ex, RS.without]
end
end Y.k33

set_option maxHeartbeats 1000000
namespace Y.k33
open PySem Y
section
variable {h h' : VH} {s p : Nat} {q n c : Int} {ts : List (List Nat)} {cnt : List Nat → Int} {N rm : Nat} {row row' : List (List Nat)} {pd : List (PV × PV)}
theorem next_in {t : List Nat} (ht : t ∈ row) : nextRow cnt rm row t = row.filter (fun x => decide (x ≠ t)) ++ [t] := by
  unfold nextRow putRow
  rw [if_pos ht]
  rfl
theorem law_get_ok (dj : Dj ts) (A : Pair h s p q n ts cnt N rm row) {t : List Nat} (ht : t ∈ row) :
    ∃ h', Ext (InP s p) h h' ∧ F__law_get [.ref s, .str t, .ref (p + 1)] h = .ok (.bl true) h' ∧ Pair h' s p q n ts cnt N rm (nextRow cnt rm row t) := by
  have hr7 : row.length ≤ 7 := Nat.le_trans A.hl A.h7
  obtain ⟨h1, X1, e1, S1⟩ := get_yes dj A.st ht hr7
  obtain ⟨pd, M⟩ := A.mo
  have sp := A.sp
  have M1 := M.ext X1 fun i z w => by rcases z with z | z <;> (obtain ⟨w1, w2⟩ := w; omega)
  have hcl : clsOf (.ref s) h = some 0 := put_tail (t := t) A.st
  have l' := nextRow_len A.st (t := t) A.hl
  rw [next_in ht] at l' ⊢
  have X2 : Ext (InMo p) h1 (h1.set (p + 1) (.dct (md (row.filter (fun x => decide (x ≠ t)) ++ [t]) p))) := Ext.set (.inr rfl)
  refine ⟨_, (X1.mono fun _ z => .inl z).tr (X2.mono fun _ z => .inr z), run_ret rfl ?_, ⟨S1.ext X2 fun i z w => by rcases w with w | w <;> (obtain ⟨w1, w2⟩ := z; omega), ⟨pd, M1.w _⟩, sp, l', A.h7, A.q1, A.q2, A.np⟩⟩
  show m__law_get [some (.ref s), some (.str t), some (.ref (p + 1)), none, none, none] h = _
  unfold m__law_get m__law_get_0 m__law_get_1 m__law_get_2 m__law_get_3
  have F1 : ∀ (a b c d : Option PV), lcLoop (tName 5) (mTest (mOp2 (cmpV .NotEq) (mVar 5) (mVar 1))) (mVar 5) [a, some (.str t), b, c, d, none] (row.map PV.str) [] h1 = .ok ((row.filter fun x => decide (x ≠ t)).map PV.str) h1 := fun a b c d => by
    refine lc_strs (fun x => decide (x ≠ t)) row (by simp) (l7 (by omega)) fun x _ => ?_
    simp
  have in1 : cmpV .NotIn (.str t) (.lst (row.map PV.str)) h1 = some (.bl (!decide (t ∈ row))) := nin_strs t row
  have a1 : binO .Add (.lst ((row.filter fun x => decide (x ≠ t)).map PV.str)) (.lst [.str t]) h1 = some (.lst ((row.filter (fun x => decide (x ≠ t)) ++ [t]).map PV.str)) := add_strs _ [t] h1 (l7 (by have := List.length_filter_le (fun x => decide (x ≠ t)) row; simp at this ⊢; omega))
  have w := M1.w_ (row.filter (fun x => decide (x ≠ t)) ++ [t])
  have l1 : (1 : Nat) ≤ line := by decide
  generalize hz : row.filter (fun x => decide (x ≠ t)) ++ [t] = z at a1 w ⊢
  simp at a1
  simp [law_digest_ok, hcl, e1, M1.r_, in1, ht, F1, l1, Y.wipe, a1, w]
theorem sort_map (ts : List (List Nat)) : ∃ l : List (List Nat), (ts.map PV.str).mergeSort pvLe = l.map PV.str ∧ l.Perm ts := by
  have key : ∀ x ∈ (ts.map PV.str).mergeSort pvLe, ∃ s, x = PV.str s := fun x hx => by
    have := (List.mergeSort_perm _ _).mem_iff.mp hx
    obtain ⟨s, _, rfl⟩ := List.mem_map.mp this
    exact ⟨s, rfl⟩
  have mk : ∀ l : List PV, (∀ x ∈ l, ∃ s, x = PV.str s) → ∃ l' : List (List Nat), l = l'.map PV.str := by
    intro l
    induction l with
    | nil => intro _; exact ⟨[], rfl⟩
    | cons x r ih =>
      intro hx
      obtain ⟨s, rfl⟩ := hx x List.mem_cons_self
      obtain ⟨l', e⟩ := ih fun y hy => hx y (List.mem_cons_of_mem _ hy)
      exact ⟨s :: l', by rw [e]; rfl⟩
  obtain ⟨l', e⟩ := mk _ key
  refine ⟨l', e, ?_⟩
  have p := List.mergeSort_perm (ts.map PV.str) pvLe
  rw [e] at p
  have q := p.map fun v => match v with | .str s => s | _ => []
  rw [List.map_map, List.map_map] at q
  simpa [Function.comp_def] using q
theorem spoilt_ok (dj : Dj ts) (S : StoR h s q n ts cnt N row) (hl : row.length ≤ 8) : F_Store_spoilt [.ref s] h = .ok (.lst []) h := by
  obtain ⟨rs, es, c, pi, S⟩ := S
  refine run_ret rfl ?_
  show m_Store_spoilt [some (.ref s), none, none] h = _
  unfold m_Store_spoilt
  have S0 := S.st
  have e1 : (h.set (s + 1) (.ldct (tx es)))[s + 1]? = some (.ldct (tx es)) := List.getElem?_set_self (by have := S0.lt; omega)
  have e0 : (h.set (s + 1) (.ldct (tx es)))[s]? = some (.ins 0 (sf s q (n * es.length) c)) := by rw [List.getElem?_set_ne (by omega)]; exact S0.o
  have a2 : atO okF 2 (.ref s) (h.set (s + 1) (.ldct (tx es))) = some (.ref (s + 1)) := at_ok e0 rfl rfl
  have key : mLock (mOp1 (atO okF 2) (mVar 0)) (mLc (mItems (mOp1 (atO okF 2) (mVar 0))) (tTup (tCons (tName 1) (tCons (tName 2) tNil))) (mTest (mOp2 (cmpV .NotEq) (mCall F_digest (mCons (mVar 2) mNil)) (mVar 1))) (mVar 1) [1, 2]) [some (.ref s), none, none] h = .ok [] h := by
    refine lock_ok (n := s + 1) (by simp [S0.t_]) S0.t ?_
    rw [mLc_e, items_ok (n := s + 1) (by simp [a2]) e1]
    simp only [R.bnd_ok, Y.wipe, List.set]
    rw [lc_fm (fun _ => false) id ((tx es).map fun p => PV.tup [p.1, p.2]) [] (by simp [tx]; exact l7 (by rw [S.len]; omega)) fun x hx => ?_]
    · simp
    · obtain ⟨e, he, rfl⟩ := List.mem_map.mp hx
      unfold tx at he
      obtain ⟨d, hd, rfl⟩ := List.mem_map.mp he
      refine ⟨[some (.ref s), some (.str (dig d.1)), some (.str d.1)], by simp, ?_, fun z => by cases z⟩
      simp [digest_ok]
  have so : bSorted [.lst []] h = some [] := by
    show (if sortOk [] then some _ else none) = _
    rw [if_pos (show sortOk ([] : List PV) = true from sortOk_strs [])]
    simp
  simp [key, so]
theorem law_right_ok (dj : Dj ts) (A : Pair h s p q n ts cnt N rm row) (hts : ts.length ≤ 8) (n9 : n < 1000) : F__law_right [.ref s, .ref (p + 1), .lst (ts.map PV.str), .int n] h = .ok (.bl true) h := by
  have hr7 : row.length ≤ 7 := Nat.le_trans A.hl A.h7
  obtain ⟨pd, M⟩ := A.mo
  have hcl : clsOf (.ref s) h = some 0 := put_tail (t := []) A.st
  have sp := spoilt_ok dj A.st (by omega)
  obtain ⟨rs, es, c, pi, S⟩ := id A.st
  refine run_ret rfl ?_
  show m__law_right [some (.ref s), some (.ref (p + 1)), some (.lst (ts.map PV.str)), some (.int n), none] h = _
  have hv : (tx es).map (·.2) = (es.map (·.1)).map PV.str := by unfold tx; rw [List.map_map, List.map_map]; rfl
  obtain ⟨l, e1, pl⟩ := sort_map row
  have e2 : ((tx es).map (·.2)).mergeSort pvLe = l.map PV.str := by rw [hv, sort_strs S.row_es.symm, e1]
  have so : bSorted [.lst (row.map PV.str)] h = some (l.map PV.str) := by
    show (if sortOk _ then some _ else none) = _
    rw [if_pos (sortOk_strs row), e1]
  have sv : mSortV (mOp1 (atO okF 2) (mVar 0)) [some (.ref s), some (.ref (p + 1)), some (.lst (ts.map PV.str)), some (.int n), none] h = .ok (l.map PV.str) h := by
    have ok1 : sortOk1 ((tx es).map (·.2)) = true := by rw [hv]; exact sortOk1_strs _
    have le1 : Nat.ble (tx es).length line = true := Nat.ble_eq.mpr (by unfold tx; rw [List.length_map, S.len]; exact l7 (by omega))
    simp only [mSortV_e, mOp1_e, v0_ref, R.bnd_ok, S.st.t_, retO_some, S.st.t, ok1, le1, Bool.and_self, if_true, e2]
  have ne1 : cmpV .NotEq (.lst (l.map PV.str)) (.lst (l.map PV.str)) h = some (.bl false) := by rw [ne_strs]; simp
  have ne2 : cmpV .NotEq (.lst []) (.lst []) h = some (.bl false) := ne_strs [] []
  have mo : mulOk n = true := mulOk_of (by have := A.np; omega) (by omega)
  have u1 := S.st.u_
  rw [S.len] at u1
  have l0 : (0 : Nat) ≤ line := by decide
  have all1 : lcLoop (tName 4) mYes (mOp2 (cmpV .Eq) (mOwn 0 F_Store_has (mVar 0) (mCons (mCall F__law_digest (mCons (mVar 4) mNil)) mNil)) (mOp2 (cmpV .In) (mVar 4) (mOp2 ixO (mVar 1) (mC t_row)))) [some (.ref s), some (.ref (p + 1)), some (.lst (ts.map PV.str)), some (.int n), none] (ts.map PV.str) [] h = .ok (ts.map fun _ => .bl true) h := by
    rw [lc_map (fun _ => .bl true) _ _ (by simp; exact l7 (by omega)) fun x hx => ?_]
    · simp
    · obtain ⟨t, ht, rfl⟩ := List.mem_map.mp hx
      refine ⟨_, rfl, ?_⟩
      have i1 : cmpV .In (.str t) (.lst (row.map PV.str)) h = some (.bl (decide (t ∈ row))) := in_strs t row
      simp [law_digest_ok, hcl, has_ok dj A.st ht, M.r_, i1]
  have bls : ∀ l : List (List Nat), blsOf (l.map fun _ => .bl true) = some (l.map fun _ => true) := by
    intro l
    induction l with
    | nil => rfl
    | cons x r ih => rw [List.map_cons]; show (blsOf _).map _ = _; rw [ih]; rfl
  unfold m__law_right m__law_right_0 m__law_right_1
  simp [-mSortV_e, sv, M.r_, so, ne1, u1, mo, hcl, sp, l0, ne2, Y.wipe, all1, bls]
/-! ### pins -/
theorem Sto.pin {rs es : List En} {pi pi' : List (PV × PV)} {cnt' : List Nat → Int} {N' : Nat} (S : Sto h s q n ts cnt N row rs es c pi) (hl : pi'.length ≤ N') (hp : ∀ t ∈ ts, (kget pi' (.str (dig t))).getD (.int 0) = .int (cnt' t)) : Sto (h.set (s + 4) (.dct pi')) s q n ts cnt' N' row rs es c pi' :=
  ⟨S.st.wp pi', hl, hp, S.he, S.nd, S.pr, S.ho, S.up, S.rw_⟩
def bump (cnt : List Nat → Int) (t : List Nat) (v : Int) : List Nat → Int := fun x => if x = t then v else cnt x
theorem pin_ok (dj : Dj ts) (S : StoR h s q n ts cnt N row) {t : List Nat} (ht : t ∈ ts) (hN : N < line) : ∃ h', F_Store_pin [.ref s, .lst [.str (dig t)]] h = .ok .non h' ∧ StoR h' s q n ts (bump cnt t (cnt t + 1)) (N + 1) row ∧ Ext (InSt s) h h' := by
  obtain ⟨rs, es, c, pi, S⟩ := S
  have lp : pi.length < line := by have := S.pl; omega
  have g := bmd (o := mOp1 (atO okF 8) (mVar 0)) (as := mCons (mVar 2) (mCons (mC (.int 0)) mNil)) (σ := [some (.ref s), some (.lst [.str (dig t)]), some (.str (dig t))]) (by simp [S.st.p_]) S.st.p (by simp) (get_s (d := .int 0) (dig t) S.st.p)
  rw [S.pn t ht] at g
  refine ⟨_, run_nx (σ := [some (.ref s), some (.lst [.str (dig t)]), some (.str (dig t))]) rfl ?_, ⟨rs, es, c, kput pi (.str (dig t)) (.int (cnt t + 1)), S.pin (Nat.le_trans (kput_len _ _ _) (by have := S.pl; omega)) fun x hx => ?_⟩, Ext.set ⟨by omega, by omega⟩⟩
  · show m_Store_pin [some (.ref s), some (.lst [.str (dig t)]), none] h = _
    unfold m_Store_pin m_Store_pin_0_b
    simp [g, S.st.p_, setIx_s _ S.st.p lp]
  · rw [kget_kput]
    unfold bump
    by_cases e : x = t
    · subst e; simp
    · have : PV.str (dig t) ≠ PV.str (dig x) := fun z => e (dj _ ht _ hx (PV.str.inj z)).symm
      rw [if_neg this, if_neg e]; exact S.pn x hx
theorem unpin_ok (dj : Dj ts) (S : StoR h s q n ts cnt N row) {t : List Nat} (ht : t ∈ ts) (hN : N < line) (c0 : 0 < cnt t) : ∃ h', F_Store_unpin [.ref s, .lst [.str (dig t)]] h = .ok .non h' ∧ StoR h' s q n ts (bump cnt t (cnt t - 1)) (N + 1) row ∧ Ext (InSt s) h h' := by
  obtain ⟨rs, es, c, pi, S⟩ := S
  have lp : pi.length < line := by have := S.pl; omega
  have lt := S.st.lt
  have g := bmd (o := mOp1 (atO okF 8) (mVar 0)) (as := mCons (mVar 2) (mCons (mC (.int 0)) mNil)) (σ := [some (.ref s), some (.lst [.str (dig t)]), some (.str (dig t))]) (by simp [S.st.p_]) S.st.p (by simp) (get_s (d := .int 0) (dig t) S.st.p)
  rw [S.pn t ht] at g
  have S1 := S.st.wp (kput pi (.str (dig t)) (.int (cnt t - 1)))
  have k1 : kget (kput pi (.str (dig t)) (.int (cnt t - 1))) (.str (dig t)) = some (.int (cnt t - 1)) := by rw [kget_kput, if_pos rfl]
  have ll : (kput pi (.str (dig t)) (.int (cnt t - 1))).length ≤ N + 1 := Nat.le_trans (kput_len _ _ _) (by have := S.pl; omega)
  have pn1 : ∀ x ∈ ts, x ≠ t → kget (kput pi (.str (dig t)) (.int (cnt t - 1))) (.str (dig x)) = kget pi (.str (dig x)) := fun x hx e => by
    have : PV.str (dig t) ≠ PV.str (dig x) := fun z => e (dj _ ht _ hx (PV.str.inj z)).symm
    rw [kget_kput, if_neg this]
  by_cases hc : cnt t = 1
  · refine ⟨_, run_nx (σ := [some (.ref s), some (.lst [.str (dig t)]), some (.str (dig t))]) rfl ?_, ⟨rs, es, c, kdrop (kput pi (.str (dig t)) (.int (cnt t - 1))) (.str (dig t)), (S.pin (Nat.le_trans (kdrop_len _ _) ll) fun x hx => ?_)⟩, Ext.set ⟨by omega, by omega⟩⟩
    · show m_Store_unpin [some (.ref s), some (.lst [.str (dig t)]), none] h = _
      unfold m_Store_unpin m_Store_unpin_0_b m_Store_unpin_0_b_0 m_Store_unpin_0_b_1
      have g2 := bmd (o := mOp1 (atO okF 8) (mVar 0)) (as := mCons (mVar 2) mNil) (σ := [some (.ref s), some (.lst [.str (dig t)]), some (.str (dig t))]) (by simp [S1.p_]) S1.p (by simp) (popd1_s (dig t) S1.p k1)
      have k2 := ix_s (dig t) S1.p
      rw [k1] at k2
      rw [List.set_set] at g2
      have hc2 : cnt t - 1 ≤ 0 := by omega
      simp [g, S.st.p_, setIx_s _ S.st.p lp, S1.p_, k2, hc2, g2]
    · rw [kget_kdrop]
      unfold bump
      by_cases e : x = t
      · subst e
        rw [if_pos rfl, if_pos rfl, show cnt x - 1 = 0 by omega]; rfl
      · have : PV.str (dig t) ≠ PV.str (dig x) := fun z => e (dj _ ht _ hx (PV.str.inj z)).symm
        rw [if_neg this, if_neg e, pn1 x hx e]; exact S.pn x hx
  · refine ⟨_, run_nx (σ := [some (.ref s), some (.lst [.str (dig t)]), some (.str (dig t))]) rfl ?_, ⟨rs, es, c, kput pi (.str (dig t)) (.int (cnt t - 1)), (S.pin ll fun x hx => ?_)⟩, Ext.set ⟨by omega, by omega⟩⟩
    · show m_Store_unpin [some (.ref s), some (.lst [.str (dig t)]), none] h = _
      unfold m_Store_unpin m_Store_unpin_0_b m_Store_unpin_0_b_0 m_Store_unpin_0_b_1
      have k2 := ix_s (dig t) S1.p
      rw [k1] at k2
      have hc2 : ¬ cnt t - 1 ≤ 0 := by omega
      simp [g, S.st.p_, setIx_s _ S.st.p lp, S1.p_, k2, hc2]
    · unfold bump
      by_cases e : x = t
      · subst e
        rw [k1, if_pos rfl]; rfl
      · rw [pn1 x hx e, if_neg e]; exact S.pn x hx
end
end Y.k33

set_option maxHeartbeats 1000000
namespace Y.k33
open PySem Y
section
variable {h h' : VH} {s p : Nat} {q n c : Int} {ts : List (List Nat)} {cnt : List Nat → Int} {N rm : Nat} {row row' : List (List Nat)} {pd : List (PV × PV)}
theorem StoR.mono (S : StoR h s q n ts cnt N row) {N' : Nat} (l : N ≤ N') : StoR h s q n ts cnt N' row := by
  obtain ⟨rs, es, c, pi, S⟩ := S
  exact ⟨rs, es, c, pi, S.st, Nat.le_trans S.pl l, S.pn, S.he, S.nd, S.pr, S.ho, S.up, S.rw_⟩
theorem Pair.mono (A : Pair h s p q n ts cnt N rm row) {N' : Nat} (l : N ≤ N') : Pair h s p q n ts cnt N' rm row := by
  obtain ⟨st, ⟨pd, mo⟩, a, b, c, d, e, f⟩ := A
  exact ⟨st.mono l, ⟨pd, mo.d, mo.m, Nat.le_trans mo.pl l, mo.pn⟩, a, b, c, d, e, f⟩
theorem MoAt.pin {pd' : List (PV × PV)} {cnt' : List Nat → Int} {N' : Nat} (M : MoAt h p ts cnt N row pd) (hl : pd'.length ≤ N') (hp : ∀ t ∈ ts, (kget pd' (.str t)).getD (.int 0) = .int (cnt' t)) : MoAt (h.set p (.dct pd')) p ts cnt' N' row pd' := by
  refine ⟨List.getElem?_set_self (List.getElem?_eq_some_iff.mp M.d).1, ?_, hl, hp⟩
  rw [List.getElem?_set_ne (by omega)]
  exact M.m
theorem MoAt.bump {t : List Nat} (M : MoAt h p ts cnt N row pd) (ht : t ∈ ts) (v : Int) : MoAt (h.set p (.dct (kput pd (.str t) (.int v)))) p ts (bump cnt t v) (N + 1) row (kput pd (.str t) (.int v)) := by
  refine M.pin (Nat.le_trans (kput_len _ _ _) (by have := M.pl; omega)) fun x hx => ?_
  unfold k33.bump
  rw [kget_kput]
  by_cases e : x = t
  · subst e; simp
  · have : PV.str t ≠ PV.str x := fun z => e (PV.str.inj z).symm
    rw [if_neg this, if_neg e]; exact M.pn x hx
theorem Tape.ext {P : Nat → Prop} {t : Nat} {cs : List Int} {a l s z : Int} (T : Tape h t cs a l s z) (x : Ext P h h') (n : ¬ P t) : Tape h' t cs a l s z := ⟨x.get T.at_ n, T.cs0, T.a0, T.l0, T.s0⟩
def Tp (cs : List Int) (sd : Int) (h : VH) : Prop := ∃ a l z, Tape h 0 cs a l sd z
theorem Tp.ext {P : Nat → Prop} {cs : List Int} {sd : Int} (T : Tp cs sd h) (x : Ext P h h') (n : ¬ P 0) : Tp cs sd h' := by
  obtain ⟨a, l, z, T⟩ := T
  exact ⟨a, l, z, T.ext x n⟩
/-- a number is drawn -/
theorem Tp.take {cs : List Int} {sd m : Int} (T : Tp cs sd h) (hm : 0 < m ∧ m < 1073741824) : ∃ v h', F__law_take [.ref 0, .int m] h = .ok (.int v) h' ∧ 0 ≤ v ∧ v < m ∧ Tp cs sd h' ∧ Ext (fun i => i = 0) h h' ∧ h'.length = h.length := by
  obtain ⟨a, l, z, T⟩ := T
  obtain ⟨v, a', l', z', e, h1, h2, T'⟩ := take_ok T hm
  exact ⟨v, _, e, h1, h2, ⟨_, _, _, T'⟩, Ext.set (S := fun i => i = 0) rfl, by simp⟩
def InT (s p i : Nat) : Prop := InP s p i ∨ i = 0
theorem pinned_ok {cs : List Int} {sd : Int} (dj : Dj ts) (T : Tp cs sd h) (A : Pair h s p q n ts cnt N rm row) (s0 : 0 < s) {t : List Nat} (ht : t ∈ ts) (hN : N < line) (c0 : ∀ x, 0 ≤ cnt x) :
    ∃ h' cnt', Ext (InT s p) h h' ∧ F__law_pinned [.ref 0, .ref s, .ref (p + 1), .str t] h = .ok .non h' ∧ Tp cs sd h' ∧ Pair h' s p q n ts cnt' (N + 1) rm row ∧ ∀ x, 0 ≤ cnt' x := by
  obtain ⟨v, h1, e1, v0, v2, T1, X1, _⟩ := T.take (m := 2) (by decide)
  have hnp : ∀ i, InP s p i → ¬ i = 0 := fun i z w => by
    have := A.sp
    rcases z with ⟨z1, z2⟩ | z | z <;> omega
  have A1 := A.ext X1 hnp
  obtain ⟨st1, ⟨pd, M1⟩, sp, hl, h7, q1, q2, np⟩ := id A1
  have hcl : clsOf (.ref s) h1 = some 0 := put_tail (t := t) st1
  have g := bmd (o := mOp2 ixO (mVar 2) (mC t_pins)) (as := mCons (mVar 3) (mCons (mC (.int 0)) mNil)) (σ := [some (.ref 0), some (.ref s), some (.ref (p + 1)), some (.str t), some (.str (dig t))]) (by simp [M1.p_]) M1.d (by simp) (get_s (d := .int 0) t M1.d)
  rw [M1.pn t ht] at g
  have bmp : ∀ v, 0 ≤ v → ∀ x, 0 ≤ bump cnt t v x := fun v hv x => by
    unfold bump
    split
    · exact hv
    · exact c0 x
  have l1 : (1 : Nat) ≤ line := by decide
  -- behind a deed of the store the model's pins are written
  have fin : ∀ {h2 : VH} {cnt' : List Nat → Int} (v : Int), cnt' = bump cnt t v → StoR h2 s q n ts cnt' (N + 1) row → Ext (InSt s) h1 h2 → MoAt h2 p ts cnt N row pd ∧ Ext (InT s p) h (h2.set p (.dct (kput pd (.str t) (.int v)))) ∧ Tp cs sd (h2.set p (.dct (kput pd (.str t) (.int v)))) ∧ Pair (h2.set p (.dct (kput pd (.str t) (.int v)))) s p q n ts cnt' (N + 1) rm row := by
    intro h2 cnt' v ev S2 X2
    subst ev
    have M2 := M1.ext X2 fun i z w => by rcases z with z | z <;> (obtain ⟨w1, w2⟩ := w; omega)
    have X3 : Ext (InMo p) h2 (h2.set p (.dct (kput pd (.str t) (.int v)))) := Ext.set (.inl rfl)
    refine ⟨M2, ((X1.mono fun _ z => .inr z).tr (X2.mono fun _ z => .inl (.inl z))).tr (X3.mono fun _ z => .inl (.inr z)), (T1.ext X2 fun z => ?_).ext X3 fun z => ?_, S2.ext X3 fun i z w => ?_, ⟨_, M2.bump ht v⟩, sp, hl, h7, q1, q2, np⟩
    · obtain ⟨z1, z2⟩ := z; omega
    · rcases z with z | z <;> omega
    · rcases w with w | w <;> (obtain ⟨w1, w2⟩ := z; omega)
  by_cases hv : v = 0
  · obtain ⟨h2, e2, S2, X2⟩ := pin_ok dj st1 ht hN
    obtain ⟨M2, X, T', P'⟩ := fin _ rfl S2 X2
    refine ⟨_, _, X, run_nx (σ := [some (.ref 0), some (.ref s), some (.ref (p + 1)), some (.str t), some (.str (dig t))]) rfl ?_, T', P', bmp _ (by have := c0 t; omega)⟩
    show m__law_pinned [some (.ref 0), some (.ref s), some (.ref (p + 1)), some (.str t), none] h = _
    unfold m__law_pinned m__law_pinned_0 m__law_pinned_1
    have g2 := bmd (o := mOp2 ixO (mVar 2) (mC t_pins)) (as := mCons (mVar 3) (mCons (mC (.int 0)) mNil)) (σ := [some (.ref 0), some (.ref s), some (.ref (p + 1)), some (.str t), some (.str (dig t))]) (by simp [M2.p_]) M2.d (by simp) (get_s (d := .int 0) t M2.d)
    rw [M2.pn t ht] at g2
    have w := setIx_s (v := .int (cnt t + 1)) t M2.d (by have := M2.pl; omega)
    simp [law_digest_ok, e1, hv, hcl, l1, e2, g2, M2.p_, w]
  · by_cases hc : 0 < cnt t
    · obtain ⟨h2, e2, S2, X2⟩ := unpin_ok dj st1 ht hN hc
      obtain ⟨M2, X, T', P'⟩ := fin _ rfl S2 X2
      refine ⟨_, _, X, run_nx (σ := [some (.ref 0), some (.ref s), some (.ref (p + 1)), some (.str t), some (.str (dig t))]) rfl ?_, T', P', bmp _ (by omega)⟩
      show m__law_pinned [some (.ref 0), some (.ref s), some (.ref (p + 1)), some (.str t), none] h = _
      unfold m__law_pinned m__law_pinned_0 m__law_pinned_1
      have g2 : ixO (.ref p) (.str t) h2 = some (.int (cnt t)) := by
        rw [ix_s _ M2.d]
        have := M2.pn t ht
        cases e : kget pd (.str t) with
        | some v => rw [e] at this; rw [← this]; rfl
        | none =>
          rw [e] at this
          have := PV.int.inj this
          omega
      have w := setIx_s (v := .int (cnt t - 1)) t M2.d (by have := M2.pl; omega)
      simp [law_digest_ok, e1, hv, hcl, l1, e2, g, hc, g2, M2.p_, w]
    · refine ⟨h1, cnt, X1.mono fun _ z => .inr z, run_nx (σ := [some (.ref 0), some (.ref s), some (.ref (p + 1)), some (.str t), some (.str (dig t))]) rfl ?_, T1, A1.mono (Nat.le_succ N), c0⟩
      show m__law_pinned [some (.ref 0), some (.ref s), some (.ref (p + 1)), some (.str t), none] h = _
      unfold m__law_pinned m__law_pinned_0 m__law_pinned_1
      simp [law_digest_ok, e1, hv, hc, g]
end
end Y.k33

set_option maxHeartbeats 1000000
namespace Y.k33
open PySem Y
/-! ### the names of all texts -/
/-- behind the texts pre: either two of them share a name, and "clash" tells it, or names tell them apart -/
structure Met (D : List (PV × PV)) (pre : List (List Nat)) : Prop where
  le : D.length ≤ 2 * pre.length
  ok : kget D t_clash = none → (∀ a ∈ pre, kget D (.str (dig a)) = some (.str a)) ∧ Dj pre
  all : ∀ a, kget D (.str (dig a)) = none ∨ ∃ b, kget D (.str (dig a)) = some (.str b)
theorem clash_ne (t : List Nat) : t_clash ≠ PV.str (dig t) := fun e => by
  have := PV.str.inj e
  have h := congrArg List.length this
  rw [dig_len] at h
  simp at h
theorem name_ok {h : VH} {m : Nat} {D : List (PV × PV)} {pre : List (List Nat)} (e : h[m]? = some (.dct D)) (M : Met D pre) (hl : pre.length ≤ 100) (t : List Nat) : ∃ D', F__law_name [.ref m, .str t] h = .ok (.str (dig t)) (h.set m (.dct D')) ∧ Met D' (pre ++ [t]) := by
  have hm : m < h.length := (List.getElem?_eq_some_iff.mp e).1
  have lD : ∀ {k : Nat}, k ≤ 300 → k < line := fun hk => Nat.lt_of_le_of_lt hk (by decide)
  have le := M.le
  have g := bmd (o := mVar 0) (as := mCons (mVar 2) (mCons (mVar 1) mNil)) (σ := [some (.ref m), some (.str t), some (.str (dig t))]) (by simp) e (by simp) (get_s (d := .str t) (dig t) e)
  obtain ⟨b, eb, hb⟩ : ∃ b, (kget D (.str (dig t))).getD (.str t) = .str b ∧ (kget D (.str (dig t)) = none ∧ b = t ∨ kget D (.str (dig t)) = some (.str b)) := by
    rcases M.all t with z | ⟨b, z⟩
    · rw [z]; exact ⟨t, rfl, .inl ⟨rfl, rfl⟩⟩
    · rw [z]; exact ⟨b, rfl, .inr rfl⟩
  rw [eb] at g
  -- where it is written
  have wr : ∀ (D1 : List (PV × PV)), D1.length ≤ 2 * pre.length + 1 → (∀ a, kget D1 (.str (dig a)) = kget D (.str (dig a))) → (kget D1 t_clash = none → kget D t_clash = none ∧ b = t) → Met (kput D1 (.str (dig t)) (.str t)) (pre ++ [t]) := fun D1 l1 k1 c1 => by
    refine ⟨?_, fun hc => ?_, fun a => ?_⟩
    · have := kput_len D1 (.str (dig t)) (.str t)
      rw [List.length_append, List.length_singleton]; omega
    · rw [kget_kput, if_neg (clash_ne t).symm] at hc
      obtain ⟨c2, c3⟩ := c1 hc
      subst c3
      obtain ⟨o1, o2⟩ := M.ok c2
      have same : ∀ a ∈ pre, dig a = dig b → a = b := fun a ha ea => by
        have := o1 a ha
        rw [ea] at this
        rcases hb with ⟨z, _⟩ | z
        · rw [z] at this; cases this
        · rw [z] at this; exact (PV.str.inj (Option.some.inj this)).symm
      refine ⟨fun a ha => ?_, fun x hx y hy exy => ?_⟩
      · rw [kget_kput]
        by_cases ea : PV.str (dig b) = PV.str (dig a)
        · rw [if_pos ea]
          rcases List.mem_append.mp ha with ha | ha
          · rw [same a ha (PV.str.inj ea).symm]
          · rw [List.mem_singleton.mp ha]
        · rw [if_neg ea, k1]
          rcases List.mem_append.mp ha with ha | ha
          · exact o1 a ha
          · exact absurd (by rw [List.mem_singleton.mp ha]) ea
      · rcases List.mem_append.mp hx with hx | hx <;> rcases List.mem_append.mp hy with hy | hy
        · exact o2 x hx y hy exy
        · rw [List.mem_singleton.mp hy] at exy ⊢; exact same x hx exy
        · rw [List.mem_singleton.mp hx] at exy ⊢; exact (same y hy exy.symm).symm
        · rw [List.mem_singleton.mp hx, List.mem_singleton.mp hy]
    · rw [kget_kput]
      split
      · exact .inr ⟨t, rfl⟩
      · rw [k1]; exact M.all a
  by_cases hbt : b = t
  · subst hbt
    refine ⟨_, run_ret rfl ?_, wr D (by omega) (fun _ => rfl) fun z => ⟨z, rfl⟩⟩
    show m__law_name [some (.ref m), some (.str b), none] h = _
    unfold m__law_name m__law_name_0 m__law_name_1 m__law_name_2 m__law_name_3
    simp [law_digest_ok, g, setIx_s (v := .str b) (dig b) e (lD (by omega))]
  · have w1 := setIx_s (v := .str (dig t)) [99, 108, 97, 115, 104] e (lD (by omega))
    have e2 : (h.set m (.dct (kput D t_clash (.str (dig t)))))[m]? = some (.dct (kput D t_clash (.str (dig t)))) := List.getElem?_set_self hm
    have l2 := kput_len D t_clash (.str (dig t))
    have w2 := setIx_s (v := .str t) (dig t) e2 (lD (by omega))
    rw [List.set_set] at w2
    refine ⟨_, run_ret rfl ?_, wr (kput D t_clash (.str (dig t))) (by omega) (fun a => ?_) fun z => ?_⟩
    · show m__law_name [some (.ref m), some (.str t), none] h = _
      unfold m__law_name m__law_name_0 m__law_name_1 m__law_name_2 m__law_name_3
      simp [law_digest_ok, g, hbt, w1, w2]
    · rw [kget_kput, if_neg (clash_ne a)]
    · rw [kget_kput, if_pos rfl] at z; cases z
theorem names_for {m : Nat} : ∀ (ts pre : List (List Nat)) (h : VH) (D : List (PV × PV)) (a0 a1 a2 a3 a4 a5 a7 : Option PV) (r : Sl), h[m]? = some (.dct D) → Met D pre → pre.length + ts.length ≤ 100 → ∃ x' D', forL (tName 7) m_law_3_b (ts.map PV.str) (a0 :: a1 :: a2 :: a3 :: a4 :: a5 :: some (.ref m) :: a7 :: r) h = .nx (a0 :: a1 :: a2 :: a3 :: a4 :: a5 :: some (.ref m) :: x' :: r) (h.set m (.dct D')) ∧ Met D' (pre ++ ts)
  | [], pre, h, D, a0, a1, a2, a3, a4, a5, a7, r, e, M, _ => by
    refine ⟨a7, D, ?_, by simpa using M⟩
    have : h.set m (.dct D) = h := by
      have := set_set_same (o := .dct D) e
      rw [List.set_set] at this
      exact this
    rw [this]
    rfl
  | t :: ts, pre, h, D, a0, a1, a2, a3, a4, a5, a7, r, e, M, hl => by
    have hm : m < h.length := (List.getElem?_eq_some_iff.mp e).1
    rw [List.length_cons] at hl
    obtain ⟨D1, e1, M1⟩ := name_ok e M (by omega) t
    obtain ⟨x', D', e2, M2⟩ := names_for ts (pre ++ [t]) (h.set m (.dct D1)) D1 a0 a1 a2 a3 a4 a5 (some (.str t)) r (List.getElem?_set_self hm) M1 (by simp; omega)
    refine ⟨x', D', ?_, by simpa using M2⟩
    rw [List.map_cons, forL_cons]
    rw [List.set_set] at e2
    simp [m_law_3_b, e1]
    exact e2
end Y.k33

set_option maxHeartbeats 1000000
namespace Y.k33
open PySem Y
/-! ### used last -/
abbrev Tx := List Nat
/-- used last first, each once -/
def rc : List Tx → List Tx
  | [] => []
  | t :: r => t :: (rc r).filter fun x => decide (x ≠ t)
theorem rc_mem : ∀ (r : List Tx) (x : Tx), x ∈ rc r ↔ x ∈ r
  | [], x => Iff.rfl
  | t :: r, x => by
    unfold rc
    rw [List.mem_cons, List.mem_cons, List.mem_filter, rc_mem r x]
    by_cases e : x = t
    · simp [e]
    · simp [e]
theorem rc_nodup : ∀ r : List Tx, (rc r).Nodup
  | [] => List.nodup_nil
  | t :: r => by
    unfold rc
    rw [List.nodup_cons]
    exact ⟨fun z => by simpa using (List.mem_filter.mp z).2, (rc_nodup r).filter _⟩
theorem rc_app : ∀ (a b : List Tx), rc (a ++ b) = rc a ++ (rc b).filter fun x => decide (x ∉ a)
  | [], b => by
    show rc b = [] ++ _
    rw [List.nil_append, List.filter_eq_self.mpr]
    intro x _
    simp
  | t :: a, b => by
    rw [List.cons_append]
    show t :: (rc (a ++ b)).filter _ = (t :: (rc a).filter _) ++ _
    rw [rc_app a b, List.filter_append, List.filter_filter, List.cons_append]
    congr 2
    apply List.filter_congr
    intro x _
    simp
/-- the room's texts, used longest ago first -/
def lru (m : Nat) (reg : List Tx) : List Tx := ((rc reg.reverse).take m).reverse
theorem take_filt : ∀ (L : List Tx) (k : Nat) (t : Tx), L.Nodup → t ∈ L.take (k + 1) → (L.take (k + 1)).filter (fun x => decide (x ≠ t)) = (L.filter fun x => decide (x ≠ t)).take k
  | [], k, t, _, h => by simp at h
  | x :: L, k, t, nd, h => by
    rw [List.nodup_cons] at nd
    rw [List.take_succ_cons] at h ⊢
    by_cases e : x = t
    · subst e
      have f1 : ∀ l : List Tx, x ∉ l → l.filter (fun y => decide (y ≠ x)) = l := fun l hl => List.filter_eq_self.mpr fun y hy => decide_eq_true fun z => hl (z ▸ hy)
      rw [List.filter_cons_of_neg (by simp), List.filter_cons_of_neg (by simp), f1 L nd.1, f1 _ fun z => nd.1 (List.mem_of_mem_take z)]
    · have h := (List.mem_cons.mp h).resolve_left fun z => e z.symm
      cases k with
      | zero => simp at h
      | succ k =>
        rw [List.filter_cons_of_pos (by simp [e]), List.filter_cons_of_pos (by simp [e]), List.take_succ_cons, take_filt L k t nd.2 h]
theorem take_no (L : List Tx) (k : Nat) (t : Tx) (h : t ∉ L.take (k + 1)) : (L.filter fun x => decide (x ≠ t)).take k = L.take k := by
  induction L generalizing k with
  | nil => rfl
  | cons x L ih =>
    rw [List.take_succ_cons, List.mem_cons, not_or] at h
    rw [List.filter_cons_of_pos (by simpa using fun z => h.1 z.symm)]
    cases k with
    | zero => rfl
    | succ k => rw [List.take_succ_cons, List.take_succ_cons, ih k h.2]
theorem lru_step (m : Nat) (reg : List Tx) (t : Tx) : nextRow (fun _ => 0) m (lru m reg) t = lru m (reg ++ [t]) := by
  have e1 : lru m (reg ++ [t]) = ((t :: (rc reg.reverse).filter fun x => decide (x ≠ t)).take m).reverse := by
    unfold lru
    rw [List.reverse_append]
    rfl
  rw [e1]
  have nd := rc_nodup reg.reverse
  unfold lru
  generalize rc reg.reverse = L at nd ⊢
  cases m with
  | zero => rfl
  | succ k =>
    rw [List.take_succ_cons, List.reverse_cons]
    unfold nextRow putRow
    by_cases hi : t ∈ L.take (k + 1)
    · rw [if_pos (List.mem_reverse.mpr hi), ← take_filt L k t nd hi, ← List.filter_reverse]
      rfl
    · rw [if_neg fun z => hi (List.mem_reverse.mp z), take_no L k t hi]
      by_cases hl : L.length < k + 1
      · rw [if_pos (by rw [List.length_reverse, List.length_take]; omega), List.take_of_length_le (by omega : L.length ≤ k + 1), List.take_of_length_le (by omega : L.length ≤ k)]
        rfl
      · rw [if_neg (by rw [List.length_reverse, List.length_take]; omega)]
        have ha : (L.take (k + 1)).reverse.filter (fun x => decide ((0 : Int) = 0)) = (L.take (k + 1)).reverse := List.filter_eq_self.mpr fun _ _ => by simp
        have e2 : (L.take (k + 1)).reverse = L[k]'(by omega) :: (L.take k).reverse := by
          rw [List.take_succ_eq_append_getElem (by omega), List.reverse_append]
          rfl
        rw [ha, e2]
        show List.filter _ _ ++ [t] = _
        rw [List.filter_cons_of_neg (by simp)]
        congr 1
        rw [List.filter_eq_self]
        intro x hx
        apply decide_eq_true
        intro z
        rw [List.mem_reverse] at hx
        have nd' : (L.take (k + 1)).Nodup := (List.take_sublist _ _).nodup nd
        rw [List.take_succ_eq_append_getElem (by omega), List.nodup_append] at nd'
        exact nd'.2.2 x hx _ (List.mem_singleton.mpr rfl) z
/-- a text is there just if fewer others than the room were used since -/
theorem lru_mem (m : Nat) (a b : List Tx) (t : Tx) (h : t ∉ b) : t ∈ lru m (a ++ t :: b) ↔ (rc b.reverse).length < m := by
  have e : rc (a ++ t :: b).reverse = rc b.reverse ++ (t :: (rc a.reverse).filter fun x => decide (x ≠ t)).filter fun x => decide (x ∉ b.reverse) := by
    have : (a ++ t :: b).reverse = b.reverse ++ (t :: a.reverse) := by simp
    rw [this, rc_app]
    rfl
  unfold lru
  rw [e, List.mem_reverse, List.filter_cons_of_pos (by simpa using h), List.take_append]
  have hn : t ∉ rc b.reverse := fun z => h (by simpa using (rc_mem _ _).mp z)
  rw [List.mem_append]
  constructor
  · intro z
    rcases z with z | z
    · exact absurd (List.mem_of_mem_take z) hn
    · have : m - (rc b.reverse).length ≠ 0 := fun q => by rw [q] at z; simp at z
      omega
  · intro z
    obtain ⟨j, hj⟩ : ∃ j, m - (rc b.reverse).length = j + 1 := ⟨m - (rc b.reverse).length - 1, by omega⟩
    rw [hj, List.take_succ_cons]
    exact .inr List.mem_cons_self
theorem lru_no (m : Nat) (reg : List Tx) (t : Tx) (h : t ∉ reg) : t ∉ lru m reg := fun z => by
  unfold lru at z
  rw [List.mem_reverse] at z
  exact h (by simpa using (rc_mem _ _).mp (List.mem_of_mem_take z))
/-- dedup counts as rc does -/
theorem dedup_acc : ∀ (ts acc : List Tx), (acc.Nodup → (ts.foldl (fun acc k => if k ∈ acc then acc else k :: acc) acc).Nodup) ∧ ∀ x, x ∈ ts.foldl (fun acc k => if k ∈ acc then acc else k :: acc) acc ↔ x ∈ acc ∨ x ∈ ts
  | [], acc => ⟨id, fun x => by simp⟩
  | t :: ts, acc => by
    rw [List.foldl_cons]
    obtain ⟨h1, h2⟩ := dedup_acc ts (if t ∈ acc then acc else t :: acc)
    refine ⟨fun nd => h1 ?_, fun x => ?_⟩
    · split
      · exact nd
      · rename_i hn; exact List.nodup_cons.mpr ⟨hn, nd⟩
    · rw [h2]
      by_cases ht : t ∈ acc
      · rw [if_pos ht, List.mem_cons]
        constructor
        · rintro (z | z)
          · exact .inl z
          · exact .inr (.inr z)
        · rintro (z | z | z)
          · exact .inl z
          · exact .inl (z ▸ ht)
          · exact .inr z
      · rw [if_neg ht, List.mem_cons, List.mem_cons]
        constructor
        · rintro ((z | z) | z)
          · exact .inr (.inl z)
          · exact .inl z
          · exact .inr (.inr z)
        · rintro (z | z | z)
          · exact .inl (.inr z)
          · exact .inl (.inl z)
          · exact .inr z
theorem dedup_nodup (ts : List Tx) : (dedup ts).Nodup := (dedup_acc ts []).1 List.nodup_nil
theorem dedup_mem (ts : List Tx) (x : Tx) : x ∈ dedup ts ↔ x ∈ ts := by
  unfold dedup
  rw [(dedup_acc ts []).2]
  simp
theorem perm_nd {a b : List Tx} (na : a.Nodup) (nb : b.Nodup) (h : ∀ x, x ∈ a ↔ x ∈ b) : a.Perm b := (List.perm_ext_iff_of_nodup na nb).mpr h
theorem dedup_len (ts : List Tx) : (dedup ts).length = (rc ts.reverse).length := by
  refine (perm_nd (dedup_nodup ts) (rc_nodup _) fun x => ?_).length_eq
  rw [dedup_mem, rc_mem, List.mem_reverse]
end Y.k33

set_option maxHeartbeats 1000000
namespace Y.k33
open PySem Y
/-! ### the texts -/
def tt (n i : Nat) : Tx := numS i ++ rep [122] (n - 1)
theorem num1 : ∀ i : Nat, i < 10 → (numS i).length = 1 := by decide
theorem rep_len {α : Type} (l : List α) : ∀ t, (rep l t).length = t * l.length
  | 0 => by simp [rep]
  | t + 1 => by
    show (l ++ rep l t).length = _
    rw [List.length_append, rep_len l t, Nat.add_mul]
    omega
theorem tt_len {n i : Nat} (hn : 1 ≤ n) (hi : i < 10) : (tt n i).length = n := by
  unfold tt
  rw [List.length_append, num1 i hi, rep_len]
  simp
  omega
def tts (n k : Nat) : List Tx := (List.range k).map (tt n)
theorem tts_len (n k : Nat) : (tts n k).length = k := by simp [tts]
theorem tts_mem {n k : Nat} {t : Tx} (hn : 1 ≤ n) (hk : k ≤ 10) (h : t ∈ tts n k) : t.length = n := by
  obtain ⟨i, hi, rfl⟩ := List.mem_map.mp h
  exact tt_len hn (by have := List.mem_range.mp hi; omega)
theorem texts_lc {n k : Nat} {σ : Sl} {h : VH} (hn : 1 ≤ n) (hn2 : n ≤ 100) (hk : k ≤ 10) (v2 : ∀ v, mVar 2 (σ.set 4 v) h = .ok (.int n) h) (v4 : ∀ i : Int, mVar 4 (σ.set 4 (some (.int i))) h = .ok (.int i) h) :
    lcLoop (tName 4) mYes (mOp2 (binO .Add) (mBi bStr (mCons (mVar 4) mNil)) (mOp2 (binO .Mult) (mC t_z) (mOp2 (binO .Sub) (mVar 2) (mC (.int 1))))) σ (rangeL 0 k) [] h = .ok ((tts n k).map PV.str) h := by
  have hl : k ≤ line := Nat.le_trans hk (by decide)
  rw [lc_map (fun v => match v with | .int i => .str (tt n i.toNat) | _ => .non) _ _ (by unfold rangeL; simpa using hl) fun x hx => ?_]
  · rw [List.nil_append]
    unfold rangeL tts
    rw [List.map_map, List.map_map]
    congr 1
    apply List.map_congr_left
    intro i _
    simp
  · unfold rangeL at hx
    obtain ⟨i, hi, rfl⟩ := List.mem_map.mp hx
    have hi := List.mem_range.mp hi
    refine ⟨_, rfl, ?_⟩
    have ok1 : strOk (i : Int) = true := strOk_of (by omega) (by omega)
    have ok2 : rngOk ((n : Int) - 1) = true := rngOk_of (by omega) (by omega)
    have l1 : n - 1 ≤ line := Nat.le_trans (by omega : n - 1 ≤ 100) (by decide)
    have l2 : (numS i).length + (rep [122] (n - 1)).length ≤ line := by rw [num1 i (by omega), rep_len]; exact Nat.le_trans (by simp; omega : _ ≤ 100) (by decide)
    have e1 : ((n : Int) - 1).toNat = n - 1 := by omega
    simp [v2, v4, ok1, ok2, e1, l1, l2, tt]
/-! ### the rooms -/
theorem rooms_lc {cs : List Int} {sd : Int} {σ : Sl} (k : Nat) (hk : k ≤ 100) (v1 : ∀ v h, mVar 1 (σ.set 4 v) h = .ok (.ref 0) h) (h : VH) (T : Tp cs sd h) : ∃ (rms : List Nat) (h' : VH), lcLoop (tName 4) mYes (mCall F__law_take (mCons (mVar 1) (mCons (mC (.int 8)) mNil))) σ (rangeL 0 k) [] h = .ok (rms.map fun r => PV.int (r : Nat)) h' ∧ Tp cs sd h' ∧ h'.length = h.length ∧ Ext (fun i => i = 0) h h' ∧ rms.length = k ∧ ∀ r ∈ rms, r ≤ 7 := by
  obtain ⟨ys, h', e, ⟨T', l', X'⟩, ps, l⟩ := lc_inv (tg := tName 4) (e := mCall F__law_take (mCons (mVar 1) (mCons (mC (.int 8)) mNil))) (σ := σ) (fun g => Tp cs sd g ∧ g.length = h.length ∧ Ext (fun i => i = 0) h g) (fun v => ∃ r : Nat, r ≤ 7 ∧ v = .int r) (rangeL 0 k) [] h (by unfold rangeL; simp; exact Nat.le_trans hk (by decide)) ⟨T, rfl, Ext.refl _ _⟩ fun x hx g ⟨T1, l1, X1⟩ => by
    obtain ⟨v, g', e, v0, v8, T2, X2, l2⟩ := T1.take (m := 8) (by decide)
    exact ⟨_, rfl, .int v, g', by simp [v1, e], ⟨T2, by rw [l2, l1], X1.tr X2⟩, v.toNat, by omega, by rw [Int.toNat_of_nonneg v0]⟩
  have mk : ∀ ys : List PV, (∀ y ∈ ys, ∃ r : Nat, r ≤ 7 ∧ y = .int r) → ∃ rms : List Nat, ys = rms.map (fun r => PV.int (r : Nat)) ∧ ∀ r ∈ rms, r ≤ 7 := by
    intro ys
    induction ys with
    | nil => intro _; exact ⟨[], rfl, by simp⟩
    | cons y r ih =>
      intro hy
      obtain ⟨a, a7, rfl⟩ := hy y List.mem_cons_self
      obtain ⟨l, e, hl⟩ := ih fun z hz => hy z (List.mem_cons_of_mem _ hz)
      exact ⟨a :: l, by rw [e]; rfl, fun z hz => by rcases List.mem_cons.mp hz with q | q; rw [q]; exact a7; exact hl z q⟩
  obtain ⟨rms, er, h7⟩ := mk ys ps
  refine ⟨rms, h', by rw [e, List.nil_append, er], T', l', X', ?_, h7⟩
  have : ys.length = rms.length := by rw [er, List.length_map]
  rw [← this, l]
  unfold rangeL
  simp
/-! ### a new store -/
theorem set_end (h : VH) (a b : VO) (r : VH) : (h ++ a :: r).set h.length b = h ++ b :: r := by
  rw [List.set_append_right _ _ (Nat.le_refl _), Nat.sub_self]
  rfl
theorem set_new (h : VH) (fs : List (Nat × PV)) (r : VH) {f : Nat} (o : okF 0 f = true) (l : fs.length < 900) (v : PV) : setAt okF f (.ref h.length) v (h ++ .ins 0 fs :: r) = some (h ++ .ins 0 (fput f v fs) :: r) := by
  rw [set_ok (n := h.length) (fs := fs) (by simp) o l, set_end]
abbrev newSt (s : Nat) (q : Int) : List VO := [.ins 0 (sf s q 0 0), .dct [], .dct [], .dct [], .dct []]
theorem init_ok (h : VH) (q : Int) : F_Store___init__ [.ref h.length, .int q] (h ++ [.ins 0 []]) = .ok .non (h ++ newSt h.length q) := by
  refine run_nx (σ := [some (.ref h.length), some (.int q)]) rfl ?_
  show m_Store___init__ [some (.ref h.length), some (.int q)] _ = _
  unfold m_Store___init__ m_Store___init___0 m_Store___init___1 m_Store___init___2 m_Store___init___3 m_Store___init___4 m_Store___init___5 m_Store___init___6
  have s2 := fun r v => set_new h [] r (f := 2) rfl (by decide) v
  have s3 := fun r v a => set_new h [(2, a)] r (f := 3) rfl (by show 1 < 900; decide) v
  have s4 := fun r v a b => set_new h [(2, a), (3, b)] r (f := 4) rfl (by show 2 < 900; decide) v
  have s5 := fun r v a b c => set_new h [(2, a), (3, b), (4, c)] r (f := 5) rfl (by show 3 < 900; decide) v
  have s6 := fun r v a b c d => set_new h [(2, a), (3, b), (4, c), (5, d)] r (f := 6) rfl (by show 4 < 900; decide) v
  have s7 := fun r v a b c d e => set_new h [(2, a), (3, b), (4, c), (5, d), (6, e)] r (f := 7) rfl (by show 5 < 900; decide) v
  have s8 := fun r v a b c d e f => set_new h [(2, a), (3, b), (4, c), (5, d), (6, e), (7, f)] r (f := 8) rfl (by show 6 < 900; decide) v
  simp [s2, s3, s4, s5, s6, s7, s8, fput, sf]
theorem new_st (h : VH) (q : Int) : StAt (h ++ newSt h.length q) h.length q 0 0 [] [] [] [] := by
  refine ⟨?_, ?_, ?_, ?_, ?_⟩ <;> simp
theorem new_sto (h : VH) (q n : Int) (ts : List Tx) : StoR (h ++ newSt h.length q) h.length q n ts (fun _ => 0) 0 [] := by
  refine ⟨[], [], 0, [], ?_, by simp, fun _ _ => rfl, by simp, by simp, List.Perm.refl _, List.Pairwise.nil, by simp, rfl⟩
  have := new_st h q
  simpa [tx, sz, la] using this
def refs (a k m : Nat) : List PV := (List.range m).map fun i => .ref (a + k * i)
theorem refs_cons (a k m : Nat) : refs a k (m + 1) = .ref a :: refs (a + k) k m := by
  unfold refs
  rw [List.range_succ_eq_map, List.map_cons, List.map_map]
  congr 1
  apply List.map_congr_left
  intro i _
  simp [Nat.mul_succ]
  omega
theorem stores_lc {cs : List Int} {sd : Int} {n : Nat} (ts : List Tx) (hn : 1 ≤ n) (hn2 : n ≤ 100) : ∀ (rms : List Nat) (σ : Sl), (∀ v h, mVar 1 (σ.set 21 v) h = .ok (.ref 0) h) → (∀ v h, mVar 2 (σ.set 21 v) h = .ok (.int n) h) → (∀ i h, mVar 21 (σ.set 21 (some (.int i))) h = .ok (.int i) h) → ∀ (acc : List PV) (h : VH), acc.length + rms.length ≤ 100 → Tp cs sd h →
    ∃ h', lcLoop (tName 21) mYes (mMake 0 F_Store___init__ (mCons (mOp2 (binO .Add) (mOp2 (binO .Mult) (mVar 21) (mVar 2)) (mCall F__law_take (mCons (mVar 1) (mCons (mVar 2) mNil)))) mNil)) σ (rms.map fun r => PV.int (r : Nat)) acc h = .ok (acc ++ refs h.length 5 rms.length) h' ∧ Tp cs sd h' ∧ Ext (fun i => i = 0) h h' ∧ h'.length = h.length + 5 * rms.length ∧ ∀ (i r : Nat), rms[i]? = some r → ∃ q : Int, StoR h' (h.length + 5 * i) q n ts (fun _ => 0) 0 [] ∧ n * r ≤ q ∧ q < n * r + n
  | [], σ, _, _, _, acc, h, _, T => ⟨h, by simp [refs], T, Ext.refl _ _, by simp, by simp⟩
  | r :: rms, σ, v1, v2, v21, acc, h, hl, T => by
    rw [List.length_cons] at hl
    obtain ⟨v, h1, e1, v0, vn, T1, X1, l1⟩ := T.take (m := n) ⟨by omega, by omega⟩
    have T2 : Tp cs sd (h1 ++ newSt h1.length ((r : Int) * n + v)) := T1.ext (P := fun _ => False) Ext.push fun z => z
    obtain ⟨h', e3, T3, X3, l3, H3⟩ := stores_lc ts hn hn2 rms σ v1 v2 v21 (acc ++ [.ref h.length]) _ (by simp; omega) T2
    have X2 : Ext (fun i => i = 0) h1 (h1 ++ newSt h1.length ((r : Int) * n + v)) := Ext.push
    have hp : 0 < h.length := by obtain ⟨a, l, z, T⟩ := T; exact (List.getElem?_eq_some_iff.mp T.at_).1
    have ll : (h1 ++ newSt h1.length ((r : Int) * n + v)).length = h.length + 5 := by rw [List.length_append, l1]; rfl
    rw [ll] at e3 l3 H3
    refine ⟨h', ?_, T3, (X1.tr X2).tr X3, by rw [l3, List.length_cons]; omega, fun i r' hi => ?_⟩
    · rw [List.map_cons]
      unfold lcLoop
      have mo : (mulOk (r : Int) || mulOk (n : Int)) = true := by rw [mulOk_of (i := (n : Int)) (by omega) (by omega)]; simp
      have mo' : mulOk (r : Int) = true ∨ mulOk (n : Int) = true := by simpa using mo
      have la : acc.length < line := Nat.lt_of_le_of_lt (by omega : acc.length ≤ 100) (by decide)
      have e2 := init_ok h1 ((r : Int) * n + v)
      rw [l1] at e2 e3
      simp [v21, v1, v2, mo', e1, l1, e2, la]
      rw [e3, refs_cons]
      simp
    · cases i with
      | zero =>
        have hr : r = r' := by simpa using hi
        subst hr
        refine ⟨(r : Int) * n + v, ?_, by rw [Int.mul_comm]; omega, by rw [Int.mul_comm]; omega⟩
        have := (new_sto h1 ((r : Int) * n + v) n ts).ext X3 fun i z w => by obtain ⟨z1, z2⟩ := z; omega
        rw [l1] at this
        exact this
      | succ i =>
        obtain ⟨q, S, q1, q2⟩ := H3 i r' (by simpa using hi)
        exact ⟨q, by rw [show h.length + 5 * (i + 1) = h.length + 5 + 5 * i by omega]; exact S, q1, q2⟩
theorem models_lc (ts : List Tx) : ∀ (rms : List Nat) (σ : Sl) (acc : List PV) (h : VH), acc.length + rms.length ≤ 100 →
    ∃ h', lcLoop (tName 21) mYes (mRegD (mDisp (mPCons (mC t_row) (mFz (mNewL mNil)) (mPCons (mC t_pins) (mRegD mPNil) mPNil)))) σ (rms.map fun r => PV.int (r : Nat)) acc h = .ok (acc ++ refs (h.length + 1) 2 rms.length) h' ∧ Ext (fun _ => False) h h' ∧ h'.length = h.length + 2 * rms.length ∧ ∀ i, i < rms.length → MoAt h' (h.length + 2 * i) ts (fun _ => 0) 0 [] []
  | [], σ, acc, h, _ => ⟨h, by simp [refs], Ext.refl _ _, by simp, by simp⟩
  | r :: rms, σ, acc, h, hl => by
    rw [List.length_cons] at hl
    obtain ⟨h', e3, X3, l3, H3⟩ := models_lc ts rms σ (acc ++ [.ref (h.length + 1)]) (h ++ [VO.dct [], .dct (md [] h.length)]) (by simp; omega)
    have ll : (h ++ [VO.dct [], .dct (md [] h.length)]).length = h.length + 2 := by rw [List.length_append]; rfl
    rw [ll] at e3 l3 H3
    refine ⟨h', ?_, Ext.push.tr X3, by rw [l3, List.length_cons]; omega, fun i hi => ?_⟩
    · rw [List.map_cons]
      unfold lcLoop
      have la : acc.length < line := Nat.lt_of_le_of_lt (by omega : acc.length ≤ 100) (by decide)
      simp [la, kmerge, kput, kget]
      simp [md] at e3
      rw [e3, refs_cons]
    · cases i with
      | zero =>
        refine ⟨X3.get (by simp) fun z => z, X3.get (by simp [md]) fun z => z, Nat.le_refl _, fun _ _ => rfl⟩
      | succ i =>
        have := H3 i (by rw [List.length_cons] at hi; omega)
        rw [show h.length + 2 * (i + 1) = h.length + 2 + 2 * i by omega]
        exact this
end Y.k33

set_option maxHeartbeats 1000000
namespace Y.k33
open PySem Y
/-! ### one deed -/
@[simp] theorem vs21 {h : VH} (v : Option PV) (r : Sl) : mVar 21 (v :: r) h = mVar 20 r h := rfl
@[simp] theorem vs22 {h : VH} (v : Option PV) (r : Sl) : mVar 22 (v :: r) h = mVar 21 r h := rfl
def sl (ns : List Int) (n k : Nat) (ts : List Tx) (rms : List Nat) (pins : Bool) (y4 y7 y13 y14 y15 y16 y17 y18 y19 y20 y21 y22 : Option PV) : Sl :=
  [some (.scr ns), some (.ref 0), some (.int n), some (.int k), y4, some (.lst (ts.map .str)), some (.ref 1), y7, some (.lst (rms.map fun r => .int (r : Nat))), some (.lst (refs 2 5 rms.length)), some (.lst (refs (2 + 5 * rms.length + 1) 2 rms.length)), some (.bl pins), some (.ref (2 + 7 * rms.length)), y13, y14, y15, y16, y17, y18, y19, y20, y21, y22]
theorem refs_it {a s m k : Nat} (h : k < m) : itO (refs a s m) (k : Int) = some (.ref (a + s * k)) := by
  rw [itO_nn]
  unfold refs
  simp [h]
theorem rms_it {rms : List Nat} {k r : Nat} (h : rms[k]? = some r) : itO (rms.map fun r => PV.int (r : Nat)) (k : Int) = some (.int r) := by
  rw [itO_nn, List.getElem?_map, h]
  rfl
theorem in_strs_ref {h : VH} {j : Nat} {ts : List Tx} (t : Tx) (e : h[j]? = some (.lst (ts.map PV.str))) : cmpV .In (.str t) (.ref j) h = some (.bl (decide (t ∈ ts))) := by
  rw [← in_strs (h := h)]
  show (inO (.str t) (.ref j) h).map PV.bl = (inO (.str t) (.lst (ts.map PV.str)) h).map PV.bl
  unfold inO
  simp only [asList, e]
theorem bls_map {α : Type} (p : α → Bool) : ∀ l : List α, blsOf (l.map fun x => PV.bl (p x)) = some (l.map p)
  | [] => rfl
  | x :: r => by rw [List.map_cons]; show (blsOf _).map _ = _; rw [bls_map p r]; rfl
theorem strs_map : ∀ l : List Tx, strsOf (l.map PV.str) = some l
  | [] => rfl
  | x :: r => by rw [List.map_cons]; show (strsOf _).map _ = _; rw [strs_map r]; rfl
theorem idx_app (t : Tx) (r : List Tx) : ∀ b : List Tx, t ∉ b → ((b ++ t :: r).map PV.str).findIdx? (fun z => decide (z = PV.str t)) = some b.length
  | [], _ => by simp [List.findIdx?_cons]
  | x :: b, h => by
    rw [List.mem_cons, not_or] at h
    rw [List.cons_append, List.map_cons, List.findIdx?_cons]
    have : PV.str x ≠ PV.str t := fun z => h.1 (PV.str.inj z).symm
    rw [if_neg (by simpa using this), idx_app t r b h.2]
    rfl
theorem last_split {t : Tx} {reg : List Tx} (h : t ∈ reg) : ∃ a b, reg = a ++ t :: b ∧ t ∉ b := by
  induction reg with
  | nil => cases h
  | cons x r ih =>
    by_cases hr : t ∈ r
    · obtain ⟨a, b, e, nb⟩ := ih hr
      exact ⟨x :: a, b, by rw [e]; rfl, nb⟩
    · rcases List.mem_cons.mp h with z | z
      · exact ⟨[], r, by rw [z]; rfl, hr⟩
      · exact absurd z hr
/-- since: what was used behind the text's last use -/
theorem since_ok {h : VH} {σ : Sl} {j : Nat} {reg : List Tx} {t : Tx} (e : h[j]? = some (.lst (reg.map PV.str))) (v12 : mVar 12 σ h = .ok (.ref j) h) (v7 : mVar 7 σ h = .ok (.str t) h) (hl : reg.length ≤ 100) :
    ∃ s : List Tx, mIf (mTest (mOp2 (cmpV .In) (mVar 7) (mVar 12))) (mSl (mVar 12) (mPart (mOp2 (binO .Sub) (mBi bLen (mCons (mVar 12) mNil)) (mMeth noC ["list"] bIndex (mFz (mRev (mVar 12))) (mCons (mVar 7) mNil)))) mNoPart) (mFz (mNewL mNil)) σ h = .ok (.lst (s.map PV.str)) h ∧ s.length ≤ 100 ∧
      ∀ m, decide (t ∈ lru m reg) = (decide (t ∈ reg) && decide ((dedup s).length < m)) := by
  have i1 := in_strs_ref t e
  have l0 : 0 ≤ line := Nat.zero_le _
  by_cases ht : t ∈ reg
  · obtain ⟨a, b, er, nb⟩ := last_split ht
    refine ⟨b, ?_, ?_, fun m => ?_⟩
    · have ln : reg.length ≤ line := Nat.le_trans hl (by decide)
      have lr : bLen [.ref j] h = some (.int reg.length) := by rw [len_ref e, List.length_map]
      have sl := sl_refl (lo := some (a.length + 1 : Int)) (hi := none) e
      have hc : cut (reg.map PV.str) (some (a.length + 1 : Int)) none = b.map PV.str := by
        have := cut_lo (reg.map PV.str) (a.length + 1)
        rw [show ((a.length + 1 : Nat) : Int) = (a.length : Int) + 1 by omega] at this
        rw [this, er, show a.length + 1 = (a.map PV.str ++ [PV.str t]).length by simp, show (a ++ t :: b).map PV.str = (a.map PV.str ++ [PV.str t]) ++ b.map PV.str by simp, List.drop_left]
      rw [hc] at sl
      have ai : asList (.ref j) h = some (reg.map PV.str) := by unfold asList; simp only [e]
      have ix : mMeth noC ["list"] bIndex (mFz (mRev (mVar 12))) (mCons (mVar 7) mNil) σ h = .ok (.int b.length) h := by
        have hf : ((reg.map PV.str).reverse).findIdx? (fun z => decide (z = PV.str t)) = some b.length := by
          rw [← List.map_reverse, er, List.reverse_append, List.reverse_cons, List.append_assoc]
          have := idx_app t a.reverse b.reverse (by simpa using nb)
          rw [List.length_reverse] at this
          exact this
        have hp : PV.plainL (reg.map PV.str).reverse = true := by rw [← List.map_reverse]; exact plain_strs _
        have hd : PV.depL (reg.map PV.str).reverse = 0 := by rw [← List.map_reverse]; exact dep_strs _
        have bi : bIndex (.lst (reg.map PV.str).reverse) [.str t] h = some (.int b.length, h) := by
          unfold bIndex
          simp only [asList, PV.plain, hp, hd, PV.dep, Bool.and_self, hf]
          rfl
        rw [mMethB_e]
        simp [v12, v7, ai, ln, clsOf, kind, bi, retH]
      have en : ((reg.length : Int) - (b.length : Int)) = (a.length : Int) + 1 := by rw [er]; simp; omega
      simp [v7, v12, i1, ht, ix, lr, en, sl]
    · rw [er] at hl; simp at hl; omega
    · rw [decide_eq_true ht, Bool.true_and, dedup_len]
      apply decide_eq_decide.mpr
      rw [er]
      exact lru_mem m a b t nb
  · refine ⟨[], by simp [v7, v12, i1, ht, l0], by simp, fun m => ?_⟩
    rw [decide_eq_false ht, Bool.false_and, decide_eq_false (lru_no m reg t ht)]
/-- what stands at the place i -/
structure At (h : VH) (n : Nat) (ts : List Tx) (rms : List Nat) (pins : Bool) (N i r : Nat) (reg : List Tx) (cnt : Tx → Int) (row : List Tx) : Prop where
  pr : ∃ q, Pair h (2 + 5 * i) (2 + 5 * rms.length + 2 * i) q n ts cnt N r row
  c0 : ∀ x, 0 ≤ cnt x
  np : pins = false → cnt = (fun _ => 0) ∧ row = lru r reg
theorem At.ext {h h' : VH} {P : Nat → Prop} {n : Nat} {ts : List Tx} {rms : List Nat} {pins : Bool} {N i r : Nat} {reg : List Tx} {cnt : Tx → Int} {row : List Tx} (A : At h n ts rms pins N i r reg cnt row) (x : Ext P h h') (hn : ∀ j, InP (2 + 5 * i) (2 + 5 * rms.length + 2 * i) j → ¬ P j) : At h' n ts rms pins N i r reg cnt row := by
  obtain ⟨⟨q, p⟩, b, c⟩ := A
  exact ⟨⟨q, p.ext x hn⟩, b, c⟩
section
variable {ns : List Int} {n kc : Nat} {ts : List Tx} {rms : List Nat} {pins : Bool} {cs : List Int} {sd : Int}
theorem body_k (dj : Dj ts) (m4 : rms.length ≤ 4) (hn : 1 ≤ n) (hn2 : n ≤ 100) (tl : ∀ t ∈ ts, t.length = n) (tl8 : ts.length ≤ 8) {N k r : Nat} (hN : N < line) (hk : rms[k]? = some r) {h : VH} {reg row : List Tx} {cnt : Tx → Int} {t : Tx} {how : Int} (ht : t ∈ ts) (T : Tp cs sd h) (rg : h[2 + 7 * rms.length]? = some (.lst (reg.map PV.str))) (rl : reg.length ≤ 100) (A : At h n ts rms pins N k r reg cnt row)
    (rows : Nat → List Tx) (hrk : rows k = row) (hrows : ∀ i, i < rms.length → ixO (.ref (2 + 5 * rms.length + 1 + 2 * i)) t_row h = some (.lst ((rows i).map PV.str))) (y13 y15 y16 y17 y18 y19 y20 y21 y22 : Option PV) :
    ∃ h' z15 z16 z17 cnt' row', m_law_8_b_1_b (sl ns n kc ts rms pins (some (.int k)) (some (.str t)) y13 (some (.int how)) y15 y16 y17 y18 y19 y20 y21 y22) h = .nx (sl ns n kc ts rms pins (some (.int k)) (some (.str t)) y13 (some (.int how)) z15 z16 z17 y18 y19 y20 y21 y22) h' ∧
      Ext (InT (2 + 5 * k) (2 + 5 * rms.length + 2 * k)) h h' ∧ Tp cs sd h' ∧ At h' n ts rms pins (N + 1) k r (reg ++ [t]) cnt' row' := by
  obtain ⟨⟨q, P⟩, c0, np⟩ := A
  have hkm : k < rms.length := (List.getElem?_eq_some_iff.mp hk).1
  have s0 : 0 < 2 + 5 * k := by omega
  have hrow : ixO (.ref (2 + 5 * rms.length + 1 + 2 * k)) t_row h = some (.lst (row.map PV.str)) := by rw [← hrk]; exact hrows k hkm
  have in1 : cmpV .In (.str t) (.lst (row.map PV.str)) h = some (.bl (decide (t ∈ row))) := in_strs t row
  have iM : itO (refs (2 + 5 * rms.length + 1) 2 rms.length) (k : Int) = some (.ref (2 + 5 * rms.length + 1 + 2 * k)) := refs_it hkm
  have iS : itO (refs 2 5 rms.length) (k : Int) = some (.ref (2 + 5 * k)) := refs_it hkm
  have iR := rms_it hk
  have ep : 2 + 5 * rms.length + 2 * k + 1 = 2 + 5 * rms.length + 1 + 2 * k := by omega
  obtain ⟨s, es, sl100, hs⟩ := since_ok (t := t) (σ := sl ns n kc ts rms pins (some (.int k)) (some (.str t)) y13 (some (.int how)) (some (.bl (decide (t ∈ row)))) y16 y17 y18 y19 y20 y21 y22) rg (by simp [sl]) (by simp [sl]) rl
  -- the parts of the turn
  have p0 : m_law_8_b_1_b_0 (sl ns n kc ts rms pins (some (.int k)) (some (.str t)) y13 (some (.int how)) y15 y16 y17 y18 y19 y20 y21 y22) h = .nx (sl ns n kc ts rms pins (some (.int k)) (some (.str t)) y13 (some (.int how)) (some (.bl (decide (t ∈ row)))) y16 y17 y18 y19 y20 y21 y22) h := by
    unfold m_law_8_b_1_b_0
    simp [sl, iM, hrow, in1]
  have p1 : m_law_8_b_1_b_1 (sl ns n kc ts rms pins (some (.int k)) (some (.str t)) y13 (some (.int how)) (some (.bl (decide (t ∈ row)))) y16 y17 y18 y19 y20 y21 y22) h = .nx (sl ns n kc ts rms pins (some (.int k)) (some (.str t)) y13 (some (.int how)) (some (.bl (decide (t ∈ row)))) (some (.lst (s.map PV.str))) y17 y18 y19 y20 y21 y22) h := by
    unfold m_law_8_b_1_b_1
    rw [sAsg_e, es]
    rfl
  have p2 : m_law_8_b_1_b_2 (sl ns n kc ts rms pins (some (.int k)) (some (.str t)) y13 (some (.int how)) (some (.bl (decide (t ∈ row)))) (some (.lst (s.map PV.str))) y17 y18 y19 y20 y21 y22) h = .nx (sl ns n kc ts rms pins (some (.int k)) (some (.str t)) y13 (some (.int how)) (some (.bl (decide (t ∈ row)))) (some (.lst (s.map PV.str))) y17 y18 y19 y20 y21 y22) h := by
    unfold m_law_8_b_1_b_2
    cases hp : pins with
    | true => simp [sl]
    | false =>
      obtain ⟨_, er⟩ := np hp
      have hm := hs r
      rw [← er] at hm
      have i2 := in_strs_ref t rg
      have fw : few s.length = true := Nat.ble_eq.mpr (by omega)
      by_cases hr : t ∈ reg
      · rw [decide_eq_true hr, Bool.true_and] at hm
        have hm2 : decide (((dedup s).length : Int) < (r : Int)) = decide (t ∈ row) := by rw [hm]; exact decide_eq_decide.mpr (by omega)
        simp [sl, i2, hr, iR, strs_map, fw, asList]
        exact decide_eq_decide.mp hm
      · rw [decide_eq_false hr, Bool.false_and] at hm
        simp [sl, i2, hr, hm]
  -- the deed
  have hlN := tl t ht
  have big : ∃ h' cnt' row', m_law_8_b_1_b_3 (sl ns n kc ts rms pins (some (.int k)) (some (.str t)) y13 (some (.int how)) (some (.bl (decide (t ∈ row)))) (some (.lst (s.map PV.str))) y17 y18 y19 y20 y21 y22) h = .nx (sl ns n kc ts rms pins (some (.int k)) (some (.str t)) y13 (some (.int how)) (some (.bl (decide (t ∈ row)))) (some (.lst (s.map PV.str))) (some (.bl true)) y18 y19 y20 y21 y22) h' ∧ Ext (InT (2 + 5 * k) (2 + 5 * rms.length + 2 * k)) h h' ∧ Tp cs sd h' ∧ At h' n ts rms pins (N + 1) k r (reg ++ [t]) cnt' row' := by
    obtain ⟨hP, xP, eP, PP⟩ := law_put_ok dj P ht (by rw [hlN])
    have t0 : ∀ {g : VH}, Ext (InP (2 + 5 * k) (2 + 5 * rms.length + 2 * k)) h g → Tp cs sd g := fun x => T.ext x fun z => by
      rcases z with ⟨z1, z2⟩ | z | z <;> omega
    rw [ep] at eP
    have nxt : pins = false → cnt = (fun _ => 0) ∧ nextRow cnt r row t = lru r (reg ++ [t]) := fun hp => by
      obtain ⟨e1, e2⟩ := np hp
      rw [e1, e2]
      exact ⟨rfl, lru_step r reg t⟩
    have fP : At hP n ts rms pins (N + 1) k r (reg ++ [t]) cnt (nextRow cnt r row t) := ⟨⟨q, PP.mono (Nat.le_succ N)⟩, c0, nxt⟩
    unfold m_law_8_b_1_b_3
    by_cases h5 : how < 5
    · refine ⟨hP, cnt, _, ?_, xP.mono fun _ z => .inl z, t0 xP, fP⟩
      simp [sl, h5, iS, iM, iR, eP]
    · have all5 : lcLoop (tName 22) mYes (mOp2 (cmpV .In) (mVar 7) (mOp2 ixO (mVar 22) (mC t_row))) (sl ns n kc ts rms pins (some (.int k)) (some (.str t)) y13 (some (.int how)) (some (.bl (decide (t ∈ row)))) (some (.lst (s.map PV.str))) y17 y18 y19 y20 y21 none) (refs (2 + 5 * rms.length + 1) 2 rms.length) [] h = .ok ((List.range rms.length).map fun i => .bl (decide (t ∈ rows i))) h := by
        rw [lc_map (fun v => match v with | .ref j => .bl (decide (t ∈ rows ((j - (2 + 5 * rms.length + 1)) / 2))) | _ => .non) _ _ (by unfold refs; simp; exact l7 (by omega)) fun x hx => ?_]
        · unfold refs
          rw [List.nil_append, List.map_map]
          congr 1
          apply List.map_congr_left
          intro i _
          simp only [Function.comp]
          rw [show (2 + 5 * rms.length + 1 + 2 * i - (2 + 5 * rms.length + 1)) / 2 = i by omega]
        · unfold refs at hx
          obtain ⟨i, hi, rfl⟩ := List.mem_map.mp hx
          have hi := List.mem_range.mp hi
          refine ⟨_, rfl, ?_⟩
          have i3 : cmpV .In (.str t) (.lst ((rows i).map PV.str)) h = some (.bl (decide (t ∈ rows i))) := in_strs t _
          have er := hrows i hi
          show _ = R.ok (PV.bl (decide (t ∈ rows ((2 + 5 * rms.length + 1 + 2 * i - (2 + 5 * rms.length + 1)) / 2)))) h
          rw [show (2 + 5 * rms.length + 1 + 2 * i - (2 + 5 * rms.length + 1)) / 2 = i by omega]
          simp [sl, er, i3]
      have bl5 := bls_map (fun i => decide (t ∈ rows i)) (List.range rms.length)
      have un : (sl ns n kc ts rms pins (some (.int k)) (some (.str t)) y13 (some (.int how)) (some (.bl (decide (t ∈ row)))) (some (.lst (s.map PV.str))) y17 y18 y19 y20 y21 y22).set 22 none = sl ns n kc ts rms pins (some (.int k)) (some (.str t)) y13 (some (.int how)) (some (.bl (decide (t ∈ row)))) (some (.lst (s.map PV.str))) y17 y18 y19 y20 y21 none := rfl
      unfold sl at all5
      by_cases ha : ((List.range rms.length).map fun i => decide (t ∈ rows i)).all id = true
      · have tin : t ∈ row := by
          have := List.all_eq_true.mp ha (decide (t ∈ rows k)) (List.mem_map.mpr ⟨k, List.mem_range.mpr hkm, rfl⟩)
          rw [← hrk]
          simpa using this
        obtain ⟨hG, xG, eG, PG⟩ := law_get_ok dj P tin
        rw [ep] at eG
        have fG : At hG n ts rms pins (N + 1) k r (reg ++ [t]) cnt (nextRow cnt r row t) := ⟨⟨q, PG.mono (Nat.le_succ N)⟩, c0, nxt⟩
        by_cases h6 : how = 5
        · subst h6
          refine ⟨hG, cnt, _, ?_, xG.mono fun _ z => .inl z, t0 xG, fG⟩
          simp [sl, iS, iM, iR, eG, Y.wipe, all5, bl5, ha]
        · by_cases h7 : how = 6 ∧ pins = true
          · obtain ⟨h8, hp⟩ := h7
            obtain ⟨hQ, cnt', xQ, eQ, tQ, PQ, c0'⟩ := pinned_ok dj T P s0 ht hN c0
            rw [ep] at eQ
            refine ⟨hQ, cnt', row, ?_, xQ, tQ, ⟨q, PQ⟩, c0', fun z => by rw [hp] at z; cases z⟩
            simp [sl, h8, hp, iS, iM, iR, eQ]
          · refine ⟨hP, cnt, _, ?_, xP.mono fun _ z => .inl z, t0 xP, fP⟩
            by_cases h8 : how = 6
            · have hp : pins = false := by cases pins with | true => exact absurd ⟨h8, rfl⟩ h7 | false => rfl
              simp [sl, h8, hp, iS, iM, iR, eP]
            · simp [sl, h5, h6, h8, iS, iM, iR, eP]
      · by_cases h7 : how = 6 ∧ pins = true
        · obtain ⟨h8, hp⟩ := h7
          obtain ⟨hQ, cnt', xQ, eQ, tQ, PQ, c0'⟩ := pinned_ok dj T P s0 ht hN c0
          rw [ep] at eQ
          refine ⟨hQ, cnt', row, ?_, xQ, tQ, ⟨q, PQ⟩, c0', fun z => by rw [hp] at z; cases z⟩
          simp [sl, h8, hp, iS, iM, iR, eQ]
        · refine ⟨hP, cnt, _, ?_, xP.mono fun _ z => .inl z, t0 xP, fP⟩
          have ha' : ((List.range rms.length).map fun i => decide (t ∈ rows i)).all id = false := by simpa using ha
          by_cases h6 : how = 5
          · subst h6
            simp [sl, iS, iM, iR, eP, Y.wipe, all5, bl5, ha']
          · by_cases h8 : how = 6
            · have hp : pins = false := by cases pins with | true => exact absurd ⟨h8, rfl⟩ h7 | false => rfl
              simp [sl, h8, hp, iS, iM, iR, eP]
            · simp [sl, h5, h6, h8, iS, iM, iR, eP]
  obtain ⟨h', cnt', row', p3, X, T', A'⟩ := big
  refine ⟨h', some (.bl (decide (t ∈ row))), some (.lst (s.map PV.str)), some (.bl true), cnt', row', ?_, X, T', A'⟩
  unfold m_law_8_b_1_b
  rw [seqE p0, seqE p1, seqE p2, seqE p3]
  obtain ⟨⟨q', P'⟩, _, _⟩ := id A'
  have rt := law_right_ok dj P' tl8 (by omega)
  rw [ep] at rt
  unfold m_law_8_b_1_b_4
  simp [sl, iS, iM, rt]
end
end Y.k33

set_option maxHeartbeats 1000000
namespace Y.k33
open PySem Y
/-! ### a turn -/
section
variable {ns : List Int} {n kc : Nat} {ts : List Tx} {rms : List Nat} {pins : Bool} {cs : List Int} {sd : Int}
theorem At.row_ {h : VH} {N i r : Nat} {reg row : List Tx} {cnt : Tx → Int} (A : At h n ts rms pins N i r reg cnt row) : ixO (.ref (2 + 5 * rms.length + 1 + 2 * i)) t_row h = some (.lst (row.map PV.str)) := by
  obtain ⟨⟨q, P⟩, _, _⟩ := A
  obtain ⟨pd, M⟩ := P.mo
  have := M.r_
  rw [show 2 + 5 * rms.length + 2 * i + 1 = 2 + 5 * rms.length + 1 + 2 * i by omega] at this
  exact this
/-- behind j of the stores -/
structure InvK (n : Nat) (ts : List Tx) (rms : List Nat) (pins : Bool) (cs : List Int) (sd : Int) (N : Nat) (reg : List Tx) (t : Tx) (j : Nat) (h : VH) : Prop where
  tp : Tp cs sd h
  rg : h[2 + 7 * rms.length]? = some (.lst (reg.map PV.str))
  al : ∃ (cnts : Nat → Tx → Int) (rows : Nat → List Tx), ∀ i r, rms[i]? = some r → At h n ts rms pins (if i < j then N + 1 else N) i r (if i < j then reg ++ [t] else reg) (cnts i) (rows i)
theorem apart {m i k : Nat} (hi : i < m) (hk : k < m) (ne : i ≠ k) (j : Nat) (h : InP (2 + 5 * i) (2 + 5 * m + 2 * i) j) : ¬ InT (2 + 5 * k) (2 + 5 * m + 2 * k) j := by
  unfold InT InP InSt InMo at *
  omega
theorem turn_in (dj : Dj ts) (m4 : rms.length ≤ 4) (hn : 1 ≤ n) (hn2 : n ≤ 100) (tl : ∀ t ∈ ts, t.length = n) (tl8 : ts.length ≤ 8) {N : Nat} (hN : N < line) {reg : List Tx} (rl : reg.length ≤ 100) {t : Tx} {how : Int} (ht : t ∈ ts) (y13 y18 y19 y20 y21 y22 y4 y15 y16 y17 : Option PV) {h : VH} (I : InvK n ts rms pins cs sd N reg t 0 h) :
    ∃ z4 z15 z16 z17 h', m_law_8_b_1 (sl ns n kc ts rms pins y4 (some (.str t)) y13 (some (.int how)) y15 y16 y17 y18 y19 y20 y21 y22) h = .nx (sl ns n kc ts rms pins z4 (some (.str t)) y13 (some (.int how)) z15 z16 z17 y18 y19 y20 y21 y22) h' ∧ InvK n ts rms pins cs sd N reg t rms.length h' := by
  have hb := for_inv (tg := tName 4) (b := m_law_8_b_1_b) (fun j σ h => InvK n ts rms pins cs sd N reg t j h ∧ ∃ z4 z15 z16 z17, σ = sl ns n kc ts rms pins z4 (some (.str t)) y13 (some (.int how)) z15 z16 z17 y18 y19 y20 y21 y22) (rangeL 0 rms.length) 0 _ h ⟨I, y4, y15, y16, y17, rfl⟩ fun j x hx σ h ⟨I, z4, z15, z16, z17, es⟩ => by
    subst es
    rw [Nat.zero_add] at *
    have hj : j < rms.length := by
      have := (List.getElem?_eq_some_iff.mp hx).1
      unfold rangeL at this
      simpa using this
    have ex : x = .int j := by
      unfold rangeL at hx
      simp [hj] at hx
      exact hx.symm
    subst ex
    obtain ⟨tp, rg, cnts, rows, al⟩ := I
    have hk : rms[j]? = some rms[j] := List.getElem?_eq_getElem hj
    have A := al j _ hk
    rw [if_neg (Nat.lt_irrefl j), if_neg (Nat.lt_irrefl j)] at A
    obtain ⟨h', w15, w16, w17, cnt', row', e, X, T', A'⟩ := body_k (ns := ns) (kc := kc) dj m4 hn hn2 tl tl8 hN hk (how := how) ht tp rg rl A rows rfl (fun i hi => (al i _ (List.getElem?_eq_getElem hi)).row_) y13 z15 z16 z17 y18 y19 y20 y21 y22
    refine ⟨_, h, rfl, _, h', .inl e, ⟨T', X.get rg fun z => ?_, fun i => if i = j then cnt' else cnts i, fun i => if i = j then row' else rows i, fun i r hi => ?_⟩, _, _, _, _, rfl⟩
    · unfold InT InP InSt InMo at z
      omega
    · have him : i < rms.length := (List.getElem?_eq_some_iff.mp hi).1
      show At h' n ts rms pins (if i < j + 1 then N + 1 else N) i r (if i < j + 1 then reg ++ [t] else reg) (if i = j then cnt' else cnts i) (if i = j then row' else rows i)
      by_cases hij : i = j
      · subst hij
        rw [if_pos rfl, if_pos rfl]
        rw [if_pos (Nat.lt_succ_self i), if_pos (Nat.lt_succ_self i)]
        rw [hk] at hi
        rw [← Option.some.inj hi]
        exact A'
      · rw [if_neg hij, if_neg hij]
        have B := (al i r hi).ext X (apart him hj hij)
        by_cases hlt : i < j
        · rw [if_pos (by omega), if_pos (by omega)]
          rw [if_pos hlt, if_pos hlt] at B
          exact B
        · rw [if_neg (by omega), if_neg (by omega)]
          rw [if_neg hlt, if_neg hlt] at B
          exact B
  obtain ⟨σ', h', e, I', z4, z15, z16, z17, es⟩ := hb
  subst es
  rw [Nat.zero_add] at I'
  have : (rangeL 0 rms.length).length = rms.length := by unfold rangeL; simp
  rw [this] at I'
  refine ⟨z4, z15, z16, z17, h', ?_, I'⟩
  have ok1 : rngOk (rms.length : Int) = true := rngOk_of (by omega) (by omega)
  unfold m_law_8_b_1
  rw [sFor_e]
  have eR : mRange (mCons (mBi bLen (mCons (mVar 8) mNil)) mNil) (sl ns n kc ts rms pins y4 (some (.str t)) y13 (some (.int how)) y15 y16 y17 y18 y19 y20 y21 y22) h = .ok (rangeL 0 rms.length) h := by
    simp [sl, ok1]
  rw [eR]
  exact e
/-- behind T turns -/
structure InvT (n : Nat) (ts : List Tx) (rms : List Nat) (pins : Bool) (cs : List Int) (sd : Int) (N : Nat) (h : VH) : Prop where
  tp : Tp cs sd h
  al : ∃ (reg : List Tx) (cnts : Nat → Tx → Int) (rows : Nat → List Tx), reg.length ≤ N ∧ h[2 + 7 * rms.length]? = some (.lst (reg.map PV.str)) ∧ ∀ i r, rms[i]? = some r → At h n ts rms pins N i r reg (cnts i) (rows i)
theorem turn_ok (dj : Dj ts) (m4 : rms.length ≤ 4) (hn : 1 ≤ n) (hn2 : n ≤ 100) (tl : ∀ t ∈ ts, t.length = n) (tl8 : ts.length ≤ 8) (ek : ts.length = kc) (k0 : 0 < kc) {N : Nat} (hN : N < 90) (y4 y7 y13 y14 y15 y16 y17 y18 y19 y20 y21 y22 : Option PV) {h : VH} (I : InvT n ts rms pins cs sd N h) :
    ∃ z4 z7 z14 z15 z16 z17 h', m_law_8_b (sl ns n kc ts rms pins y4 y7 y13 y14 y15 y16 y17 y18 y19 y20 y21 y22) h = .nx (sl ns n kc ts rms pins z4 z7 y13 z14 z15 z16 z17 y18 y19 y20 y21 y22) h' ∧ InvT n ts rms pins cs sd (N + 1) h' := by
  obtain ⟨tp, reg, cnts, rows, rl, rg, al⟩ := I
  obtain ⟨how, h1, e1, _, _, T1, X1, _⟩ := tp.take (m := 8) (by decide)
  obtain ⟨v, h2, e2, v0, vk, T2, X2, _⟩ := T1.take (m := (kc : Int)) ⟨by omega, by omega⟩
  have X := X1.tr X2
  obtain ⟨w, ew⟩ : ∃ w : Nat, v = w := ⟨v.toNat, by omega⟩
  subst ew
  have hw : w < ts.length := by omega
  have iT : itO (ts.map PV.str) (w : Int) = some (.str ts[w]) := by rw [itO_nn]; simp [hw]
  have ht : ts[w] ∈ ts := List.getElem_mem hw
  have l2 : (2 : Nat) ≤ line := by decide
  have lN : N < line := Nat.lt_of_lt_of_le hN (by decide)
  have b0 : m_law_8_b_0 (sl ns n kc ts rms pins y4 y7 y13 y14 y15 y16 y17 y18 y19 y20 y21 y22) h = .nx (sl ns n kc ts rms pins y4 (some (.str ts[w])) y13 (some (.int how)) y15 y16 y17 y18 y19 y20 y21 y22) h2 := by
    unfold m_law_8_b_0
    simp [sl, e1, e2, iT, l2]
  have rg2 : h2[2 + 7 * rms.length]? = some (.lst (reg.map PV.str)) := X.get rg (by omega)
  have I0 : InvK n ts rms pins cs sd N reg ts[w] 0 h2 := ⟨T2, rg2, cnts, rows, fun i r hi => by
    rw [if_neg (by omega), if_neg (by omega)]
    exact (al i r hi).ext X fun j z => by unfold InP InSt InMo at z; omega⟩
  obtain ⟨z4, z15, z16, z17, h3, e3, I3⟩ := turn_in (ns := ns) (kc := kc) dj m4 hn hn2 tl tl8 lN (by omega) ht (how := how) y13 y18 y19 y20 y21 y22 y4 y15 y16 y17 I0
  obtain ⟨tp3, rg3, cnts3, rows3, al3⟩ := I3
  have lg : (reg.map PV.str).length < line := by rw [List.length_map]; omega
  have ap := bm_append (o := mVar 12) (as := mCons (mVar 7) mNil) (σ := sl ns n kc ts rms pins z4 (some (.str ts[w])) y13 (some (.int how)) z15 z16 z17 y18 y19 y20 y21 y22) (h := h3) (n := 2 + 7 * rms.length) (v := .str ts[w]) (by simp [sl]) rg3 (by simp [sl]) rg3 lg
  have hlt : 2 + 7 * rms.length < h3.length := (List.getElem?_eq_some_iff.mp rg3).1
  have X4 : Ext (fun i => i = 2 + 7 * rms.length) h3 (h3.set (2 + 7 * rms.length) (.lst (reg.map PV.str ++ [.str ts[w]]))) := Ext.set rfl
  by_cases hc : how < 6 ∨ pins = false
  · refine ⟨z4, some (.str ts[w]), some (.int how), z15, z16, z17, _, ?_, tp3.ext X4 (by omega), reg ++ [ts[w]], cnts3, rows3, by simp; omega, by rw [List.map_append]; exact List.getElem?_set_self hlt, fun i r hi => ?_⟩
    · unfold m_law_8_b
      rw [seqE b0, seqE e3]
      unfold m_law_8_b_2
      unfold sl at ap ⊢
      rcases hc with hc | hc
      · simp [hc, ap]
      · by_cases h6 : how < 6
        · simp [h6, ap]
        · simp [h6, hc] at ap ⊢
          simp [ap]
    · have him : i < rms.length := (List.getElem?_eq_some_iff.mp hi).1
      have B := al3 i r hi
      rw [if_pos him, if_pos him] at B
      exact B.ext X4 fun j z => by unfold InP InSt InMo at z; omega
  · have h6 : ¬ how < 6 := fun z => hc (.inl z)
    have hp : pins = true := by cases hq : pins with | true => rfl | false => exact absurd (.inr hq) hc
    refine ⟨z4, some (.str ts[w]), some (.int how), z15, z16, z17, h3, ?_, tp3, reg, cnts3, rows3, by omega, rg3, fun i r hi => ?_⟩
    · unfold m_law_8_b
      rw [seqE b0, seqE e3]
      unfold m_law_8_b_2
      simp [sl, h6, hp]
    · have him : i < rms.length := (List.getElem?_eq_some_iff.mp hi).1
      obtain ⟨b1, b2, _⟩ := al3 i r hi
      rw [if_pos him] at b1
      exact ⟨b1, b2, fun z => by rw [hp] at z; cases z⟩
theorem turns_ok (dj : Dj ts) (m4 : rms.length ≤ 4) (hn : 1 ≤ n) (hn2 : n ≤ 100) (tl : ∀ t ∈ ts, t.length = n) (tl8 : ts.length ≤ 8) (ek : ts.length = kc) (k0 : 0 < kc) (y4 y7 y13 y14 y15 y16 y17 y18 y19 y20 y21 y22 : Option PV) {h : VH} (I : InvT n ts rms pins cs sd 0 h) :
    ∃ z4 z7 z13 z14 z15 z16 z17 h', m_law_8 (sl ns n kc ts rms pins y4 y7 y13 y14 y15 y16 y17 y18 y19 y20 y21 y22) h = .nx (sl ns n kc ts rms pins z4 z7 z13 z14 z15 z16 z17 y18 y19 y20 y21 y22) h' ∧ InvT n ts rms pins cs sd 30 h' := by
  have hb := for_inv (tg := tName 13) (b := m_law_8_b) (fun j σ h => j ≤ 30 → InvT n ts rms pins cs sd j h ∧ ∃ z4 z7 z13 z14 z15 z16 z17, σ = sl ns n kc ts rms pins z4 z7 z13 z14 z15 z16 z17 y18 y19 y20 y21 y22) (rangeL 0 30) 0 _ h (fun _ => ⟨I, y4, y7, y13, y14, y15, y16, y17, rfl⟩) fun j x hx σ h H => by
    have hj : j < 30 := by
      have := (List.getElem?_eq_some_iff.mp hx).1
      unfold rangeL at this
      simpa using this
    obtain ⟨I, z4, z7, z13, z14, z15, z16, z17, es⟩ := H (by omega)
    subst es
    obtain ⟨w4, w7, w14, w15, w16, w17, h', e, I'⟩ := turn_ok (ns := ns) (kc := kc) dj m4 hn hn2 tl tl8 ek k0 (by omega) z4 z7 (some x) z14 z15 z16 z17 y18 y19 y20 y21 y22 I
    exact ⟨_, h, rfl, _, h', .inl e, fun _ => ⟨I', w4, w7, some x, w14, w15, w16, w17, rfl⟩⟩
  obtain ⟨σ', h', e, H⟩ := hb
  have : (rangeL 0 30).length = 30 := by unfold rangeL; simp
  rw [this] at H
  obtain ⟨I', z4, z7, z13, z14, z15, z16, z17, es⟩ := H (by omega)
  subst es
  refine ⟨z4, z7, z13, z14, z15, z16, z17, h', ?_, I'⟩
  unfold m_law_8
  simp [rngOk]
  exact e
end
end Y.k33

set_option maxHeartbeats 1000000
namespace Y.k33
open PySem Y
/-! ### a store is collected -/
section
variable {h h' : VH} {s p : Nat} {q n c : Int} {ts : List Tx} {cnt : Tx → Int} {N rm : Nat} {row row' : List Tx} {rs es : List En} {pi : List (PV × PV)}
theorem drop_sto (dj : Dj ts) (S : StoR h s q n ts cnt N row) {g : Tx} (hg : g ∈ row) : ∃ h', F_Store_drop [.ref s, .str (dig g)] h = .ok .non h' ∧ StoR h' s q n ts cnt N (row.filter fun x => decide (x ≠ g)) ∧ Ext (InSt s) h h' := by
  obtain ⟨rs, es, c, pi, S⟩ := S
  have hgs := S.mem.mp hg
  have hgt := S.sub hg
  obtain ⟨c1, f1, f2⟩ := find_some hgs
  have k1 : kget (tx es) (.str (dig g)) = some (.str g) := by unfold tx; rw [kget_map_in dj S.he hgt, f1]; rfl
  have k2 : kget (la es) (.str (dig g)) = some (.int c1) := by unfold la; rw [kget_map_in dj S.he hgt, f1]; rfl
  have k3 : kget (sz n es) (.str (dig g)) = some (.int n) := by unfold sz; rw [kget_map_in dj S.he hgt, f1]; rfl
  obtain ⟨h3, ed, S3, X3⟩ := drop_ok S.st k1 k2 k3
  have d1 : kdrop (tx es) (.str (dig g)) = tx (out es g) := kdrop_map dj S.he hgt
  have d2 : kdrop (la es) (.str (dig g)) = la (out es g) := kdrop_map dj S.he hgt
  have d3 : kdrop (sz n es) (.str (dig g)) = sz n (out es g) := kdrop_map dj S.he hgt
  rw [d1, d2, d3] at S3
  have ol := out_len S.nd hgs
  have eu : n * (es.length : Int) - n = n * ((out es g).length : Int) := by
    rw [← ol, Int.natCast_add, Int.mul_add]
    simp
  rw [eu] at S3
  refine ⟨h3, ed, ⟨out rs g, out es g, c, pi, S3, S.pl, S.pn, fun e he => S.he e (List.mem_filter.mp he).1, ?_, out_perm S.pr, S.ho.filter _, fun e he => S.up e (List.mem_filter.mp he).1, ?_⟩, X3⟩
  · rw [out_fst]; exact S.nd.filter _
  · rw [out_fst, ← S.rw_]
theorem drops_ok (dj : Dj ts) (a0 a1 a2 a3 a5 a6 : Option PV) : ∀ (gl : List Tx) (h : VH) (row : List Tx) (a4 : Option PV), StoR h s q n ts cnt N row → gl.Nodup → (∀ g ∈ gl, g ∈ row) → ∃ h' z4, forL (tName 4) m_Store_collect_3_b ((gl.map dig).map PV.str) [some (.ref s), a1, a2, a3, a4, a5, a6] h = .nx [some (.ref s), a1, a2, a3, z4, a5, a6] h' ∧ StoR h' s q n ts cnt N (row.filter fun x => decide (x ∉ gl)) ∧ Ext (InSt s) h h'
  | [], h, row, a4, S, _, _ => ⟨h, a4, rfl, by rw [List.filter_eq_self.mpr fun x _ => by simp]; exact S, Ext.refl _ _⟩
  | g :: gl, h, row, a4, S, nd, hg => by
    rw [List.nodup_cons] at nd
    obtain ⟨h1, e1, S1, X1⟩ := drop_sto dj S (hg g List.mem_cons_self)
    obtain ⟨h', z4, e2, S2, X2⟩ := drops_ok dj a0 a1 a2 a3 a5 a6 gl h1 _ (some (.str (dig g))) S1 nd.2 fun x hx => List.mem_filter.mpr ⟨hg x (List.mem_cons_of_mem _ hx), decide_eq_true fun z => nd.1 (z ▸ hx)⟩
    refine ⟨h', z4, ?_, ?_, X1.tr X2⟩
    · rw [List.map_cons, List.map_cons, forL_cons]
      simp only [tName_e, List.set]
      have hcl := put_tail (t := g) S
      have b : m_Store_collect_3_b [some (.ref s), a1, a2, a3, some (.str (dig g)), a5, a6] h = .nx [some (.ref s), a1, a2, a3, some (.str (dig g)), a5, a6] h1 := by
        unfold m_Store_collect_3_b
        simp [hcl, e1]
      rw [b, again_nx, e2]
    · rw [List.filter_filter] at S2
      have : (row.filter fun x => decide (x ∉ g :: gl)) = row.filter fun a => (decide (a ∉ gl) && decide (a ≠ g)) := by
        apply List.filter_congr
        intro x _
        rw [← Bool.decide_and]
        apply decide_eq_decide.mpr
        rw [List.mem_cons, not_or]
        exact And.comm
      rw [this]
      exact S2
/-- names, told as texts again -/
def inv (ts : List Tx) (d : Tx) : Tx := (ts.find? fun t => decide (dig t = d)).getD []
theorem inv_dig (dj : Dj ts) {t : Tx} (ht : t ∈ ts) : inv ts (dig t) = t := by
  unfold inv
  cases e : ts.find? fun x => decide (dig x = dig t) with
  | none =>
    have := List.find?_eq_none.mp e t ht
    simp at this
  | some x =>
    have h1 := List.find?_some e
    have h2 := List.mem_of_find?_eq_some e
    exact dj x h2 t ht (of_decide_eq_true h1)
/-- what the manifests hold -/
def mani (t : Tx) : PV := .tup [.tup [t_p, .str (dig t)]]
theorem held_for (a0 a1 a4 a5 a6 : Option PV) {d : Nat} : ∀ (kept : List Tx) (h : VH) (D : List (PV × PV)) (a3 : Option PV), h[d]? = some (.dct D) → D.length + kept.length ≤ 1000 → ∃ z3 D', forL (tName 3) m_Store_collect_1_b (kept.map mani) [a0, a1, some (.ref d), a3, a4, a5, a6] h = .nx [a0, a1, some (.ref d), z3, a4, a5, a6] (h.set d (.dct D')) ∧ ∀ x : Tx, (kget D' (.str x)).isSome = ((kget D (.str x)).isSome || decide (∃ t ∈ kept, dig t = x))
  | [], h, D, a3, e, _ => by
    refine ⟨a3, D, ?_, fun x => by simp⟩
    have : h.set d (.dct D) = h := by
      have := set_set_same (o := .dct D) e
      rw [List.set_set] at this
      exact this
    rw [this]; rfl
  | t :: kept, h, D, a3, e, hl => by
    have hd : d < h.length := (List.getElem?_eq_some_iff.mp e).1
    rw [List.length_cons] at hl
    have l1 := kput_len D (.str (dig t)) (.bl true)
    obtain ⟨z3, D', e2, H⟩ := held_for a0 a1 a4 a5 a6 kept (h.set d (.dct (kput D (.str (dig t)) (.bl true)))) (kput D (.str (dig t)) (.bl true)) (some (mani t)) (List.getElem?_set_self hd) (by omega)
    refine ⟨z3, D', ?_, fun x => ?_⟩
    · rw [List.map_cons, forL_cons]
      simp only [tName_e, List.set]
      rw [List.set_set] at e2
      have b : m_Store_collect_1_b [a0, a1, some (.ref d), some (mani t), a4, a5, a6] h = .nx [a0, a1, some (.ref d), some (mani t), a4, a5, a6] (h.set d (.dct (kput D (.str (dig t)) (.bl true)))) := by
        unfold m_Store_collect_1_b
        have up : bUpdate (.ref d) [.dct [(.str (dig t), .bl true)]] h = some (.non, h.set d (.dct (kput D (.str (dig t)) (.bl true)))) := by
          unfold bUpdate
          have lb : Nat.ble (D.length + 1) line = true := Nat.ble_eq.mpr (Nat.le_trans (by omega : D.length + 1 ≤ 1001) (by decide))
          simp only [e, List.length_singleton, lb, if_true]
          rfl
        have ar : mCons (mFzD (mDc (mIter (mVar 3)) (tTup (tCons (tName 6) (tCons (tName 4) tNil))) mYes (mVar 4) (mC (.bl true)) [6, 4])) mNil [a0, a1, some (.ref d), some (mani t), a4, a5, a6] h = .ok [.dct [(.str (dig t), .bl true)]] h := by
          have l0 : 0 < line := by decide
          simp [mani, Y.wipe, dcLoop, kput, kget, l0]
        rw [sExpr_e, bmd (by simp) e ar up]
        rfl
      rw [b, again_nx, e2]
    · rw [H, kget_kput]
      by_cases hx : dig t = x
      · subst hx
        simp
      · have : PV.str (dig t) ≠ PV.str x := fun z => hx (PV.str.inj z)
        rw [if_neg this]
        simp [hx]
def goes (kept : List Tx) (cnt : Tx → Int) (t : Tx) : Bool := decide (t ∉ kept) && decide (cnt t = 0)
theorem collect_2 (dj : Dj ts) (S : Sto h s q n ts cnt N row rs es c pi) (hl : row.length ≤ 8) {d : Nat} {D : List (PV × PV)} (hd : h[d]? = some (.dct D)) (hds : s + 4 < d) {kept : List Tx} (kt : ∀ t ∈ kept, t ∈ ts) (hD : ∀ x : Tx, (kget D (.str x)).isSome = decide (∃ t ∈ kept, dig t = x)) (a1 a3 a4 a5 a6 : Option PV) :
    m_Store_collect_2 [some (.ref s), a1, some (.ref d), a3, a4, a5, a6] h = .nx [some (.ref s), a1, some (.ref d), a3, a4, some (.lst (((row.filter (goes kept cnt)).map fun t => PV.str (dig t)).mergeSort pvLe)), a6] h := by
  unfold m_Store_collect_2
  have S0 := S.st
  have dn : d ≠ s + 1 := by omega
  have e3 : (h.set (s + 1) (.ldct (tx es)))[s + 3]? = some (.dct (la es)) := by rw [List.getElem?_set_ne (by omega)]; exact S0.l
  have e4 : (h.set (s + 1) (.ldct (tx es)))[s + 4]? = some (.dct pi) := by rw [List.getElem?_set_ne (by omega)]; exact S0.p
  have e0 : (h.set (s + 1) (.ldct (tx es)))[s]? = some (.ins 0 (sf s q (n * es.length) c)) := by rw [List.getElem?_set_ne (by omega)]; exact S0.o
  have e1 : (h.set (s + 1) (.ldct (tx es)))[s + 1]? = some (.ldct (tx es)) := List.getElem?_set_self (by have := S0.lt; omega)
  have ed : (h.set (s + 1) (.ldct (tx es)))[d]? = some (.dct D) := by rw [List.getElem?_set_ne (by omega)]; exact hd
  have a2 : atO okF 2 (.ref s) (h.set (s + 1) (.ldct (tx es))) = some (.ref (s + 1)) := at_ok e0 rfl rfl
  have a8 : atO okF 8 (.ref s) (h.set (s + 1) (.ldct (tx es))) = some (.ref (s + 4)) := at_ok e0 rfl rfl
  have key : mLock (mOp1 (atO okF 2) (mVar 0)) (mLc (mKeys (mOp1 (atO okF 2) (mVar 0))) (tName 4) (mAnd (mTest (mOp2 (cmpV .NotIn) (mVar 4) (mVar 2))) (mTest (mOp2 (cmpV .Eq) (mMeth noC ["dict"] bGet (mOp1 (atO okF 8) (mVar 0)) (mCons (mVar 4) (mCons (mC (.int 0)) mNil))) (mC (.int 0))))) (mVar 4) [4])
      [some (.ref s), a1, some (.ref d), a3, a4, a5, a6] h = .ok ((es.filter fun e => goes kept cnt e.1).map fun e => .str (dig e.1)) h := by
    refine lock_ok (n := s + 1) (by simp [S0.t_]) S0.t ?_
    rw [mLc_e, keys_ok (n := s + 1) (by simp [a2]) e1]
    simp only [R.bnd_ok, Y.wipe, List.set]
    have ek : (tx es).map (·.1) = es.map fun e => PV.str (dig e.1) := by unfold tx; rw [List.map_map]; rfl
    rw [ek]
    have step := lc_fm (tg := tName 4) (t := mAnd (mTest (mOp2 (cmpV .NotIn) (mVar 4) (mVar 2))) (mTest (mOp2 (cmpV .Eq) (mMeth noC ["dict"] bGet (mOp1 (atO okF 8) (mVar 0)) (mCons (mVar 4) (mCons (mC (.int 0)) mNil))) (mC (.int 0))))) (e := mVar 4) (σ := [some (.ref s), a1, some (.ref d), a3, none, a5, a6]) (h := h.set (s + 1) (.ldct (tx es)))
      (fun x => !(kget D x).isSome && decide ((kget pi x).getD (.int 0) = .int 0)) id (es.map fun e => PV.str (dig e.1)) [] (by simp; rw [S.len]; exact l7 (by omega)) fun x hx => by
        obtain ⟨e, he', rfl⟩ := List.mem_map.mp hx
        refine ⟨_, rfl, ?_, fun _ => by simp⟩
        have g := bmd (o := mOp1 (atO okF 8) (mVar 0)) (as := mCons (mVar 4) (mCons (mC (.int 0)) mNil)) (σ := [some (.ref s), a1, some (.ref d), a3, some (.str (dig e.1)), a5, a6]) (by simp [a8]) e4 (by simp) (get_s (d := .int 0) (dig e.1) e4)
        rw [S.pn _ (S.he e he')] at g ⊢
        have ni := ninV_s (dig e.1) ed
        by_cases hz : (kget D (.str (dig e.1))).isSome = true
        · simp [ni, hz]
        · have hz : (kget D (.str (dig e.1))).isSome = false := by simpa using hz
          simp [ni, hz, g]
    rw [step, List.nil_append, List.map_id, List.filter_map]
    congr 2
    apply List.filter_congr
    intro e he'
    simp only [Function.comp]
    rw [S.pn _ (S.he e he'), hD]
    unfold goes
    rw [← decide_not]
    congr 1
    · apply decide_eq_decide.mpr
      constructor
      · intro z w; exact z ⟨e.1, w, rfl⟩
      · rintro z ⟨t, h1, h2⟩
        exact z (dj t (kt t h1) _ (S.he e he') h2 ▸ h1)
    · exact decide_eq_decide.mpr ⟨fun z => PV.int.inj z, fun z => by rw [z]⟩
  have e1' : (es.filter fun e => goes kept cnt e.1).map (fun e => PV.str (dig e.1)) = (((es.filter fun e => goes kept cnt e.1).map fun e => dig e.1)).map PV.str := by rw [List.map_map]; rfl
  have pm : ((es.filter fun e => goes kept cnt e.1).map fun e => dig e.1).Perm ((row.filter (goes kept cnt)).map dig) := by
    have p1 := (S.row_es.filter (goes kept cnt)).map dig
    rw [List.filter_map, List.map_map] at p1
    exact p1.symm
  have so : bSorted [.lst ((es.filter fun e => goes kept cnt e.1).map fun e => PV.str (dig e.1))] h = some (((row.filter (goes kept cnt)).map fun t => PV.str (dig t)).mergeSort pvLe) := by
    rw [e1']
    show (if sortOk _ then some _ else none) = _
    rw [if_pos (sortOk_strs _), sort_strs pm, List.map_map]
    rfl
  simp only [sAsg_e, mFz_e, mBiL_e, mCons_e, mNil_e, key, R.bnd_ok, so, retO_some, R.thn_ok, tName_e]
  rfl
theorem collect_ok (dj : Dj ts) (S : StoR h s q n ts cnt N row) {kept : List Tx} (hk : kept.length ≤ 8) (kt : ∀ t ∈ kept, t ∈ ts) (hl : row.length ≤ 8) : ∃ h', F_Store_collect [.ref s, .lst (kept.map mani)] h = .ok (.lst (((row.filter (goes kept cnt)).map fun t => PV.str (dig t)).mergeSort pvLe)) h' ∧ StoR h' s q n ts cnt N (row.filter fun x => !goes kept cnt x) ∧ Ext (InSt s) h h' := by
  obtain ⟨z3, D, e1, hD⟩ := held_for (some (.ref s)) (some (.lst (kept.map mani))) none none none (d := h.length) kept (h ++ [.dct []]) [] none (by simp) (by simp; omega)
  have es : (h ++ [VO.dct []]).set h.length (.dct D) = h ++ [.dct D] := by simp
  rw [es] at e1
  obtain ⟨rs, es', c, pi, S1⟩ := S
  have S2 := S1.push [.dct D]
  have e2 := collect_2 dj S2 hl (d := h.length) (D := D) (by simp) S1.st.lt kt (fun x => by rw [hD]; simp [kget_nil]) (some (.lst (kept.map mani))) z3 none none none
  obtain ⟨gl0, eg, pg⟩ := sort_map ((row.filter (goes kept cnt)).map dig)
  have pgl : (gl0.map (inv ts)).Perm (row.filter (goes kept cnt)) := by
    have p1 := pg.map (inv ts)
    rw [List.map_map, List.map_congr_left (f := inv ts ∘ dig) (g := id) fun t ht => inv_dig dj (S1.sub (List.mem_filter.mp ht).1), List.map_id] at p1
    exact p1
  have gd : (gl0.map (inv ts)).map dig = gl0 := by
    rw [List.map_map, List.map_congr_left (g := id) fun t ht => ?_, List.map_id]
    obtain ⟨u, hu, rfl⟩ := List.mem_map.mp (pg.mem_iff.mp ht)
    show dig (inv ts (dig u)) = dig u
    rw [inv_dig dj (S1.sub (List.mem_filter.mp hu).1)]
  obtain ⟨h', z4, e3, S3, X3⟩ := drops_ok dj (some (.ref s)) (some (.lst (kept.map mani))) (some (.ref h.length)) z3 (some (.lst (gl0.map PV.str))) none (gl0.map (inv ts)) (h ++ [.dct D]) row none ⟨rs, es', c, pi, S2⟩ (pgl.nodup_iff.mpr (S1.ndr.filter _)) fun g hg => (List.mem_filter.mp (pgl.mem_iff.mp hg)).1
  rw [gd] at e3
  have er : ((row.filter (goes kept cnt)).map fun t => PV.str (dig t)).mergeSort pvLe = gl0.map PV.str := by rw [← eg, List.map_map]; rfl
  rw [er] at e2 ⊢
  refine ⟨h', run_ret rfl ?_, ?_, Ext.push.tr X3⟩
  · show m_Store_collect [some (.ref s), some (.lst (kept.map mani)), none, none, none, none, none] h = _
    unfold m_Store_collect
    have e0 : m_Store_collect_0 [some (.ref s), some (.lst (kept.map mani)), none, none, none, none, none] h = .nx [some (.ref s), some (.lst (kept.map mani)), some (.ref h.length), none, none, none, none] (h ++ [.dct []]) := by
      unfold m_Store_collect_0
      simp
    have e1' : m_Store_collect_1 [some (.ref s), some (.lst (kept.map mani)), some (.ref h.length), none, none, none, none] (h ++ [.dct []]) = .nx [some (.ref s), some (.lst (kept.map mani)), some (.ref h.length), z3, none, none, none] (h ++ [.dct D]) := by
      unfold m_Store_collect_1
      simp only [sFor_e, mIter_e, vs1, v0_lst, R.bnd_ok, R.thn_ok]
      exact e1
    have e3' : m_Store_collect_3 [some (.ref s), some (.lst (kept.map mani)), some (.ref h.length), z3, none, some (.lst (gl0.map PV.str)), none] (h ++ [.dct D]) = .nx [some (.ref s), some (.lst (kept.map mani)), some (.ref h.length), z3, z4, some (.lst (gl0.map PV.str)), none] h' := by
      unfold m_Store_collect_3
      simp only [sFor_e, mIter_e, vs5, vs4, vs3, vs2, vs1, v0_lst, R.bnd_ok, R.thn_ok]
      exact e3
    rw [seqE e0, seqE e1', seqE e2, seqE e3']
    unfold m_Store_collect_4
    simp
  · have : (row.filter fun x => decide (x ∉ gl0.map (inv ts))) = row.filter fun x => !goes kept cnt x := by
      apply List.filter_congr
      intro x hx
      rw [decide_not]
      congr 1
      rw [Bool.eq_iff_iff, decide_eq_true_iff, pgl.mem_iff, List.mem_filter]
      exact ⟨fun z => z.2, fun z => ⟨hx, z⟩⟩
    rw [this] at S3
    exact S3
end
end Y.k33

set_option maxHeartbeats 1000000
namespace Y.k33
open PySem Y
/-! ### the end -/
section
variable {ns : List Int} {n kc : Nat} {ts : List Tx} {rms : List Nat} {pins : Bool} {cs : List Int} {sd : Int}
theorem kept_lc {σ : Sl} (v1 : ∀ v h, mVar 1 (σ.set 7 v) h = .ok (.ref 0) h) (v7 : ∀ x h, mVar 7 (σ.set 7 (some (.str x))) h = .ok (.str x) h) : ∀ (xs : List Tx) (acc : List PV) (h : VH), Tp cs sd h → acc.length + xs.length ≤ line → ∃ (sub : List Tx) (h' : VH), lcLoop (tName 7) (mTest (mOp2 (cmpV .Eq) (mCall F__law_take (mCons (mVar 1) (mCons (mC (.int 2)) mNil))) (mC (.int 0)))) (mVar 7) σ (xs.map PV.str) acc h = .ok (acc ++ sub.map PV.str) h' ∧ Tp cs sd h' ∧ Ext (fun i => i = 0) h h' ∧ sub.Sublist xs
  | [], acc, h, T, _ => ⟨[], h, by simp, T, Ext.refl _ _, List.Sublist.refl _⟩
  | x :: xs, acc, h, T, hl => by
    rw [List.length_cons] at hl
    obtain ⟨v, h1, e1, _, _, T1, X1, _⟩ := T.take (m := 2) (by decide)
    have t1 : mTest (mOp2 (cmpV .Eq) (mCall F__law_take (mCons (mVar 1) (mCons (mC (.int 2)) mNil))) (mC (.int 0))) (σ.set 7 (some (.str x))) h = .ok (decide (v = 0)) h1 := by simp [v1, e1]
    by_cases hv : v = 0
    · obtain ⟨sub, h', e2, T2, X2, sb⟩ := kept_lc v1 v7 xs (acc ++ [.str x]) h1 T1 (by simp; omega)
      refine ⟨x :: sub, h', ?_, T2, X1.tr X2, sb.cons_cons x⟩
      rw [List.map_cons]
      unfold lcLoop
      simp only [tName_e, t1, calm_ok, R.bnd_ok, hv, decide_true, if_true, v7]
      rw [if_pos (Nat.blt_eq.mpr (by omega)), e2]
      simp
    · obtain ⟨sub, h', e2, T2, X2, sb⟩ := kept_lc v1 v7 xs acc h1 T1 (by omega)
      refine ⟨sub, h', ?_, T2, X1.tr X2, sb.cons x⟩
      rw [List.map_cons]
      unfold lcLoop
      simp only [tName_e, t1, calm_ok, R.bnd_ok, hv, decide_false, Bool.false_eq_true, if_false]
      rw [e2]
theorem len_refd {h : VH} {j : Nat} {kvs : List (PV × PV)} (e : h[j]? = some (.dct kvs)) : bLen [.ref j] h = some (.int kvs.length) := by
  unfold bLen asSeq asList asDict
  simp only [e]
  rfl
theorem end_k (dj : Dj ts) (m4 : rms.length ≤ 4) (hn : 1 ≤ n) (hn2 : n ≤ 100) {N k r : Nat} (hk : rms[k]? = some r) {h : VH} {reg row : List Tx} {cnt : Tx → Int} (T : Tp cs sd h) (A : At h n ts rms pins N k r reg cnt row) (y7 y13 y14 y15 y16 y17 y18 y19 y20 y21 y22 : Option PV) :
    ∃ h' z7 z18 z19 z20, m_law_9_b (sl ns n kc ts rms pins (some (.int k)) y7 y13 y14 y15 y16 y17 y18 y19 y20 y21 y22) h = .nx (sl ns n kc ts rms pins (some (.int k)) z7 y13 y14 y15 y16 y17 z18 z19 z20 y21 y22) h' ∧ Ext (InT (2 + 5 * k) (2 + 5 * rms.length + 2 * k)) h h' ∧ Tp cs sd h' := by
  have hrow := A.row_
  obtain ⟨⟨q, P⟩, c0, _⟩ := A
  have hkm : k < rms.length := (List.getElem?_eq_some_iff.mp hk).1
  have iM : itO (refs (2 + 5 * rms.length + 1) 2 rms.length) (k : Int) = some (.ref (2 + 5 * rms.length + 1 + 2 * k)) := refs_it hkm
  have iS : itO (refs 2 5 rms.length) (k : Int) = some (.ref (2 + 5 * k)) := refs_it hkm
  have ep : 2 + 5 * rms.length + 2 * k + 1 = 2 + 5 * rms.length + 1 + 2 * k := by omega
  have hr7 : row.length ≤ 7 := Nat.le_trans P.hl P.h7
  obtain ⟨pd, M⟩ := P.mo
  have hpin := M.p_
  rw [ep] at hpin
  -- held
  have b0 : m_law_9_b_0 (sl ns n kc ts rms pins (some (.int k)) y7 y13 y14 y15 y16 y17 y18 y19 y20 y21 y22) h = .nx (sl ns n kc ts rms pins (some (.int k)) y7 y13 y14 y15 y16 y17 (some (.lst ((row.filter fun x => decide (0 < cnt x)).map PV.str))) y19 y20 y21 y22) h := by
    have lc0 : lcLoop (tName 7) (mTest (mOp2 (cmpV .Gt) (mMeth noC ["dict"] bGet (mOp2 ixO (mOp2 ixO (mVar 10) (mVar 4)) (mC t_pins)) (mCons (mVar 7) (mCons (mC (.int 0)) mNil))) (mC (.int 0)))) (mVar 7) (sl ns n kc ts rms pins (some (.int k)) none y13 y14 y15 y16 y17 y18 y19 y20 y21 y22) (row.map PV.str) [] h = .ok ((row.filter fun x => decide (0 < cnt x)).map PV.str) h := by
      refine lc_strs (fun x => decide (0 < cnt x)) row (by simp [sl]) (l7 (by omega)) fun x hx => ?_
      have g := bmd (o := mOp2 ixO (mOp2 ixO (mVar 10) (mVar 4)) (mC t_pins)) (as := mCons (mVar 7) (mCons (mC (.int 0)) mNil)) (σ := (sl ns n kc ts rms pins (some (.int k)) none y13 y14 y15 y16 y17 y18 y19 y20 y21 y22).set 7 (some (.str x))) (by simp [sl, iM, hpin]) M.d (by simp [sl]) (get_s (d := .int 0) x M.d)
      rw [M.pn x (P.st.sub hx)] at g
      simp [g]
    unfold m_law_9_b_0
    unfold sl at lc0
    simp [sl, iM, hrow, Y.wipe, lc0]
  -- kept
  obtain ⟨kept, h1, e1, T1, X1, sb⟩ := kept_lc (cs := cs) (sd := sd) (σ := sl ns n kc ts rms pins (some (.int k)) none y13 y14 y15 y16 y17 (some (.lst ((row.filter fun x => decide (0 < cnt x)).map PV.str))) y19 y20 y21 y22) (fun v h => by simp [sl]) (fun x h => by simp [sl]) row [] h T (l7 (by simp; omega))
  rw [List.nil_append] at e1
  have kl : kept.length ≤ 7 := Nat.le_trans sb.length_le hr7
  have kr : ∀ t ∈ kept, t ∈ row := fun t ht => sb.subset ht
  have kt : ∀ t ∈ kept, t ∈ ts := fun t ht => P.st.sub (kr t ht)
  have b1 : m_law_9_b_1 (sl ns n kc ts rms pins (some (.int k)) y7 y13 y14 y15 y16 y17 (some (.lst ((row.filter fun x => decide (0 < cnt x)).map PV.str))) y19 y20 y21 y22) h = .nx (sl ns n kc ts rms pins (some (.int k)) y7 y13 y14 y15 y16 y17 (some (.lst ((row.filter fun x => decide (0 < cnt x)).map PV.str))) (some (.lst (kept.map PV.str))) y20 y21 y22) h1 := by
    unfold m_law_9_b_1
    unfold sl at e1
    simp [sl, iM, hrow, Y.wipe, e1]
  have P1 := P.ext X1 fun i z w => by unfold InP InSt InMo at z; omega
  have hrow1 : ixO (.ref (2 + 5 * rms.length + 1 + 2 * k)) t_row h1 = some (.lst (row.map PV.str)) := by
    obtain ⟨pd, M⟩ := P1.mo
    have := M.r_
    rw [ep] at this
    exact this
  -- gone
  have fg : (row.filter fun x => (!decide (x ∈ row.filter fun x => decide (0 < cnt x))) && !decide (x ∈ kept)) = row.filter (goes kept cnt) := by
    apply List.filter_congr
    intro x hx
    unfold goes
    rw [Bool.and_comm, decide_not]
    congr 1
    rw [← decide_not]
    apply decide_eq_decide.mpr
    rw [List.mem_filter, decide_eq_true_iff]
    have := c0 x
    constructor
    · intro z
      have : ¬ 0 < cnt x := fun w => z ⟨hx, w⟩
      omega
    · rintro z ⟨_, w⟩
      omega
  obtain ⟨gl, eg, _⟩ := sort_map ((row.filter (goes kept cnt)).map dig)
  have eg' : ((row.filter (goes kept cnt)).map fun t => PV.str (dig t)).mergeSort pvLe = gl.map PV.str := by rw [← eg, List.map_map]; rfl
  have b2 : m_law_9_b_2 (sl ns n kc ts rms pins (some (.int k)) y7 y13 y14 y15 y16 y17 (some (.lst ((row.filter fun x => decide (0 < cnt x)).map PV.str))) (some (.lst (kept.map PV.str))) y20 y21 y22) h1 = .nx (sl ns n kc ts rms pins (some (.int k)) y7 y13 y14 y15 y16 y17 (some (.lst ((row.filter fun x => decide (0 < cnt x)).map PV.str))) (some (.lst (kept.map PV.str))) (some (.lst (gl.map PV.str))) y21 y22) h1 := by
    have lc2 : lcLoop (tName 7) (mAnd (mTest (mOp2 (cmpV .NotIn) (mVar 7) (mVar 18))) (mTest (mOp2 (cmpV .NotIn) (mVar 7) (mVar 19)))) (mCall F__law_digest (mCons (mVar 7) mNil)) (sl ns n kc ts rms pins (some (.int k)) none y13 y14 y15 y16 y17 (some (.lst ((row.filter fun x => decide (0 < cnt x)).map PV.str))) (some (.lst (kept.map PV.str))) y20 y21 y22) (row.map PV.str) [] h1 = .ok ((row.filter (goes kept cnt)).map fun t => PV.str (dig t)) h1 := by
      rw [lc_fm (fun v => match v with | .str x => (!decide (x ∈ row.filter fun x => decide (0 < cnt x))) && !decide (x ∈ kept) | _ => false) (fun v => match v with | .str x => .str (dig x) | _ => .non) (row.map PV.str) [] (by simp; exact l7 (by omega)) fun x hx => ?_]
      · rw [List.nil_append, List.filter_map, List.map_map]
        rw [← fg]
        rfl
      · obtain ⟨y, hy, rfl⟩ := List.mem_map.mp hx
        have i1 := nin_strs (h := h1) y (row.filter fun x => decide (0 < cnt x))
        have i2 := nin_strs (h := h1) y kept
        refine ⟨_, rfl, ?_, fun _ => ?_⟩
        · show _ = R.ok ((!decide (y ∈ row.filter fun x => decide (0 < cnt x))) && !decide (y ∈ kept)) h1
          by_cases hz : y ∈ row.filter fun x => decide (0 < cnt x)
          · rw [decide_eq_true hz] at i1 ⊢
            simp [sl, i1]
          · rw [decide_eq_false hz] at i1 ⊢
            simp [sl, i1, i2]
        · simp [sl, law_digest_ok]
    have so : bSorted [.lst ((row.filter (goes kept cnt)).map fun t => PV.str (dig t))] h1 = some (gl.map PV.str) := by
      have : ((row.filter (goes kept cnt)).map fun t => PV.str (dig t)) = ((row.filter (goes kept cnt)).map dig).map PV.str := by rw [List.map_map]; rfl
      rw [← eg', this]
      show (if sortOk _ then some _ else none) = _
      rw [if_pos (sortOk_strs _)]
    unfold m_law_9_b_2
    unfold sl at lc2
    simp [sl, iM, hrow1, Y.wipe, lc2, so]
  -- collected, twice
  obtain ⟨h2, e3, S2, X2⟩ := collect_ok dj P1.st (kept := kept) (by omega) kt (by omega)
  rw [eg'] at e3
  have l2 : (row.filter fun x => !goes kept cnt x).length ≤ 8 := Nat.le_trans (List.length_filter_le _ _) (by omega)
  obtain ⟨h3, e4, S3, X3⟩ := collect_ok dj S2 (kept := kept) (by omega) kt l2
  have f0 : (row.filter fun x => !goes kept cnt x).filter (goes kept cnt) = [] := by
    rw [List.filter_filter, List.filter_eq_nil_iff]
    intro x _
    simp
  have f1 : (row.filter fun x => !goes kept cnt x).filter (fun x => !goes kept cnt x) = row.filter fun x => !goes kept cnt x := by
    rw [List.filter_filter]
    congr 1
    funext x
    simp
  rw [f0] at e4
  rw [f1] at S3
  have e4 : F_Store_collect [.ref (2 + 5 * k), .lst (kept.map mani)] h2 = .ok (.lst []) h3 := by
    rw [e4]
    simp
  have c1 : clsOf (.ref (2 + 5 * k)) h1 = some 0 := put_tail (t := []) P1.st
  have c2 : clsOf (.ref (2 + 5 * k)) h2 = some 0 := put_tail (t := []) S2
  have lm : ∀ g : VH, lcLoop (tName 7) mYes (mBi bTuple (mCons (mFz (mNewL (mCons (mTup (mCons (mC t_p) (mCons (mCall F__law_digest (mCons (mVar 7) mNil)) mNil))) mNil))) mNil)) (sl ns n kc ts rms pins (some (.int k)) none y13 y14 y15 y16 y17 (some (.lst ((row.filter fun x => decide (0 < cnt x)).map PV.str))) (some (.lst (kept.map PV.str))) (some (.lst (gl.map PV.str))) y21 y22) (kept.map PV.str) [] g = .ok (kept.map mani) g := fun g => by
    rw [lc_map (fun v => match v with | .str x => mani x | _ => .non) (kept.map PV.str) [] (by simp; exact l7 (by omega)) fun x hx => ?_]
    · rw [List.nil_append, List.map_map]; rfl
    · obtain ⟨y, hy, rfl⟩ := List.mem_map.mp hx
      have l2 : 2 ≤ line := by decide
      have l1 : 1 ≤ line := by decide
      have bt : ∀ l : List PV, bTuple [.lst l] g = some (.tup l) := fun l => rfl
      exact ⟨_, rfl, by simp [sl, law_digest_ok, l1, l2, bt, mani]⟩
  have b3 : m_law_9_b_3 (sl ns n kc ts rms pins (some (.int k)) y7 y13 y14 y15 y16 y17 (some (.lst ((row.filter fun x => decide (0 < cnt x)).map PV.str))) (some (.lst (kept.map PV.str))) (some (.lst (gl.map PV.str))) y21 y22) h1 = .nx (sl ns n kc ts rms pins (some (.int k)) y7 y13 y14 y15 y16 y17 (some (.lst ((row.filter fun x => decide (0 < cnt x)).map PV.str))) (some (.lst (kept.map PV.str))) (some (.lst (gl.map PV.str))) y21 y22) h3 := by
    unfold m_law_9_b_3
    unfold sl at lm
    have ne1 : cmpV .NotEq (.lst (gl.map PV.str)) (.lst (gl.map PV.str)) h2 = some (.bl false) := by rw [ne_strs]; simp
    have ne2 : cmpV .NotEq (.lst []) (.lst []) h3 = some (.bl false) := ne_strs [] []
    have l0 : 0 ≤ line := Nat.zero_le _
    simp [sl, iS, c1, c2, Y.wipe, lm, e3, e4, ne1, ne2]
  -- what is left
  have b4 : m_law_9_b_4 (sl ns n kc ts rms pins (some (.int k)) y7 y13 y14 y15 y16 y17 (some (.lst ((row.filter fun x => decide (0 < cnt x)).map PV.str))) (some (.lst (kept.map PV.str))) (some (.lst (gl.map PV.str))) y21 y22) h3 = .nx (sl ns n kc ts rms pins (some (.int k)) y7 y13 y14 y15 y16 y17 (some (.lst ((row.filter fun x => decide (0 < cnt x)).map PV.str))) (some (.lst (kept.map PV.str))) (some (.lst (gl.map PV.str))) y21 y22) h3 := by
    obtain ⟨rs, es, c, pi, S⟩ := id S3
    have hv : (tx es).map (·.2) = (es.map (·.1)).map PV.str := by unfold tx; rw [List.map_map, List.map_map]; rfl
    have pm : (es.map (·.1)).Perm (dedup ((row.filter fun x => decide (0 < cnt x)) ++ kept)) := by
      refine perm_nd S.nd (dedup_nodup _) fun x => ?_
      rw [← S.mem, dedup_mem, List.mem_append, List.mem_filter, List.mem_filter, decide_eq_true_iff]
      unfold goes
      have := c0 x
      constructor
      · rintro ⟨h1, h2⟩
        by_cases hx : x ∈ kept
        · exact .inr hx
        · refine .inl ⟨h1, ?_⟩
          simp [hx] at h2
          omega
      · rintro (⟨h1, h2⟩ | h2)
        · have : cnt x ≠ 0 := by omega
          exact ⟨h1, by simp [this]⟩
        · exact ⟨kr x h2, by simp [h2]⟩
    obtain ⟨l, el, _⟩ := sort_map (es.map (·.1))
    have e5 : ((tx es).map (·.2)).mergeSort pvLe = l.map PV.str := by rw [hv, el]
    have e6 : ((dedup ((row.filter fun x => decide (0 < cnt x)) ++ kept)).map PV.str).mergeSort pvLe = l.map PV.str := by rw [← sort_strs pm, el]
    have hl8 : es.length ≤ 8 := by rw [S.len]; exact l2
    have ok1 : sortOk1 ((tx es).map (·.2)) = true := by rw [hv]; exact sortOk1_strs _
    have le1 : Nat.ble (tx es).length line = true := Nat.ble_eq.mpr (by unfold tx; rw [List.length_map]; exact l7 (by omega))
    have hh8 : (row.filter fun x => decide (0 < cnt x)).length ≤ 7 := Nat.le_trans (List.length_filter_le _ _) hr7
    have a1 := add_strs (row.filter fun x => decide (0 < cnt x)) kept h3 (Nat.le_trans (Nat.add_le_add hh8 kl) (by decide))
    have fw : few ((row.filter fun x => decide (0 < cnt x)) ++ kept).length = true := Nat.ble_eq.mpr (by rw [List.length_append]; omega)
    have sv : mSortV (mOp1 (atO okF 2) (mOp2 ixO (mVar 9) (mVar 4))) (sl ns n kc ts rms pins (some (.int k)) y7 y13 y14 y15 y16 y17 (some (.lst ((row.filter fun x => decide (0 < cnt x)).map PV.str))) (some (.lst (kept.map PV.str))) (some (.lst (gl.map PV.str))) y21 y22) h3 = .ok (l.map PV.str) h3 := by
      have oo : mOp2 ixO (mVar 9) (mVar 4) (sl ns n kc ts rms pins (some (.int k)) y7 y13 y14 y15 y16 y17 (some (.lst ((row.filter fun x => decide (0 < cnt x)).map PV.str))) (some (.lst (kept.map PV.str))) (some (.lst (gl.map PV.str))) y21 y22) h3 = .ok (.ref (2 + 5 * k)) h3 := by simp [sl, iS]
      rw [mSortV_e, mOp1_e, oo]
      simp only [R.bnd_ok, S.st.t_, retO_some, S.st.t, ok1, le1, Bool.and_self, if_true, e5]
    have ss : mSortSet (mOp2 (binO .Add) (mVar 18) (mVar 19)) (sl ns n kc ts rms pins (some (.int k)) y7 y13 y14 y15 y16 y17 (some (.lst ((row.filter fun x => decide (0 < cnt x)).map PV.str))) (some (.lst (kept.map PV.str))) (some (.lst (gl.map PV.str))) y21 y22) h3 = .ok (l.map PV.str) h3 := by
      have oo : mOp2 (binO .Add) (mVar 18) (mVar 19) (sl ns n kc ts rms pins (some (.int k)) y7 y13 y14 y15 y16 y17 (some (.lst ((row.filter fun x => decide (0 < cnt x)).map PV.str))) (some (.lst (kept.map PV.str))) (some (.lst (gl.map PV.str))) y21 y22) h3 = .ok (.lst (((row.filter fun x => decide (0 < cnt x)) ++ kept).map PV.str)) h3 := by
        rw [mOp2_e]
        have v18 : mVar 18 (sl ns n kc ts rms pins (some (.int k)) y7 y13 y14 y15 y16 y17 (some (.lst ((row.filter fun x => decide (0 < cnt x)).map PV.str))) (some (.lst (kept.map PV.str))) (some (.lst (gl.map PV.str))) y21 y22) h3 = .ok (.lst ((row.filter fun x => decide (0 < cnt x)).map PV.str)) h3 := by simp [sl]
        have v19 : mVar 19 (sl ns n kc ts rms pins (some (.int k)) y7 y13 y14 y15 y16 y17 (some (.lst ((row.filter fun x => decide (0 < cnt x)).map PV.str))) (some (.lst (kept.map PV.str))) (some (.lst (gl.map PV.str))) y21 y22) h3 = .ok (.lst (kept.map PV.str)) h3 := by simp [sl]
        simp only [v18, R.bnd_ok, v19, a1, retO_some]
      rw [mSortSet_e, oo]
      simp only [R.bnd_ok, asList, Option.bind_some, strs_map, fw, if_true, e6, retO_some]
    have ne1 : cmpV .NotEq (.lst (l.map PV.str)) (.lst (l.map PV.str)) h3 = some (.bl false) := by rw [ne_strs]; simp
    have u1 := S.st.u_
    have lt : bLen [.ref (2 + 5 * k + 1)] h3 = some (.int es.length) := by rw [len_refd S.st.t]; unfold tx; rw [List.length_map]
    have mo : mulOk (n : Int) = true := mulOk_of (by omega) (by omega)
    unfold m_law_9_b_4
    unfold sl at sv ss ⊢
    simp [-mSortV_e, -mSortSet_e, sv, ss, ne1, iS, u1, S.st.t_, lt, mo]
  refine ⟨h3, y7, some (.lst ((row.filter fun x => decide (0 < cnt x)).map PV.str)), some (.lst (kept.map PV.str)), some (.lst (gl.map PV.str)), ?_, ((X1.mono fun _ z => .inr z).tr (X2.mono fun _ z => .inl (.inl z))).tr (X3.mono fun _ z => .inl (.inl z)), ((T1.ext X2 fun z => by unfold InSt at z; omega).ext X3 fun z => by unfold InSt at z; omega)⟩
  unfold m_law_9_b
  rw [seqE b0, seqE b1, seqE b2, seqE b3, b4]
theorem ends_ok (dj : Dj ts) (m4 : rms.length ≤ 4) (hn : 1 ≤ n) (hn2 : n ≤ 100) {N : Nat} (y4 y7 y13 y14 y15 y16 y17 y18 y19 y20 y21 y22 : Option PV) {h : VH} (I : InvT n ts rms pins cs sd N h) :
    ∃ σ' h', m_law_9 (sl ns n kc ts rms pins y4 y7 y13 y14 y15 y16 y17 y18 y19 y20 y21 y22) h = .nx σ' h' := by
  obtain ⟨tp, reg, cnts, rows, rl, rg, al⟩ := I
  have hb := for_inv (tg := tName 4) (b := m_law_9_b) (fun j σ h => Tp cs sd h ∧ (∀ i r, j ≤ i → rms[i]? = some r → At h n ts rms pins N i r reg (cnts i) (rows i)) ∧ ∃ z4 z7 z18 z19 z20, σ = sl ns n kc ts rms pins z4 z7 y13 y14 y15 y16 y17 z18 z19 z20 y21 y22) (rangeL 0 rms.length) 0 _ h ⟨tp, fun i r _ hi => al i r hi, y4, y7, y18, y19, y20, rfl⟩ fun j x hx σ h ⟨T, B, z4, z7, z18, z19, z20, es⟩ => by
    subst es
    rw [Nat.zero_add] at *
    have hj : j < rms.length := by
      have := (List.getElem?_eq_some_iff.mp hx).1
      unfold rangeL at this
      simpa using this
    have ex : x = .int j := by
      unfold rangeL at hx
      simp [hj] at hx
      exact hx.symm
    subst ex
    have hk : rms[j]? = some rms[j] := List.getElem?_eq_getElem hj
    obtain ⟨h', w7, w18, w19, w20, e, X, T'⟩ := end_k (ns := ns) (kc := kc) dj m4 hn hn2 hk T (B j _ (Nat.le_refl j) hk) z7 y13 y14 y15 y16 y17 z18 z19 z20 y21 y22
    refine ⟨_, h, rfl, _, h', .inl e, T', fun i r hji hi => ?_, _, _, _, _, _, rfl⟩
    exact (B i r (by omega) hi).ext X (apart (List.getElem?_eq_some_iff.mp hi).1 hj (by omega))
  obtain ⟨σ', h', e, _⟩ := hb
  have ok1 : rngOk (rms.length : Int) = true := rngOk_of (by omega) (by omega)
  refine ⟨σ', h', ?_⟩
  unfold m_law_9
  have eR : mRange (mCons (mBi bLen (mCons (mVar 8) mNil)) mNil) (sl ns n kc ts rms pins y4 y7 y13 y14 y15 y16 y17 y18 y19 y20 y21 y22) h = .ok (rangeL 0 rms.length) h := by
    simp [sl, ok1]
  rw [sFor_e, eR]
  exact e
end
end Y.k33

set_option maxHeartbeats 1000000
namespace Y.k33
open PySem Y
/-! ### the law -/
theorem Tp.pos {cs : List Int} {sd : Int} {h : VH} (T : Tp cs sd h) : 0 < h.length := by
  obtain ⟨a, l, z, T⟩ := T
  exact (List.getElem?_eq_some_iff.mp T.at_).1
theorem law_true (ns : List Int) (hl : ns.length ≤ 63) : ∃ h, F_law [.scr ns] [] = .ok (.bl true) h := by
  obtain ⟨sd, e0, hs⟩ := tape_ok ns [] hl
  have T0 : Tp (ns.map absI) sd [.dct (tp (ns.map absI) 0 0 sd 0)] := by
    refine ⟨0, 0, 0, rfl, fun c hc => ?_, Int.le_refl _, Int.le_refl _, hs⟩
    obtain ⟨i, _, rfl⟩ := List.mem_map.mp hc
    unfold absI
    split <;> omega
  obtain ⟨v1, h1, e1, a0, a9, T1, X1, L1⟩ := T0.take (m := 9) (by decide)
  obtain ⟨v2, h2, e2, b0, b6, T2, X2, L2⟩ := T1.take (m := 6) (by decide)
  obtain ⟨n, en⟩ : ∃ n : Nat, (2 : Int) + v1 = n := ⟨(2 + v1).toNat, by omega⟩
  obtain ⟨kc, ek⟩ : ∃ kc : Nat, (3 : Int) + v2 = kc := ⟨(3 + v2).toNat, by omega⟩
  have hn : 1 ≤ n := by omega
  have hn2 : n ≤ 100 := by omega
  have hk8 : kc ≤ 8 := by omega
  have tl : ∀ t ∈ tts n kc, t.length = n := fun t ht => tts_mem hn (by omega) ht
  have p0 : m_law_0 [some (.scr ns), none, none, none, none, none, none, none, none, none, none, none, none, none, none, none, none, none, none, none, none, none, none] [] = .nx [some (.scr ns), some (.ref 0), none, none, none, none, none, none, none, none, none, none, none, none, none, none, none, none, none, none, none, none, none] [.dct (tp (ns.map absI) 0 0 sd 0)] := by
    unfold m_law_0
    simp [e0]
  have l2 : 2 ≤ line := by decide
  have p1 : m_law_1 [some (.scr ns), some (.ref 0), none, none, none, none, none, none, none, none, none, none, none, none, none, none, none, none, none, none, none, none, none] [.dct (tp (ns.map absI) 0 0 sd 0)] = .nx [some (.scr ns), some (.ref 0), some (.int n), some (.int kc), none, none, none, none, none, none, none, none, none, none, none, none, none, none, none, none, none, none, none] h2 := by
    unfold m_law_1
    simp [e1, e2, en, ek, l2]
  have L2' : h2.length = 1 := by rw [L2, L1]; rfl
  have tx := texts_lc (n := n) (k := kc) (σ := [some (.scr ns), some (.ref 0), some (.int n), some (.int kc), none, none, none, none, none, none, none, none, none, none, none, none, none, none, none, none, none, none, none]) (h := h2) hn hn2 (by omega) (fun v => by simp) (fun i => by simp)
  have okk : rngOk (kc : Int) = true := rngOk_of (by omega) (by omega)
  have p2 : m_law_2 [some (.scr ns), some (.ref 0), some (.int n), some (.int kc), none, none, none, none, none, none, none, none, none, none, none, none, none, none, none, none, none, none, none] h2 = .nx [some (.scr ns), some (.ref 0), some (.int n), some (.int kc), none, some (.lst ((tts n kc).map PV.str)), some (.ref 1), none, none, none, none, none, none, none, none, none, none, none, none, none, none, none, none] (h2 ++ [VO.dct []]) := by
    unfold m_law_2
    simp [okk, Y.wipe, tx, L2']
  have m0 : Met [] [] := ⟨by simp, fun _ => ⟨by simp, fun _ h => by simp at h⟩, fun a => .inl rfl⟩
  obtain ⟨x7, D, e3, M⟩ := names_for (m := 1) (tts n kc) [] (h2 ++ [VO.dct []]) [] (some (.scr ns)) (some (.ref 0)) (some (.int n)) (some (.int kc)) none (some (.lst ((tts n kc).map PV.str))) none [none, none, none, none, none, none, none, none, none, none, none, none, none, none, none] (by rw [← L2']; simp) m0 (by rw [tts_len]; simp; omega)
  rw [List.nil_append] at M
  have p3 : m_law_3 [some (.scr ns), some (.ref 0), some (.int n), some (.int kc), none, some (.lst ((tts n kc).map PV.str)), some (.ref 1), none, none, none, none, none, none, none, none, none, none, none, none, none, none, none, none] (h2 ++ [VO.dct []]) = .nx [some (.scr ns), some (.ref 0), some (.int n), some (.int kc), none, some (.lst ((tts n kc).map PV.str)), some (.ref 1), x7, none, none, none, none, none, none, none, none, none, none, none, none, none, none, none] ((h2 ++ [VO.dct []]).set 1 (.dct D)) := by
    unfold m_law_3
    simp only [sFor_e, mIter_e, vs5, vs4, vs3, vs2, vs1, v0_lst, R.bnd_ok, R.thn_ok]
    exact e3
  have X3 : Ext (fun i => i = 1) h2 ((h2 ++ [VO.dct []]).set 1 (.dct D)) := (Ext.push (S := fun i => i = 1) (l := [VO.dct []])).tr (Ext.set rfl)
  have T3 := T2.ext X3 (by omega)
  have L3 : ((h2 ++ [VO.dct []]).set 1 (.dct D)).length = 2 := by simp [L2']
  have g3 : ((h2 ++ [VO.dct []]).set 1 (.dct D))[1]? = some (.dct D) := List.getElem?_set_self (by simp; omega)
  generalize hh3 : (h2 ++ [VO.dct []]).set 1 (.dct D) = h3 at p3 X3 T3 L3 g3
  have ci := inV_s (h := h3) [99, 108, 97, 115, 104] g3
  by_cases hc' : ¬ kget D t_clash = none
  · have hc := hc'
    refine ⟨h3, run_ret rfl ?_⟩
    show m_law [some (.scr ns), none, none, none, none, none, none, none, none, none, none, none, none, none, none, none, none, none, none, none, none, none, none] [] = _
    unfold m_law
    rw [seqE p0, seqE p1, seqE p2, seqE p3]
    unfold m_law_4
    have hi : (kget D t_clash).isSome = true := by cases hz : kget D t_clash with | none => exact absurd hz hc | some _ => rfl
    rw [hi] at ci
    simp [ci]
  have hc : kget D t_clash = none := Classical.not_not.mp hc'
  obtain ⟨_, dj⟩ := M.ok hc
  rw [show kget D (.str [99, 108, 97, 115, 104]) = none from hc] at ci
  have p4 : m_law_4 [some (.scr ns), some (.ref 0), some (.int n), some (.int kc), none, some (.lst ((tts n kc).map PV.str)), some (.ref 1), x7, none, none, none, none, none, none, none, none, none, none, none, none, none, none, none] h3 = .nx [some (.scr ns), some (.ref 0), some (.int n), some (.int kc), none, some (.lst ((tts n kc).map PV.str)), some (.ref 1), x7, none, none, none, none, none, none, none, none, none, none, none, none, none, none, none] h3 := by
    unfold m_law_4
    simp [ci]
  -- rooms
  obtain ⟨v4, h4, e4, c0, c4, T4, X4, L4⟩ := T3.take (m := 4) (by decide)
  obtain ⟨m, em⟩ : ∃ m : Nat, (1 : Int) + v4 = m := ⟨(1 + v4).toNat, by omega⟩
  obtain ⟨rms, h5, e5, T5, L5, X5, lm, r7⟩ := rooms_lc (cs := ns.map absI) (sd := sd) (σ := [some (.scr ns), some (.ref 0), some (.int n), some (.int kc), none, some (.lst ((tts n kc).map PV.str)), some (.ref 1), x7, none, none, none, none, none, none, none, none, none, none, none, none, none, none, none]) m (by omega) (fun v h => by simp) h4 T4
  have okm : rngOk (m : Int) = true := rngOk_of (by omega) (by omega)
  have p5 : m_law_5 [some (.scr ns), some (.ref 0), some (.int n), some (.int kc), none, some (.lst ((tts n kc).map PV.str)), some (.ref 1), x7, none, none, none, none, none, none, none, none, none, none, none, none, none, none, none] h3 = .nx [some (.scr ns), some (.ref 0), some (.int n), some (.int kc), none, some (.lst ((tts n kc).map PV.str)), some (.ref 1), x7, some (.lst (rms.map fun r => PV.int (r : Nat))), none, none, none, none, none, none, none, none, none, none, none, none, none, none] h5 := by
    unfold m_law_5
    simp [e4, em, okm, Y.wipe, e5]
  have L5' : h5.length = 2 := by rw [L5, L4, L3]
  -- stores, models
  obtain ⟨h6, e6, T6, X6, L6, H6⟩ := stores_lc (cs := ns.map absI) (sd := sd) (n := n) (tts n kc) hn hn2 rms [some (.scr ns), some (.ref 0), some (.int n), some (.int kc), none, some (.lst ((tts n kc).map PV.str)), some (.ref 1), x7, some (.lst (rms.map fun r => PV.int (r : Nat))), none, none, none, none, none, none, none, none, none, none, none, none, none, none] (fun v h => by simp) (fun v h => by simp) (fun i h => by simp) [] h5 (by simp; omega) T5
  rw [L5'] at e6 L6 H6
  obtain ⟨h7, e7, X7, L7, H7⟩ := models_lc (tts n kc) rms [some (.scr ns), some (.ref 0), some (.int n), some (.int kc), none, some (.lst ((tts n kc).map PV.str)), some (.ref 1), x7, some (.lst (rms.map fun r => PV.int (r : Nat))), none, none, none, none, none, none, none, none, none, none, none, none, none, none] [] h6 (by simp; omega)
  rw [L6] at e7 L7 H7
  rw [List.nil_append] at e6 e7
  have p6 : m_law_6 [some (.scr ns), some (.ref 0), some (.int n), some (.int kc), none, some (.lst ((tts n kc).map PV.str)), some (.ref 1), x7, some (.lst (rms.map fun r => PV.int (r : Nat))), none, none, none, none, none, none, none, none, none, none, none, none, none, none] h5 = .nx [some (.scr ns), some (.ref 0), some (.int n), some (.int kc), none, some (.lst ((tts n kc).map PV.str)), some (.ref 1), x7, some (.lst (rms.map fun r => PV.int (r : Nat))), some (.lst (refs 2 5 rms.length)), some (.lst (refs (2 + 5 * rms.length + 1) 2 rms.length)), none, none, none, none, none, none, none, none, none, none, none, none] h7 := by
    unfold m_law_6
    simp only [sAsg_e, mTup_e, mCons_e, mNil_e, mFz_e, mLc_e, mIter_e, vs8, vs7, vs6, vs5, vs4, vs3, vs2, vs1, v0_lst, R.bnd_ok, Y.wipe, List.set, e6, e7]
    simp [l2]
  have T7 := T6.ext X7 fun z => z
  obtain ⟨v8, h8, e8, d0, d3, T8, X8, L8⟩ := T7.take (m := 3) (by decide)
  have L8' : h8.length = 2 + 7 * rms.length := by rw [L8, L7]; omega
  have p7 : m_law_7 [some (.scr ns), some (.ref 0), some (.int n), some (.int kc), none, some (.lst ((tts n kc).map PV.str)), some (.ref 1), x7, some (.lst (rms.map fun r => PV.int (r : Nat))), some (.lst (refs 2 5 rms.length)), some (.lst (refs (2 + 5 * rms.length + 1) 2 rms.length)), none, none, none, none, none, none, none, none, none, none, none, none] h7 = .nx (sl ns n kc (tts n kc) rms (decide (v8 = 0)) none x7 none none none none none none none none none none) (h8 ++ [.lst []]) := by
    unfold m_law_7
    simp [e8, sl, L8']
  -- the turns
  have I0 : InvT n (tts n kc) rms (decide (v8 = 0)) (ns.map absI) sd 0 (h8 ++ [.lst []]) := by
    have XP : Ext (fun _ => False) h8 (h8 ++ [VO.lst []]) := Ext.push
    refine ⟨T8.ext XP fun z => z, [], fun _ _ => 0, fun _ => [], Nat.le_refl _, by rw [← L8']; simp, fun i r hi => ?_⟩
    have him : i < rms.length := (List.getElem?_eq_some_iff.mp hi).1
    obtain ⟨q, S, q1, q2⟩ := H6 i r hi
    have S8 := ((S.ext X7 fun j _ z => z).ext X8 fun j z w => by unfold InSt at z; omega).ext XP fun j _ z => z
    have M8 := ((H7 i him).ext X8 fun j z w => by unfold InMo at z; omega).ext XP fun j _ z => z
    exact ⟨⟨q, S8, ⟨[], M8⟩, by omega, Nat.zero_le _, r7 r (List.mem_of_getElem? hi), q1, q2, by omega⟩, fun _ => Int.le_refl _, fun _ => ⟨rfl, by unfold lru; simp [rc]⟩⟩
  have m4 : rms.length ≤ 4 := by omega
  obtain ⟨z4, z7, z13, z14, z15, z16, z17, h9, p8, I9⟩ := turns_ok (ns := ns) (kc := kc) dj m4 hn hn2 tl (by rw [tts_len]; exact hk8) (tts_len n kc) (by omega) none x7 none none none none none none none none none none I0
  obtain ⟨σ', h10, p9⟩ := ends_ok (ns := ns) (kc := kc) dj m4 hn hn2 z4 z7 z13 z14 z15 z16 z17 none none none none none I9
  refine ⟨h10, run_ret rfl ?_⟩
  show m_law [some (.scr ns), none, none, none, none, none, none, none, none, none, none, none, none, none, none, none, none, none, none, none, none, none, none] [] = _
  unfold m_law
  rw [seqE p0, seqE p1, seqE p2, seqE p3, seqE p4, seqE p5, seqE p6, seqE p7, seqE p8, seqE p9]
  unfold m_law_10
  simp
end Y.k33

set_option maxHeartbeats 4000000
namespace Y.k33
open PySem PySem.Spec PyProof.Rows L2 Y

theorem caught_self {K : PySem.W.Frag} {S : Addr} (h1 : PySem.W.subIn K (.ref S) (.type "BaseException") = some true) (h2 : PySem.W.isClsIn K S = true) (h3 : PySem.W.typeIn K (.ref S) = some (.type "type")) (h4 : PySem.W.subIn K (.ref S) (.ref S) = some true) :
    PySem.W.exmOne K (.ref S) (.ref S) = some true := by
  have h2 : (PySem.W.clsIn K S).isSome = true := h2
  show (if (PySem.W.subIn K (.ref S) (.type "BaseException") == some true) = true then (if ((PySem.W.clsIn K S).isSome && PySem.W.typeIn K (.ref S) == some (.type "type")) = true then PySem.W.subIn K (.ref S) (.ref S) else none) else none) = some true
  rw [h1, h2, h3, h4]
  rfl
theorem lg_SIGNS : Lit "0123456789abcdef" [48, 49, 50, 51, 52, 53, 54, 55, 56, 57, 97, 98, 99, 100, 101, 102] := lit (by decide +kernel)
/-- law's: the script is handed in, True comes out -/
def spLaw (K : PySem.W.Frag) : Sp := fun vs H Q _ => ∃ (a : Addr) (ns : List Int), vs = [.ref a] ∧ SqL K H a (ns.map V.int) ∧ ns.length ≤ 63 ∧ ∀ H', Q (.bl true) H'
def tab (CStore : Addr) (CStoreError : Addr) : Tab := ⟨[CStore], ["word", "name", "texts", "quota", "used", "sizes", "clock", "last", "pins"], okF, [CStoreError]⟩
abbrev s_StoreError___init__ : Stmt := inClass (top 8) 0
theorem sc_StoreError___init__ : YE.SScope ["self", "word", "name"] ["self", "word", "name"] (defScope s_StoreError___init__) := ⟨rfl, rfl, rfl, by decide +kernel, rfl, by decide +kernel, by decide +kernel, by decide +kernel, rfl, rfl⟩
theorem ok_StoreError___init__ {P : Program} {w : World} {K : PySem.W.Frag} {mg : Str → Option Value} {base : Heap} {f C cda cc : Addr} {oc kV dc pm ct : Value} {od an : Option Addr} {sl : Array (Option Value)}
    (lk : K.lookup f = some ⟨oc, od, .func (PySem.W.ksFn "__init__" "StoreError.__init__" (defArgs s_StoreError___init__) (defBody s_StoreError___init__) (defScope s_StoreError___init__) .none kV dc pm an (.ref cda) ct cc), sl⟩) (hcd : PySem.W.codeIn K (.ref cda) "StoreError.__init__" = true) (F : YE.SupOk P K mg C cda cc)
    (hn : ∀ f ∈ (["word", "name"] : List Str), PySem.W.findIn K (.ref C) f = some none) : FnOk P w K mg base (L2.CX P w) 1 f (PySem.W.ksFn "__init__" "StoreError.__init__" (defArgs s_StoreError___init__) (defBody s_StoreError___init__) (defScope s_StoreError___init__) .none kV dc pm an (.ref cda) ct cc) ["self", "word", "name"] (YE.spI C ["word", "name"]) :=
  YE.fnS_of (k := 0) lk hcd sc_StoreError___init__ F rfl rfl (fun _ => ⟨_, rfl⟩) (fun vs H Q E h => by
      obtain ⟨a, us, e, hl, _⟩ := h
      rw [e, List.length_cons, hl]
      rfl) fun A outer s H vs Q E hr h => by
    obtain ⟨a, us, e, hl, ha, q⟩ := id h
    refine ⟨a, us, _, e, ha, YE.Stores.ps (r := YE.slots 1 ["word", "name"]) ?_, YE.osts_all F.T hn (by decide) (by decide) h⟩
    exact .cons rfl (.inl rfl) (by decide) (by decide) rfl (.inl rfl) (by decide) (by decide) rfl (.cons rfl (.inl rfl) (by decide) (by decide) rfl (.inl rfl) (by decide) (by decide) rfl (.nil))
theorem all_mk {l : PySem.W.OpenLaw} {w : World} {K : PySem.W.Frag} {h : Heap} {mg : Str → Option Value} {fa : Addr} (X : K.In h) (G : h.Ns mainGlobals mg) (hfa : mg "law" = some (.ref fa))
    {CStore : Addr}
    {f0 : Addr} {od0 an0 : Option Addr} {sl0 : Array (Option Value)} {oc0 kV0 dc0 pm0 cd0 ct0 : Value}
    {f1 : Addr} {od1 an1 : Option Addr} {sl1 : Array (Option Value)} {oc1 kV1 dc1 pm1 cd1 ct1 : Value}
    {f2 : Addr} {od2 an2 : Option Addr} {sl2 : Array (Option Value)} {oc2 kV2 dc2 pm2 cd2 ct2 : Value}
    {f3 : Addr} {od3 an3 : Option Addr} {sl3 : Array (Option Value)} {oc3 kV3 dc3 pm3 cd3 ct3 : Value}
    {f4 : Addr} {od4 an4 : Option Addr} {sl4 : Array (Option Value)} {oc4 kV4 dc4 pm4 cd4 ct4 : Value}
    {f5 : Addr} {od5 an5 : Option Addr} {sl5 : Array (Option Value)} {oc5 kV5 dc5 pm5 cd5 ct5 : Value}
    {f6 : Addr} {od6 an6 : Option Addr} {sl6 : Array (Option Value)} {oc6 kV6 dc6 pm6 cd6 ct6 : Value}
    {f7 : Addr} {od7 an7 : Option Addr} {sl7 : Array (Option Value)} {oc7 kV7 dc7 pm7 cd7 ct7 : Value}
    {f8 : Addr} {od8 an8 : Option Addr} {sl8 : Array (Option Value)} {oc8 kV8 dc8 pm8 cd8 ct8 : Value}
    {f9 : Addr} {od9 an9 : Option Addr} {sl9 : Array (Option Value)} {oc9 kV9 dc9 pm9 cd9 ct9 : Value}
    {f10 : Addr} {od10 an10 : Option Addr} {sl10 : Array (Option Value)} {oc10 kV10 dc10 pm10 cd10 ct10 : Value}
    {f11 : Addr} {od11 an11 : Option Addr} {sl11 : Array (Option Value)} {oc11 kV11 dc11 pm11 cd11 ct11 : Value}
    {f12 : Addr} {od12 an12 : Option Addr} {sl12 : Array (Option Value)} {oc12 kV12 dc12 pm12 cd12 ct12 : Value}
    {f13 : Addr} {od13 an13 : Option Addr} {sl13 : Array (Option Value)} {oc13 kV13 dc13 pm13 cd13 ct13 : Value}
    {f14 : Addr} {od14 an14 : Option Addr} {sl14 : Array (Option Value)} {oc14 kV14 dc14 pm14 cd14 ct14 : Value}
    {f15 : Addr} {od15 an15 : Option Addr} {sl15 : Array (Option Value)} {oc15 kV15 dc15 pm15 cd15 ct15 : Value}
    {f16 : Addr} {od16 an16 : Option Addr} {sl16 : Array (Option Value)} {oc16 kV16 dc16 pm16 cd16 ct16 : Value}
    {f17 : Addr} {od17 an17 : Option Addr} {sl17 : Array (Option Value)} {oc17 kV17 dc17 pm17 cd17 ct17 : Value}
    {f18 : Addr} {od18 an18 : Option Addr} {sl18 : Array (Option Value)} {oc18 kV18 dc18 pm18 cd18 ct18 : Value}
    {f19 : Addr} {od19 an19 : Option Addr} {sl19 : Array (Option Value)} {oc19 kV19 dc19 pm19 cd19 ct19 : Value}
    {f20 : Addr} {od20 an20 : Option Addr} {sl20 : Array (Option Value)} {oc20 kV20 dc20 pm20 cd20 ct20 : Value}
    {f21 : Addr} {od21 an21 : Option Addr} {sl21 : Array (Option Value)} {oc21 kV21 dc21 pm21 cd21 ct21 : Value}
    {tBASE : Tok}
    {tPRIME : Tok}
    {tSIGNS : Tok}
    {CWorldError : Addr}
    {CStoreError : Addr}
    {nmStoreError qStoreError : Str} {NStoreError fStoreError daStoreError ccStoreError : Addr} {bsStoreError subStoreError : List Value} {snStoreError : List Str} {abStoreError : Bool} {colStoreError : Option Bool} {ddStoreError odStoreError anStoreError cddStoreError cldStoreError : Option Addr} {h0StoreError h1StoreError h2StoreError h3StoreError h5StoreError : Option Value} {ocStoreError kVStoreError dcStoreError pmStoreError ctStoreError cclStoreError clStoreError : Value} {slStoreError ccsStoreError cslStoreError : Array (Option Value)} {vsStoreError : Array Value} {fileStoreError : Str} {tfStoreError : Tok}
    (aStore : PySem.W.nsIn K mainGlobals "Store" = some (some (.ref CStore)))
    (pgStore : PySem.W.plainGet K CStore Str.empty = true)
    (hdStore : PySem.W.hasDictIn K CStore = true)
    (poStore : PySem.W.plainOver K CStore = true)
    (saStore : PySem.W.findIn K (.ref CStore) "__setattr__" = some (some (.builtin "object.__setattr__")))
    (mkStore : PySem.W.makesIn K CStore = true)
    (kcStore : PySem.W.keepIn K (.ref CStore) = true)
    (nStore_texts : PySem.W.findIn K (.ref CStore) "texts" = some none)
    (nStore_quota : PySem.W.findIn K (.ref CStore) "quota" = some none)
    (nStore_used : PySem.W.findIn K (.ref CStore) "used" = some none)
    (nStore_sizes : PySem.W.findIn K (.ref CStore) "sizes" = some none)
    (nStore_clock : PySem.W.findIn K (.ref CStore) "clock" = some none)
    (nStore_last : PySem.W.findIn K (.ref CStore) "last" = some none)
    (nStore_pins : PySem.W.findIn K (.ref CStore) "pins" = some none)
    (a0 : PySem.W.nsIn K mainGlobals "number_of" = some (some (.ref f0)))
    (l0 : K.lookup f0 = some ⟨oc0, od0, .func (PySem.W.fnOf "number_of" "number_of" (defArgs s_number_of) (defBody s_number_of) (defScope s_number_of) .none kV0 dc0 pm0 an0 cd0 ct0), sl0⟩)
    (c0 : PySem.W.codeIn K cd0 "number_of" = true)
    (k0 : PySem.W.keepIn K (.ref f0) = true)
    (a1 : PySem.W.nsIn K mainGlobals "digest" = some (some (.ref f1)))
    (l1 : K.lookup f1 = some ⟨oc1, od1, .func (PySem.W.fnOf "digest" "digest" (defArgs s_digest) (defBody s_digest) (defScope s_digest) .none kV1 dc1 pm1 an1 cd1 ct1), sl1⟩)
    (c1 : PySem.W.codeIn K cd1 "digest" = true)
    (k1 : PySem.W.keepIn K (.ref f1) = true)
    (a2 : PySem.W.findIn K (.ref CStore) "__init__" = some (some (.ref f2)))
    (i2 : PySem.W.isFn K (.ref f2) = true)
    (l2 : K.lookup f2 = some ⟨oc2, od2, .func (PySem.W.fnOf "__init__" "Store.__init__" (defArgs s_Store___init__) (defBody s_Store___init__) (defScope s_Store___init__) .none kV2 dc2 pm2 an2 cd2 ct2), sl2⟩)
    (c2 : PySem.W.codeIn K cd2 "Store.__init__" = true)
    (k2 : PySem.W.keepIn K (.ref f2) = true)
    (a3 : PySem.W.findIn K (.ref CStore) "touch" = some (some (.ref f3)))
    (i3 : PySem.W.isFn K (.ref f3) = true)
    (l3 : K.lookup f3 = some ⟨oc3, od3, .func (PySem.W.fnOf "touch" "Store.touch" (defArgs s_Store_touch) (defBody s_Store_touch) (defScope s_Store_touch) .none kV3 dc3 pm3 an3 cd3 ct3), sl3⟩)
    (c3 : PySem.W.codeIn K cd3 "Store.touch" = true)
    (k3 : PySem.W.keepIn K (.ref f3) = true)
    (a4 : PySem.W.findIn K (.ref CStore) "has" = some (some (.ref f4)))
    (i4 : PySem.W.isFn K (.ref f4) = true)
    (l4 : K.lookup f4 = some ⟨oc4, od4, .func (PySem.W.fnOf "has" "Store.has" (defArgs s_Store_has) (defBody s_Store_has) (defScope s_Store_has) .none kV4 dc4 pm4 an4 cd4 ct4), sl4⟩)
    (c4 : PySem.W.codeIn K cd4 "Store.has" = true)
    (k4 : PySem.W.keepIn K (.ref f4) = true)
    (a5 : PySem.W.findIn K (.ref CStore) "drop" = some (some (.ref f5)))
    (i5 : PySem.W.isFn K (.ref f5) = true)
    (l5 : K.lookup f5 = some ⟨oc5, od5, .func (PySem.W.fnOf "drop" "Store.drop" (defArgs s_Store_drop) (defBody s_Store_drop) (defScope s_Store_drop) .none kV5 dc5 pm5 an5 cd5 ct5), sl5⟩)
    (c5 : PySem.W.codeIn K cd5 "Store.drop" = true)
    (k5 : PySem.W.keepIn K (.ref f5) = true)
    (a6 : PySem.W.findIn K (.ref CStore) "make_room" = some (some (.ref f6)))
    (i6 : PySem.W.isFn K (.ref f6) = true)
    (l6 : K.lookup f6 = some ⟨oc6, od6, .func (PySem.W.fnOf "make_room" "Store.make_room" (defArgs s_Store_make_room) (defBody s_Store_make_room) (defScope s_Store_make_room) .none kV6 dc6 pm6 an6 cd6 ct6), sl6⟩)
    (c6 : PySem.W.codeIn K cd6 "Store.make_room" = true)
    (k6 : PySem.W.keepIn K (.ref f6) = true)
    (a7 : PySem.W.findIn K (.ref CStore) "put" = some (some (.ref f7)))
    (i7 : PySem.W.isFn K (.ref f7) = true)
    (l7 : K.lookup f7 = some ⟨oc7, od7, .func (PySem.W.fnOf "put" "Store.put" (defArgs s_Store_put) (defBody s_Store_put) (defScope s_Store_put) .none kV7 dc7 pm7 an7 cd7 ct7), sl7⟩)
    (c7 : PySem.W.codeIn K cd7 "Store.put" = true)
    (k7 : PySem.W.keepIn K (.ref f7) = true)
    (a8 : PySem.W.findIn K (.ref CStore) "get" = some (some (.ref f8)))
    (i8 : PySem.W.isFn K (.ref f8) = true)
    (l8 : K.lookup f8 = some ⟨oc8, od8, .func (PySem.W.fnOf "get" "Store.get" (defArgs s_Store_get) (defBody s_Store_get) (defScope s_Store_get) .none kV8 dc8 pm8 an8 cd8 ct8), sl8⟩)
    (c8 : PySem.W.codeIn K cd8 "Store.get" = true)
    (k8 : PySem.W.keepIn K (.ref f8) = true)
    (a9 : PySem.W.findIn K (.ref CStore) "pin" = some (some (.ref f9)))
    (i9 : PySem.W.isFn K (.ref f9) = true)
    (l9 : K.lookup f9 = some ⟨oc9, od9, .func (PySem.W.fnOf "pin" "Store.pin" (defArgs s_Store_pin) (defBody s_Store_pin) (defScope s_Store_pin) .none kV9 dc9 pm9 an9 cd9 ct9), sl9⟩)
    (c9 : PySem.W.codeIn K cd9 "Store.pin" = true)
    (k9 : PySem.W.keepIn K (.ref f9) = true)
    (a10 : PySem.W.findIn K (.ref CStore) "unpin" = some (some (.ref f10)))
    (i10 : PySem.W.isFn K (.ref f10) = true)
    (l10 : K.lookup f10 = some ⟨oc10, od10, .func (PySem.W.fnOf "unpin" "Store.unpin" (defArgs s_Store_unpin) (defBody s_Store_unpin) (defScope s_Store_unpin) .none kV10 dc10 pm10 an10 cd10 ct10), sl10⟩)
    (c10 : PySem.W.codeIn K cd10 "Store.unpin" = true)
    (k10 : PySem.W.keepIn K (.ref f10) = true)
    (a11 : PySem.W.findIn K (.ref CStore) "collect" = some (some (.ref f11)))
    (i11 : PySem.W.isFn K (.ref f11) = true)
    (l11 : K.lookup f11 = some ⟨oc11, od11, .func (PySem.W.fnOf "collect" "Store.collect" (defArgs s_Store_collect) (defBody s_Store_collect) (defScope s_Store_collect) .none kV11 dc11 pm11 an11 cd11 ct11), sl11⟩)
    (c11 : PySem.W.codeIn K cd11 "Store.collect" = true)
    (k11 : PySem.W.keepIn K (.ref f11) = true)
    (a12 : PySem.W.findIn K (.ref CStore) "spoilt" = some (some (.ref f12)))
    (i12 : PySem.W.isFn K (.ref f12) = true)
    (l12 : K.lookup f12 = some ⟨oc12, od12, .func (PySem.W.fnOf "spoilt" "Store.spoilt" (defArgs s_Store_spoilt) (defBody s_Store_spoilt) (defScope s_Store_spoilt) .none kV12 dc12 pm12 an12 cd12 ct12), sl12⟩)
    (c12 : PySem.W.codeIn K cd12 "Store.spoilt" = true)
    (k12 : PySem.W.keepIn K (.ref f12) = true)
    (a13 : PySem.W.nsIn K mainGlobals "_law_tape" = some (some (.ref f13)))
    (l13 : K.lookup f13 = some ⟨oc13, od13, .func (PySem.W.fnOf "_law_tape" "_law_tape" (defArgs s__law_tape) (defBody s__law_tape) (defScope s__law_tape) .none kV13 dc13 pm13 an13 cd13 ct13), sl13⟩)
    (c13 : PySem.W.codeIn K cd13 "_law_tape" = true)
    (k13 : PySem.W.keepIn K (.ref f13) = true)
    (a14 : PySem.W.nsIn K mainGlobals "_law_take" = some (some (.ref f14)))
    (l14 : K.lookup f14 = some ⟨oc14, od14, .func (PySem.W.fnOf "_law_take" "_law_take" (defArgs s__law_take) (defBody s__law_take) (defScope s__law_take) .none kV14 dc14 pm14 an14 cd14 ct14), sl14⟩)
    (c14 : PySem.W.codeIn K cd14 "_law_take" = true)
    (k14 : PySem.W.keepIn K (.ref f14) = true)
    (a15 : PySem.W.nsIn K mainGlobals "_law_digest" = some (some (.ref f15)))
    (l15 : K.lookup f15 = some ⟨oc15, od15, .func (PySem.W.fnOf "_law_digest" "_law_digest" (defArgs s__law_digest) (defBody s__law_digest) (defScope s__law_digest) .none kV15 dc15 pm15 an15 cd15 ct15), sl15⟩)
    (c15 : PySem.W.codeIn K cd15 "_law_digest" = true)
    (k15 : PySem.W.keepIn K (.ref f15) = true)
    (a16 : PySem.W.nsIn K mainGlobals "_law_name" = some (some (.ref f16)))
    (l16 : K.lookup f16 = some ⟨oc16, od16, .func (PySem.W.fnOf "_law_name" "_law_name" (defArgs s__law_name) (defBody s__law_name) (defScope s__law_name) .none kV16 dc16 pm16 an16 cd16 ct16), sl16⟩)
    (c16 : PySem.W.codeIn K cd16 "_law_name" = true)
    (k16 : PySem.W.keepIn K (.ref f16) = true)
    (a17 : PySem.W.nsIn K mainGlobals "_law_put" = some (some (.ref f17)))
    (l17 : K.lookup f17 = some ⟨oc17, od17, .func (PySem.W.fnOf "_law_put" "_law_put" (defArgs s__law_put) (defBody s__law_put) (defScope s__law_put) .none kV17 dc17 pm17 an17 cd17 ct17), sl17⟩)
    (c17 : PySem.W.codeIn K cd17 "_law_put" = true)
    (k17 : PySem.W.keepIn K (.ref f17) = true)
    (a18 : PySem.W.nsIn K mainGlobals "_law_get" = some (some (.ref f18)))
    (l18 : K.lookup f18 = some ⟨oc18, od18, .func (PySem.W.fnOf "_law_get" "_law_get" (defArgs s__law_get) (defBody s__law_get) (defScope s__law_get) .none kV18 dc18 pm18 an18 cd18 ct18), sl18⟩)
    (c18 : PySem.W.codeIn K cd18 "_law_get" = true)
    (k18 : PySem.W.keepIn K (.ref f18) = true)
    (a19 : PySem.W.nsIn K mainGlobals "_law_right" = some (some (.ref f19)))
    (l19 : K.lookup f19 = some ⟨oc19, od19, .func (PySem.W.fnOf "_law_right" "_law_right" (defArgs s__law_right) (defBody s__law_right) (defScope s__law_right) .none kV19 dc19 pm19 an19 cd19 ct19), sl19⟩)
    (c19 : PySem.W.codeIn K cd19 "_law_right" = true)
    (k19 : PySem.W.keepIn K (.ref f19) = true)
    (a20 : PySem.W.nsIn K mainGlobals "_law_pinned" = some (some (.ref f20)))
    (l20 : K.lookup f20 = some ⟨oc20, od20, .func (PySem.W.fnOf "_law_pinned" "_law_pinned" (defArgs s__law_pinned) (defBody s__law_pinned) (defScope s__law_pinned) .none kV20 dc20 pm20 an20 cd20 ct20), sl20⟩)
    (c20 : PySem.W.codeIn K cd20 "_law_pinned" = true)
    (k20 : PySem.W.keepIn K (.ref f20) = true)
    (a21 : PySem.W.nsIn K mainGlobals "law" = some (some (.ref f21)))
    (l21 : K.lookup f21 = some ⟨oc21, od21, .func (PySem.W.fnOf "law" "law" (defArgs s_law) (defBody s_law) (defScope s_law) .none kV21 dc21 pm21 an21 cd21 ct21), sl21⟩)
    (c21 : PySem.W.codeIn K cd21 "law" = true)
    (k21 : PySem.W.keepIn K (.ref f21) = true)
    (gBASE : PySem.W.nsIn K mainGlobals "BASE" = some (some (.int 2000003 tBASE)))
    (gPRIME : PySem.W.nsIn K mainGlobals "PRIME" = some (some (.int 2305843009213693951 tPRIME)))
    (gSIGNS : PySem.W.nsIn K mainGlobals "SIGNS" = some (some (.str "0123456789abcdef" tSIGNS)))
    (z_abs : PySem.W.nsIn K mainGlobals "abs" = some none)
    (z_all : PySem.W.nsIn K mainGlobals "all" = some none)
    (z_int : PySem.W.nsIn K mainGlobals "int" = some none)
    (z_len : PySem.W.nsIn K mainGlobals "len" = some none)
    (z_ord : PySem.W.nsIn K mainGlobals "ord" = some none)
    (z_range : PySem.W.nsIn K mainGlobals "range" = some none)
    (z_set : PySem.W.nsIn K mainGlobals "set" = some none)
    (z_sorted : PySem.W.nsIn K mainGlobals "sorted" = some none)
    (z_str : PySem.W.nsIn K mainGlobals "str" = some none)
    (z_tuple : PySem.W.nsIn K mainGlobals "tuple" = some none)
    (aWorldError : PySem.W.nsIn K mainGlobals "WorldError" = some (some (.ref CWorldError)))
    (opq : PySem.W.nsIn K PySem.cStatics "thirdparty.any" = some none)
    (zsup : PySem.W.nsIn K mainGlobals "super" = some none)
    (aStoreError : PySem.W.nsIn K mainGlobals "StoreError" = some (some (.ref CStoreError)))
    (xLStoreError : K.lookup CStoreError = some (excClassObj nmStoreError qStoreError CStoreError NStoreError bsStoreError [.ref CWorldError, .type "ValueError", .type "Exception", .type "BaseException", .type "object"] true snStoreError subStoreError abStoreError colStoreError ddStoreError h0StoreError h1StoreError h2StoreError h3StoreError h5StoreError "ValueError.__new__"))
    (saStoreError : PySem.W.findIn K (.ref CStoreError) "__setattr__" = some (some (.builtin "object.__setattr__")))
    (inStoreError : PySem.W.findIn K (.ref CStoreError) "__init__" = some (some (.ref fStoreError)))
    (tiStoreError : PySem.W.typeIn K (.ref fStoreError) = some (.type "function"))
    (lStoreError : K.lookup fStoreError = some ⟨ocStoreError, odStoreError, .func (PySem.W.ksFn "__init__" "StoreError.__init__" (defArgs s_StoreError___init__) (defBody s_StoreError___init__) (defScope s_StoreError___init__) .none kVStoreError dcStoreError pmStoreError anStoreError (.ref daStoreError) ctStoreError ccStoreError), slStoreError⟩)
    (cdStoreError : PySem.W.codeIn K (.ref daStoreError) "StoreError.__init__" = true)
    (coStoreError : K.lookup daStoreError = some ⟨cclStoreError, cddStoreError, .fields vsStoreError, ccsStoreError⟩)
    (fiStoreError : vsStoreError[2]? = some (.str fileStoreError tfStoreError))
    (feStoreError : ((l.prog.main.file : Str) == fileStoreError) = true)
    (ceStoreError : K.lookup ccStoreError = some ⟨clStoreError, cldStoreError, .cell (some (.ref CStoreError)), cslStoreError⟩)
    (mrStoreError : PySem.W.mroIn K CStoreError (.ref CStoreError) = some true)
    (suStoreError : PySem.W.ks_superIn K CStoreError CStoreError "__init__" = some (some (.builtin "ValueError.__init__")))
    (veStoreError : PySem.W.subIn K (.ref CStoreError) (.type "ValueError") = some true)
    (tpStoreError : (l.prog.main.scope.names.lookup ("super" : Str)).isSome = false)
    (nStoreError_word : PySem.W.findIn K (.ref CStoreError) "word" = some none)
    (nStoreError_name : PySem.W.findIn K (.ref CStoreError) "name" = some none)
    (gaStoreError : PySem.W.findIn K (.ref CStoreError) "__getattribute__" = some (some (.builtin "BaseException.__getattribute__")))
    (ggStoreError : PySem.W.findIn K (.ref CStoreError) "__getattr__" = some none)
    (hdStoreError : PySem.W.hasDictIn K CStoreError = true)
    (kStoreError : PySem.W.keepIn K (.ref CStoreError) = true)
    (bStoreError : PySem.W.subIn K (.ref CStoreError) (.type "BaseException") = some true)
    (tStoreError : PySem.W.typeIn K (.ref CStoreError) = some (.type "type"))
    (iStoreError : PySem.W.isClsIn K CStoreError = true)
    (sStoreError : PySem.W.subIn K (.ref CStoreError) (.ref CStoreError) = some true)
    : ∃ fd : FuncData, (∀ (s : Shared) (v : Value), BindsTo s fd ⟨[v], []⟩ [("script", v)]) ∧ ∀ base : Heap, K.In base → base.Ns mainGlobals mg → FnOk l.prog w K mg base (L2.CX l.prog w) 6 fa fd ["script"] (spLaw K) := by
  have e := hfa.symm.trans (PySem.W.mg_of X G a21)
  cases e
  have tok : Tab.Ok (tab CStore CStoreError) K := by
    refine ⟨fun c C e => ?_, (by decide : (["word", "name", "texts", "quota", "used", "sizes", "clock", "last", "pins"] : List Str).Nodup), fun c C f x e1 e2 e3 => ?_⟩
    · rcases c with _ | c
      · cases e
        exact ⟨pgStore, hdStore, poStore, saStore⟩
      · simp [tab] at e
    · rcases c with _ | c
      · cases e1
        have e2 : ([2, 3, 4, 5, 6, 7, 8] : List Nat).contains f = true := e2
        simp at e2
        rcases e2 with rfl | rfl | rfl | rfl | rfl | rfl | rfl
        · cases e3
          exact nStore_texts
        · cases e3
          exact nStore_quota
        · cases e3
          exact nStore_used
        · cases e3
          exact nStore_sizes
        · cases e3
          exact nStore_clock
        · cases e3
          exact nStore_last
        · cases e3
          exact nStore_pins
      · simp [tab] at e1
  have T : Txt K mg (tab CStore CStoreError) CStoreError := ⟨tok, rfl, rfl, rfl, rfl, rfl, rfl, rfl, rfl, rfl, rfl, ⟨_, .int _, PySem.W.mg_of X G gBASE, ⟨_, rfl⟩, fun _ _ _ => .int _⟩, ⟨_, .int _, PySem.W.mg_of X G gPRIME, ⟨_, rfl⟩, fun _ _ _ => .int _⟩, ⟨_, .str _, PySem.W.mg_of X G gSIGNS, ⟨_, rfl⟩, fun _ _ _ => .str ⟨lg_SIGNS.eq, lg_SIGNS.len, lg_SIGNS.ok⟩⟩, PySem.W.mg_none_of X G z_abs, PySem.W.mg_none_of X G z_all, PySem.W.mg_none_of X G z_int, PySem.W.mg_none_of X G z_len, PySem.W.mg_none_of X G z_ord, PySem.W.mg_none_of X G z_range, PySem.W.mg_none_of X G z_set, PySem.W.mg_none_of X G z_sorted, PySem.W.mg_none_of X G z_str, PySem.W.mg_none_of X G z_tuple, PySem.W.mg_of X G aStoreError, (fun n C b eC eb => by
      unfold cs_StoreError at eb
      split at eb
      · rename_i en
        subst en
        cases eb
        cases eC
        exact caught_self bStoreError iStoreError tStoreError sStoreError
      · cases eb), ⟨CStoreError, rfl, ⟨gaStoreError, ggStoreError, bStoreError, hdStoreError⟩, fun f x hf e => by
      simp at hf
      rcases hf with rfl | rfl
      · cases e; exact nStoreError_word
      · cases e; exact nStoreError_name⟩⟩
  have F0 := fun_mk (st := s_number_of) l0 c0 k0
  have F1 := fun_mk (st := s_digest) l1 c1 k1
  have F2 := fun_mk (st := s_Store___init__) l2 c2 k2
  have F3 := fun_mk (st := s_Store_touch) l3 c3 k3
  have F4 := fun_mk (st := s_Store_has) l4 c4 k4
  have F5 := fun_mk (st := s_Store_drop) l5 c5 k5
  have F6 := fun_mk (st := s_Store_make_room) l6 c6 k6
  have F7 := fun_mk (st := s_Store_put) l7 c7 k7
  have F8 := fun_mk (st := s_Store_get) l8 c8 k8
  have F9 := fun_mk (st := s_Store_pin) l9 c9 k9
  have F10 := fun_mk (st := s_Store_unpin) l10 c10 k10
  have F11 := fun_mk (st := s_Store_collect) l11 c11 k11
  have F12 := fun_mk (st := s_Store_spoilt) l12 c12 k12
  have F13 := fun_mk (st := s__law_tape) l13 c13 k13
  have F14 := fun_mk (st := s__law_take) l14 c14 k14
  have F15 := fun_mk (st := s__law_digest) l15 c15 k15
  have F16 := fun_mk (st := s__law_name) l16 c16 k16
  have F17 := fun_mk (st := s__law_put) l17 c17 k17
  have F18 := fun_mk (st := s__law_get) l18 c18 k18
  have F19 := fun_mk (st := s__law_right) l19 c19 k19
  have F20 := fun_mk (st := s__law_pinned) l20 c20 k20
  have F21 := fun_mk (st := s_law) l21 c21 k21
  have TStoreError : OexC K CStoreError := ⟨⟨_, _, _, _, _, _, _, _, _, _, _, _, _, _, _, xLStoreError, by rfl⟩, saStoreError, bStoreError, tStoreError, kStoreError⟩
  have SStoreError : YE.SupOk l.prog K mg CStoreError daStoreError ccStoreError := ⟨TStoreError, ⟨_, _, _, _, _, _, coStoreError, fiStoreError, feStoreError⟩, ⟨_, _, _, ceStoreError⟩, mrStoreError, opq, suStoreError, veStoreError, PySem.W.mg_none_of X G zsup, tpStoreError⟩
  have E_StoreError : ∀ base, EIok l.prog w K mg base (tab CStore CStoreError) "StoreError" 0 [0, 1] := fun base => ⟨CStoreError, fStoreError, _, _, ["word", "name"], rfl, rfl, by decide, ok_StoreError___init__ lStoreError cdStoreError SStoreError (fun f hf => by
      simp only [List.mem_cons, List.not_mem_nil, or_false] at hf
      rcases hf with rfl | rfl
      · exact nStoreError_word
      · exact nStoreError_name), .all fun us hl => (match us, hl with | [_, _, _], _ => rfl), TStoreError, inStoreError, tiStoreError, PySem.W.mg_of X G aStoreError⟩
  refine ⟨PySem.W.fnOf "law" "law" (defArgs s_law) (defBody s_law) (defScope s_law) .none kV21 dc21 pm21 an21 cd21 ct21, fun s v => .of_eq rfl, fun base _ _ => ?_⟩
  have C_number_of : Cal l.prog w K mg base (tab CStore CStoreError) 1 "number_of" F_number_of := ⟨_, _, _, ok_number_of F0 T, PySem.W.mg_of X G a0, k0, F0.binds (ps := ["text"]) fun _ _ _ _ _ _ us hl => match us, hl with | [_], _ => rfl⟩
  have C_digest : Cal l.prog w K mg base (tab CStore CStoreError) 2 "digest" F_digest := ⟨_, _, _, ok_digest F1 T C_number_of, PySem.W.mg_of X G a1, k1, F1.binds (ps := ["text"]) fun _ _ _ _ _ _ us hl => match us, hl with | [_], _ => rfl⟩
  have K_Store : KCal l.prog w K mg base (tab CStore CStoreError) 1 "Store" 0 F_Store___init__ := ⟨CStore, f2, _, _, rfl, ⟨mkStore, a2, i2, kcStore⟩, ok_Store___init__ F2 T, PySem.W.mg_of X G aStore, F2.binds (ps := ["self", "quota"]) fun _ _ _ _ _ _ us hl => match us, hl with | [_, _], _ => rfl⟩
  have C_Store_touch : MCal l.prog w K mg base (tab CStore CStoreError) 1 0 "touch" F_Store_touch := ⟨⟨CStore, f3, _, _, rfl, ⟨a3, i3, k3⟩, ok_Store_touch F3 T, F3.binds (ps := ["self", "name"]) fun _ _ _ _ _ _ us hl => match us, hl with | [_, _], _ => rfl⟩, fun f e1 e2 => by
      have e1 : ([2, 3, 4, 5, 6, 7, 8] : List Nat).contains f = true := e1
      simp at e1
      rcases e1 with rfl | rfl | rfl | rfl | rfl | rfl | rfl
      · exact absurd (show (some ("texts" : Str)) = some ("touch" : Str) from e2) (by decide)
      · exact absurd (show (some ("quota" : Str)) = some ("touch" : Str) from e2) (by decide)
      · exact absurd (show (some ("used" : Str)) = some ("touch" : Str) from e2) (by decide)
      · exact absurd (show (some ("sizes" : Str)) = some ("touch" : Str) from e2) (by decide)
      · exact absurd (show (some ("clock" : Str)) = some ("touch" : Str) from e2) (by decide)
      · exact absurd (show (some ("last" : Str)) = some ("touch" : Str) from e2) (by decide)
      · exact absurd (show (some ("pins" : Str)) = some ("touch" : Str) from e2) (by decide)⟩
  have C_Store_has : MCal l.prog w K mg base (tab CStore CStoreError) 3 0 "has" F_Store_has := ⟨⟨CStore, f4, _, _, rfl, ⟨a4, i4, k4⟩, ok_Store_has F4 T C_digest, F4.binds (ps := ["self", "name"]) fun _ _ _ _ _ _ us hl => match us, hl with | [_, _], _ => rfl⟩, fun f e1 e2 => by
      have e1 : ([2, 3, 4, 5, 6, 7, 8] : List Nat).contains f = true := e1
      simp at e1
      rcases e1 with rfl | rfl | rfl | rfl | rfl | rfl | rfl
      · exact absurd (show (some ("texts" : Str)) = some ("has" : Str) from e2) (by decide)
      · exact absurd (show (some ("quota" : Str)) = some ("has" : Str) from e2) (by decide)
      · exact absurd (show (some ("used" : Str)) = some ("has" : Str) from e2) (by decide)
      · exact absurd (show (some ("sizes" : Str)) = some ("has" : Str) from e2) (by decide)
      · exact absurd (show (some ("clock" : Str)) = some ("has" : Str) from e2) (by decide)
      · exact absurd (show (some ("last" : Str)) = some ("has" : Str) from e2) (by decide)
      · exact absurd (show (some ("pins" : Str)) = some ("has" : Str) from e2) (by decide)⟩
  have C_Store_drop : MCal l.prog w K mg base (tab CStore CStoreError) 1 0 "drop" F_Store_drop := ⟨⟨CStore, f5, _, _, rfl, ⟨a5, i5, k5⟩, ok_Store_drop F5 T, F5.binds (ps := ["self", "name"]) fun _ _ _ _ _ _ us hl => match us, hl with | [_, _], _ => rfl⟩, fun f e1 e2 => by
      have e1 : ([2, 3, 4, 5, 6, 7, 8] : List Nat).contains f = true := e1
      simp at e1
      rcases e1 with rfl | rfl | rfl | rfl | rfl | rfl | rfl
      · exact absurd (show (some ("texts" : Str)) = some ("drop" : Str) from e2) (by decide)
      · exact absurd (show (some ("quota" : Str)) = some ("drop" : Str) from e2) (by decide)
      · exact absurd (show (some ("used" : Str)) = some ("drop" : Str) from e2) (by decide)
      · exact absurd (show (some ("sizes" : Str)) = some ("drop" : Str) from e2) (by decide)
      · exact absurd (show (some ("clock" : Str)) = some ("drop" : Str) from e2) (by decide)
      · exact absurd (show (some ("last" : Str)) = some ("drop" : Str) from e2) (by decide)
      · exact absurd (show (some ("pins" : Str)) = some ("drop" : Str) from e2) (by decide)⟩
  have C_Store_make_room : MCal l.prog w K mg base (tab CStore CStoreError) 3 0 "make_room" F_Store_make_room := ⟨⟨CStore, f6, _, _, rfl, ⟨a6, i6, k6⟩, ok_Store_make_room F6 T C_Store_drop (E_StoreError base), F6.binds (ps := ["self", "size"]) fun _ _ _ _ _ _ us hl => match us, hl with | [_, _], _ => rfl⟩, fun f e1 e2 => by
      have e1 : ([2, 3, 4, 5, 6, 7, 8] : List Nat).contains f = true := e1
      simp at e1
      rcases e1 with rfl | rfl | rfl | rfl | rfl | rfl | rfl
      · exact absurd (show (some ("texts" : Str)) = some ("make_room" : Str) from e2) (by decide)
      · exact absurd (show (some ("quota" : Str)) = some ("make_room" : Str) from e2) (by decide)
      · exact absurd (show (some ("used" : Str)) = some ("make_room" : Str) from e2) (by decide)
      · exact absurd (show (some ("sizes" : Str)) = some ("make_room" : Str) from e2) (by decide)
      · exact absurd (show (some ("clock" : Str)) = some ("make_room" : Str) from e2) (by decide)
      · exact absurd (show (some ("last" : Str)) = some ("make_room" : Str) from e2) (by decide)
      · exact absurd (show (some ("pins" : Str)) = some ("make_room" : Str) from e2) (by decide)⟩
  have C_Store_put : MCal l.prog w K mg base (tab CStore CStoreError) 4 0 "put" F_Store_put := ⟨⟨CStore, f7, _, _, rfl, ⟨a7, i7, k7⟩, ok_Store_put F7 T C_Store_drop C_Store_has C_Store_make_room C_Store_touch C_digest, F7.binds (ps := ["self", "text"]) fun _ _ _ _ _ _ us hl => match us, hl with | [_, _], _ => rfl⟩, fun f e1 e2 => by
      have e1 : ([2, 3, 4, 5, 6, 7, 8] : List Nat).contains f = true := e1
      simp at e1
      rcases e1 with rfl | rfl | rfl | rfl | rfl | rfl | rfl
      · exact absurd (show (some ("texts" : Str)) = some ("put" : Str) from e2) (by decide)
      · exact absurd (show (some ("quota" : Str)) = some ("put" : Str) from e2) (by decide)
      · exact absurd (show (some ("used" : Str)) = some ("put" : Str) from e2) (by decide)
      · exact absurd (show (some ("sizes" : Str)) = some ("put" : Str) from e2) (by decide)
      · exact absurd (show (some ("clock" : Str)) = some ("put" : Str) from e2) (by decide)
      · exact absurd (show (some ("last" : Str)) = some ("put" : Str) from e2) (by decide)
      · exact absurd (show (some ("pins" : Str)) = some ("put" : Str) from e2) (by decide)⟩
  have C_Store_get : MCal l.prog w K mg base (tab CStore CStoreError) 3 0 "get" F_Store_get := ⟨⟨CStore, f8, _, _, rfl, ⟨a8, i8, k8⟩, ok_Store_get F8 T C_Store_touch C_digest (E_StoreError base), F8.binds (ps := ["self", "name"]) fun _ _ _ _ _ _ us hl => match us, hl with | [_, _], _ => rfl⟩, fun f e1 e2 => by
      have e1 : ([2, 3, 4, 5, 6, 7, 8] : List Nat).contains f = true := e1
      simp at e1
      rcases e1 with rfl | rfl | rfl | rfl | rfl | rfl | rfl
      · exact absurd (show (some ("texts" : Str)) = some ("get" : Str) from e2) (by decide)
      · exact absurd (show (some ("quota" : Str)) = some ("get" : Str) from e2) (by decide)
      · exact absurd (show (some ("used" : Str)) = some ("get" : Str) from e2) (by decide)
      · exact absurd (show (some ("sizes" : Str)) = some ("get" : Str) from e2) (by decide)
      · exact absurd (show (some ("clock" : Str)) = some ("get" : Str) from e2) (by decide)
      · exact absurd (show (some ("last" : Str)) = some ("get" : Str) from e2) (by decide)
      · exact absurd (show (some ("pins" : Str)) = some ("get" : Str) from e2) (by decide)⟩
  have C_Store_pin : MCal l.prog w K mg base (tab CStore CStoreError) 1 0 "pin" F_Store_pin := ⟨⟨CStore, f9, _, _, rfl, ⟨a9, i9, k9⟩, ok_Store_pin F9 T, F9.binds (ps := ["self", "names"]) fun _ _ _ _ _ _ us hl => match us, hl with | [_, _], _ => rfl⟩, fun f e1 e2 => by
      have e1 : ([2, 3, 4, 5, 6, 7, 8] : List Nat).contains f = true := e1
      simp at e1
      rcases e1 with rfl | rfl | rfl | rfl | rfl | rfl | rfl
      · exact absurd (show (some ("texts" : Str)) = some ("pin" : Str) from e2) (by decide)
      · exact absurd (show (some ("quota" : Str)) = some ("pin" : Str) from e2) (by decide)
      · exact absurd (show (some ("used" : Str)) = some ("pin" : Str) from e2) (by decide)
      · exact absurd (show (some ("sizes" : Str)) = some ("pin" : Str) from e2) (by decide)
      · exact absurd (show (some ("clock" : Str)) = some ("pin" : Str) from e2) (by decide)
      · exact absurd (show (some ("last" : Str)) = some ("pin" : Str) from e2) (by decide)
      · exact absurd (show (some ("pins" : Str)) = some ("pin" : Str) from e2) (by decide)⟩
  have C_Store_unpin : MCal l.prog w K mg base (tab CStore CStoreError) 1 0 "unpin" F_Store_unpin := ⟨⟨CStore, f10, _, _, rfl, ⟨a10, i10, k10⟩, ok_Store_unpin F10 T, F10.binds (ps := ["self", "names"]) fun _ _ _ _ _ _ us hl => match us, hl with | [_, _], _ => rfl⟩, fun f e1 e2 => by
      have e1 : ([2, 3, 4, 5, 6, 7, 8] : List Nat).contains f = true := e1
      simp at e1
      rcases e1 with rfl | rfl | rfl | rfl | rfl | rfl | rfl
      · exact absurd (show (some ("texts" : Str)) = some ("unpin" : Str) from e2) (by decide)
      · exact absurd (show (some ("quota" : Str)) = some ("unpin" : Str) from e2) (by decide)
      · exact absurd (show (some ("used" : Str)) = some ("unpin" : Str) from e2) (by decide)
      · exact absurd (show (some ("sizes" : Str)) = some ("unpin" : Str) from e2) (by decide)
      · exact absurd (show (some ("clock" : Str)) = some ("unpin" : Str) from e2) (by decide)
      · exact absurd (show (some ("last" : Str)) = some ("unpin" : Str) from e2) (by decide)
      · exact absurd (show (some ("pins" : Str)) = some ("unpin" : Str) from e2) (by decide)⟩
  have C_Store_collect : MCal l.prog w K mg base (tab CStore CStoreError) 2 0 "collect" F_Store_collect := ⟨⟨CStore, f11, _, _, rfl, ⟨a11, i11, k11⟩, ok_Store_collect F11 T C_Store_drop, F11.binds (ps := ["self", "manifests"]) fun _ _ _ _ _ _ us hl => match us, hl with | [_, _], _ => rfl⟩, fun f e1 e2 => by
      have e1 : ([2, 3, 4, 5, 6, 7, 8] : List Nat).contains f = true := e1
      simp at e1
      rcases e1 with rfl | rfl | rfl | rfl | rfl | rfl | rfl
      · exact absurd (show (some ("texts" : Str)) = some ("collect" : Str) from e2) (by decide)
      · exact absurd (show (some ("quota" : Str)) = some ("collect" : Str) from e2) (by decide)
      · exact absurd (show (some ("used" : Str)) = some ("collect" : Str) from e2) (by decide)
      · exact absurd (show (some ("sizes" : Str)) = some ("collect" : Str) from e2) (by decide)
      · exact absurd (show (some ("clock" : Str)) = some ("collect" : Str) from e2) (by decide)
      · exact absurd (show (some ("last" : Str)) = some ("collect" : Str) from e2) (by decide)
      · exact absurd (show (some ("pins" : Str)) = some ("collect" : Str) from e2) (by decide)⟩
  have C_Store_spoilt : MCal l.prog w K mg base (tab CStore CStoreError) 3 0 "spoilt" F_Store_spoilt := ⟨⟨CStore, f12, _, _, rfl, ⟨a12, i12, k12⟩, ok_Store_spoilt F12 T C_digest, F12.binds (ps := ["self"]) fun _ _ _ _ _ _ us hl => match us, hl with | [_], _ => rfl⟩, fun f e1 e2 => by
      have e1 : ([2, 3, 4, 5, 6, 7, 8] : List Nat).contains f = true := e1
      simp at e1
      rcases e1 with rfl | rfl | rfl | rfl | rfl | rfl | rfl
      · exact absurd (show (some ("texts" : Str)) = some ("spoilt" : Str) from e2) (by decide)
      · exact absurd (show (some ("quota" : Str)) = some ("spoilt" : Str) from e2) (by decide)
      · exact absurd (show (some ("used" : Str)) = some ("spoilt" : Str) from e2) (by decide)
      · exact absurd (show (some ("sizes" : Str)) = some ("spoilt" : Str) from e2) (by decide)
      · exact absurd (show (some ("clock" : Str)) = some ("spoilt" : Str) from e2) (by decide)
      · exact absurd (show (some ("last" : Str)) = some ("spoilt" : Str) from e2) (by decide)
      · exact absurd (show (some ("pins" : Str)) = some ("spoilt" : Str) from e2) (by decide)⟩
  have C__law_tape : Cal l.prog w K mg base (tab CStore CStoreError) 1 "_law_tape" F__law_tape := ⟨_, _, _, ok__law_tape F13 T, PySem.W.mg_of X G a13, k13, F13.binds (ps := ["script"]) fun _ _ _ _ _ _ us hl => match us, hl with | [_], _ => rfl⟩
  have C__law_take : Cal l.prog w K mg base (tab CStore CStoreError) 1 "_law_take" F__law_take := ⟨_, _, _, ok__law_take F14 T, PySem.W.mg_of X G a14, k14, F14.binds (ps := ["tape", "many"]) fun _ _ _ _ _ _ us hl => match us, hl with | [_, _], _ => rfl⟩
  have C__law_digest : Cal l.prog w K mg base (tab CStore CStoreError) 1 "_law_digest" F__law_digest := ⟨_, _, _, ok__law_digest F15 T, PySem.W.mg_of X G a15, k15, F15.binds (ps := ["text"]) fun _ _ _ _ _ _ us hl => match us, hl with | [_], _ => rfl⟩
  have C__law_name : Cal l.prog w K mg base (tab CStore CStoreError) 2 "_law_name" F__law_name := ⟨_, _, _, ok__law_name F16 T C__law_digest, PySem.W.mg_of X G a16, k16, F16.binds (ps := ["met", "text"]) fun _ _ _ _ _ _ us hl => match us, hl with | [_, _], _ => rfl⟩
  have C__law_put : Cal l.prog w K mg base (tab CStore CStoreError) 5 "_law_put" F__law_put := ⟨_, _, _, ok__law_put F17 T C_Store_put C__law_digest, PySem.W.mg_of X G a17, k17, F17.binds (ps := ["store", "text", "model", "room"]) fun _ _ _ _ _ _ us hl => match us, hl with | [_, _, _, _], _ => rfl⟩
  have C__law_get : Cal l.prog w K mg base (tab CStore CStoreError) 4 "_law_get" F__law_get := ⟨_, _, _, ok__law_get F18 T C_Store_get C__law_digest, PySem.W.mg_of X G a18, k18, F18.binds (ps := ["store", "text", "model"]) fun _ _ _ _ _ _ us hl => match us, hl with | [_, _, _], _ => rfl⟩
  have C__law_right : Cal l.prog w K mg base (tab CStore CStoreError) 4 "_law_right" F__law_right := ⟨_, _, _, ok__law_right F19 T C_Store_has C_Store_spoilt C__law_digest, PySem.W.mg_of X G a19, k19, F19.binds (ps := ["store", "model", "texts", "size"]) fun _ _ _ _ _ _ us hl => match us, hl with | [_, _, _, _], _ => rfl⟩
  have C__law_pinned : Cal l.prog w K mg base (tab CStore CStoreError) 2 "_law_pinned" F__law_pinned := ⟨_, _, _, ok__law_pinned F20 T C_Store_pin C_Store_unpin C__law_digest C__law_take, PySem.W.mg_of X G a20, k20, F20.binds (ps := ["tape", "store", "model", "text"]) fun _ _ _ _ _ _ us hl => match us, hl with | [_, _, _, _], _ => rfl⟩
  exact (ok_law F21 T C_Store_collect C__law_digest C__law_get C__law_name C__law_pinned C__law_put C__law_right C__law_take C__law_tape K_Store).imp fun vs H Q E hs => by
    obtain ⟨a, ns, rfl, hS, hl, q⟩ := hs
    obtain ⟨hh, e⟩ := law_true ns hl
    refine ⟨[], [], [], [.scr ns], ⟨rfl, fun n m a e => by simp at e, fun a ha => (by simp at ha), fun n o p e => by simp at e⟩, .cons (.scr (hS.elim (fun z => .inl ⟨z, fun ⟨n, e⟩ => by simp at e, by simp⟩) fun z => .inr z)) .nil, ?_⟩
    rw [e]
    intro ρ' H' _ _ x rx
    cases rx
    exact q H'
theorem walk {l : PySem.W.OpenLaw} {q : Program} {loose : List Str} {XP : (Str → Option Value) → Heap → Prop} {YP : World → Heap → Prop} {d : DefRec} {K : Params → PySem.W.Frag} (hn : l.most = some 63) (hdf : d.params.defaults = [])
    (hY : ∀ (w : World) (h : Heap), YP w h → (K w.params).In h)
    (F : ∀ (w : World) (mg : Str → Option Value) (fa : Addr) (h : Heap), (K w.params).In h → h.Ns mainGlobals mg → mg d.name = some (.ref fa) →
      ∃ fd : FuncData, (∀ (s : Shared) (u : Value), BindsTo s fd ⟨[u], []⟩ [("script", u)]) ∧ ∀ base : Heap, (K w.params).In base → base.Ns mainGlobals mg → FnOk l.prog w (K w.params) mg base (L2.CX l.prog w) 6 fa fd ["script"] (spLaw (K w.params))) :
    PySem.W.WalkO q loose XP YP l.row.toRowW d [] (fun f vs => PySem.call f vs) :=
  L2.walk_of (n := 63) (k := 6) (x := "script") (CX := fun w => L2.CX l.prog w) (sp := fun w => spLaw (K w.params)) hn (by decide) hdf ⟨rfl, by decide, by decide⟩ hY F (fun _ _ a ns hl _ hS => ⟨a, ns, rfl, hS, hl, fun _ => rfl⟩) fun _ _ _ _ _ z => by
    obtain ⟨_, _, _, _, _, _, _, _, _, _, _, _, z⟩ := z
    exact z
end Y.k33
open PySem PySem.W PyProof.Rows
set_option maxRecDepth 100000 in
set_option maxHeartbeats 0 in
theorem PySem.Challenge.cw_sameinsameout_k33_whole_stores_of_many_s_holds : PySem.Challenge.rw_sameinsameout_k33_whole_stores_of_many_s.Holds := by
  w_on; o_law; k_head; (case hw => w_witness2)
  k_fill
  refine Y.k33.walk (l := PySem.Challenge.rw_sameinsameout_k33_whole_stores_of_many_s) rfl rfl (fun w h Y => PySem.W.kIn_of Y) ?F
  case F =>
    intro w mg fa h KX G hmg
    refine' Y.k33.all_mk KX G hmg ?aStore ?pgStore ?hdStore ?poStore ?saStore ?mkStore ?kcStore ?nStore_texts ?nStore_quota ?nStore_used ?nStore_sizes ?nStore_clock ?nStore_last ?nStore_pins ?a0 ?l0 ?c0 ?k0 ?a1 ?l1 ?c1 ?k1 ?a2 ?i2 ?l2 ?c2 ?k2 ?a3 ?i3 ?l3 ?c3 ?k3 ?a4 ?i4 ?l4 ?c4 ?k4 ?a5 ?i5 ?l5 ?c5 ?k5 ?a6 ?i6 ?l6 ?c6 ?k6 ?a7 ?i7 ?l7 ?c7 ?k7 ?a8 ?i8 ?l8 ?c8 ?k8 ?a9 ?i9 ?l9 ?c9 ?k9 ?a10 ?i10 ?l10 ?c10 ?k10 ?a11 ?i11 ?l11 ?c11 ?k11 ?a12 ?i12 ?l12 ?c12 ?k12 ?a13 ?l13 ?c13 ?k13 ?a14 ?l14 ?c14 ?k14 ?a15 ?l15 ?c15 ?k15 ?a16 ?l16 ?c16 ?k16 ?a17 ?l17 ?c17 ?k17 ?a18 ?l18 ?c18 ?k18 ?a19 ?l19 ?c19 ?k19 ?a20 ?l20 ?c20 ?k20 ?a21 ?l21 ?c21 ?k21 ?gBASE ?gPRIME ?gSIGNS ?z_abs ?z_all ?z_int ?z_len ?z_ord ?z_range ?z_set ?z_sorted ?z_str ?z_tuple ?aWorldError ?opq ?zsup ?aStoreError ?xLStoreError ?saStoreError ?inStoreError ?tiStoreError ?lStoreError ?cdStoreError ?coStoreError ?fiStoreError ?feStoreError ?ceStoreError ?mrStoreError ?suStoreError ?veStoreError ?tpStoreError ?nStoreError_word ?nStoreError_name ?gaStoreError ?ggStoreError ?hdStoreError ?kStoreError ?bStoreError ?tStoreError ?iStoreError ?sStoreError
    (case aStore => k_is)
    (case pgStore => k_is)
    (case hdStore => k_is)
    (case poStore => k_is)
    (case saStore => k_is)
    (case mkStore => k_is)
    (case kcStore => k_is)
    (case nStore_texts => k_is)
    (case nStore_quota => k_is)
    (case nStore_used => k_is)
    (case nStore_sizes => k_is)
    (case nStore_clock => k_is)
    (case nStore_last => k_is)
    (case nStore_pins => k_is)
    (case a0 => k_is)
    (case l0 => k_is)
    (case c0 => k_is)
    (case k0 => k_is)
    (case a1 => k_is)
    (case l1 => k_is)
    (case c1 => k_is)
    (case k1 => k_is)
    (case a2 => k_is)
    (case i2 => k_is)
    (case l2 => k_is)
    (case c2 => k_is)
    (case k2 => k_is)
    (case a3 => k_is)
    (case i3 => k_is)
    (case l3 => k_is)
    (case c3 => k_is)
    (case k3 => k_is)
    (case a4 => k_is)
    (case i4 => k_is)
    (case l4 => k_is)
    (case c4 => k_is)
    (case k4 => k_is)
    (case a5 => k_is)
    (case i5 => k_is)
    (case l5 => k_is)
    (case c5 => k_is)
    (case k5 => k_is)
    (case a6 => k_is)
    (case i6 => k_is)
    (case l6 => k_is)
    (case c6 => k_is)
    (case k6 => k_is)
    (case a7 => k_is)
    (case i7 => k_is)
    (case l7 => k_is)
    (case c7 => k_is)
    (case k7 => k_is)
    (case a8 => k_is)
    (case i8 => k_is)
    (case l8 => k_is)
    (case c8 => k_is)
    (case k8 => k_is)
    (case a9 => k_is)
    (case i9 => k_is)
    (case l9 => k_is)
    (case c9 => k_is)
    (case k9 => k_is)
    (case a10 => k_is)
    (case i10 => k_is)
    (case l10 => k_is)
    (case c10 => k_is)
    (case k10 => k_is)
    (case a11 => k_is)
    (case i11 => k_is)
    (case l11 => k_is)
    (case c11 => k_is)
    (case k11 => k_is)
    (case a12 => k_is)
    (case i12 => k_is)
    (case l12 => k_is)
    (case c12 => k_is)
    (case k12 => k_is)
    (case a13 => k_is)
    (case l13 => k_is)
    (case c13 => k_is)
    (case k13 => k_is)
    (case a14 => k_is)
    (case l14 => k_is)
    (case c14 => k_is)
    (case k14 => k_is)
    (case a15 => k_is)
    (case l15 => k_is)
    (case c15 => k_is)
    (case k15 => k_is)
    (case a16 => k_is)
    (case l16 => k_is)
    (case c16 => k_is)
    (case k16 => k_is)
    (case a17 => k_is)
    (case l17 => k_is)
    (case c17 => k_is)
    (case k17 => k_is)
    (case a18 => k_is)
    (case l18 => k_is)
    (case c18 => k_is)
    (case k18 => k_is)
    (case a19 => k_is)
    (case l19 => k_is)
    (case c19 => k_is)
    (case k19 => k_is)
    (case a20 => k_is)
    (case l20 => k_is)
    (case c20 => k_is)
    (case k20 => k_is)
    (case a21 => k_is)
    (case l21 => k_is)
    (case c21 => k_is)
    (case k21 => k_is)
    (case gBASE => k_is)
    (case gPRIME => k_is)
    (case gSIGNS => k_is)
    (case z_abs => k_is)
    (case z_all => k_is)
    (case z_int => k_is)
    (case z_len => k_is)
    (case z_ord => k_is)
    (case z_range => k_is)
    (case z_set => k_is)
    (case z_sorted => k_is)
    (case z_str => k_is)
    (case z_tuple => k_is)
    (case aWorldError => k_is)
    (case opq => k_is)
    (case zsup => k_is)
    (case aStoreError => k_is)
    (case xLStoreError => k_is)
    (case saStoreError => k_is)
    (case inStoreError => k_is)
    (case tiStoreError => k_is)
    (case lStoreError => k_is)
    (case cdStoreError => k_is)
    (case coStoreError => k_is)
    (case fiStoreError => first | rfl | k_is)
    (case feStoreError => first | rfl | decide +kernel)
    (case ceStoreError => k_is)
    (case mrStoreError => k_is)
    (case suStoreError => first | kernel_rfl | k_is)
    (case veStoreError => k_is)
    (case tpStoreError => first | rfl | decide +kernel)
    (case nStoreError_word => k_is)
    (case nStoreError_name => k_is)
    (case gaStoreError => k_is)
    (case ggStoreError => k_is)
    (case hdStoreError => k_is)
    (case kStoreError => k_is)
    (case bStoreError => k_is)
    (case tStoreError => k_is)
    (case iStoreError => k_is)
    (case sStoreError => first | rfl | k_is)

