import PyProof.Rows.All
import Wide.All
import OpenK.AllK
import Wide.FinOn
import HandS.ForMost
import HandS.ForExc
import HandS.ForDict
import HandS.Style
import HandS.Flow
import HandS.TupMul
import HandS.Deep
import HandS.Text
import HandS.IsInst
import HandS.SetKeys
import HandS.TryOnly
import HandS.WordsExc
import HandS.ExcOwn
import PySem.Challenge.RW_sameinsameout_k29_whole_patches_of_known
set_option Elab.async false
set_option linter.all false
set_option maxRecDepth 100000
set_option autoImplicit false

/-! A small language of values, heaps and steps for the programs' texts (by an AI agent): what an expression or a statement does, as plain functions. -/
namespace Y
open PySem

/-- values: what is never changed is told whole; what is changed stands in the heap -/
inductive PV where
  | non
  | bl (b : Bool)
  | int (i : Int)
  | str (s : List Nat)
  | tup (l : List PV)
  | lst (l : List PV)
  | dct (l : List (PV × PV))
  | ref (n : Nat)
  | exn (c : Nat) (fs : List (Nat × PV))
  | scr (l : List Int)
  deriving Inhabited

mutual
def PV.beq : PV → PV → Bool
  | .non, .non => true
  | .bl a, .bl b => a == b
  | .int a, .int b => a == b
  | .str a, .str b => a == b
  | .tup a, .tup b => PV.beqL a b
  | .lst a, .lst b => PV.beqL a b
  | .dct a, .dct b => PV.beqP a b
  | .ref a, .ref b => a == b
  | .exn c a, .exn d b => c == d && PV.beqF a b
  | .scr a, .scr b => a == b
  | _, _ => false
def PV.beqL : List PV → List PV → Bool
  | [], [] => true
  | a :: r, b :: s => PV.beq a b && PV.beqL r s
  | _, _ => false
def PV.beqP : List (PV × PV) → List (PV × PV) → Bool
  | [], [] => true
  | (a, c) :: r, (b, d) :: s => PV.beq a b && (PV.beq c d && PV.beqP r s)
  | _, _ => false
def PV.beqF : List (Nat × PV) → List (Nat × PV) → Bool
  | [], [] => true
  | (a, c) :: r, (b, d) :: s => a == b && (PV.beq c d && PV.beqF r s)
  | _, _ => false
end
mutual
theorem PV.beq_ok : ∀ (a b : PV), PV.beq a b = true ↔ a = b
  | .non, b => by cases b <;> simp [PV.beq]
  | .bl a, b => by cases b <;> simp [PV.beq]
  | .int a, b => by cases b <;> simp [PV.beq]
  | .str a, b => by cases b <;> simp [PV.beq]
  | .tup a, b => by cases b <;> simp [PV.beq, PV.beqL_ok a]
  | .lst a, b => by cases b <;> simp [PV.beq, PV.beqL_ok a]
  | .dct a, b => by cases b <;> simp [PV.beq, PV.beqP_ok a]
  | .ref a, b => by cases b <;> simp [PV.beq]
  | .exn c a, b => by cases b <;> simp [PV.beq, PV.beqF_ok a]
  | .scr a, b => by cases b <;> simp [PV.beq]
theorem PV.beqL_ok : ∀ (a b : List PV), PV.beqL a b = true ↔ a = b
  | [], b => by cases b <;> simp [PV.beqL]
  | x :: r, b => by cases b <;> simp [PV.beqL, PV.beq_ok x, PV.beqL_ok r]
theorem PV.beqP_ok : ∀ (a b : List (PV × PV)), PV.beqP a b = true ↔ a = b
  | [], b => by cases b <;> simp [PV.beqP]
  | (x, y) :: r, b => by
    rcases b with _ | ⟨⟨u, v⟩, s⟩
    · simp [PV.beqP]
    · simp [PV.beqP, PV.beq_ok x, PV.beq_ok y, PV.beqP_ok r, and_assoc]
theorem PV.beqF_ok : ∀ (a b : List (Nat × PV)), PV.beqF a b = true ↔ a = b
  | [], b => by cases b <;> simp [PV.beqF]
  | (x, y) :: r, b => by
    rcases b with _ | ⟨⟨u, v⟩, s⟩
    · simp [PV.beqF]
    · simp [PV.beqF, PV.beq_ok y, PV.beqF_ok r, and_assoc]
end
instance : DecidableEq PV := fun a b => if h : PV.beq a b = true then isTrue ((PV.beq_ok a b).mp h) else isFalse fun e => h ((PV.beq_ok a b).mpr e)

/-- what stands in the heap -/
inductive VO where
  | gone
  | lst (l : List PV)
  | dct (kvs : List (PV × PV))
  | ldct (kvs : List (PV × PV))
  | ins (c : Nat) (fs : List (Nat × PV))
  deriving Inhabited
abbrev VH := List VO
abbrev Sl := List (Option PV)

inductive R (α : Type) where
  | ok (a : α) (h : VH)
  | exc (c : Nat) (fs : List (Nat × PV)) (h : VH)
  | bad
def R.bnd {α β : Type} (r : R α) (f : α → VH → R β) : R β := match r with
  | .ok a h => f a h
  | .exc c fs h => .exc c fs h
  | .bad => .bad
@[simp] theorem R.bnd_ok {α β : Type} (a : α) (h : VH) (f : α → VH → R β) : (R.ok a h).bnd f = f a h := rfl
@[simp] theorem R.bnd_exc {α β : Type} (c : Nat) (fs : List (Nat × PV)) (h : VH) (f : α → VH → R β) : (R.exc c fs h : R α).bnd f = .exc c fs h := rfl
@[simp] theorem R.bnd_bad {α β : Type} (f : α → VH → R β) : (R.bad : R α).bnd f = .bad := rfl

/-- nothing may be raised within -/
def R.calm {α : Type} (r : R α) : R α := match r with
  | .ok a h => .ok a h
  | _ => .bad
/-- what a def does: of its arguments and the heap -/
abbrev Fn := List PV → VH → R PV
abbrev EM := Sl → VH → R PV
abbrev TM := Sl → VH → R Bool
abbrev AM := Sl → VH → R (List PV)

inductive RS where
  | nx (σ : Sl) (h : VH)
  | ret (v : PV) (h : VH)
  | brk (σ : Sl) (h : VH)
  | cnt (σ : Sl) (h : VH)
  | exc (c : Nat) (fs : List (Nat × PV)) (σ : Sl) (h : VH)
  | bad
abbrev SM := Sl → VH → RS
/-- an expression's end, then a statement's -/
def R.thn {α : Type} (r : R α) (σ : Sl) (f : α → VH → RS) : RS := match r with
  | .ok a h => f a h
  | .exc c fs h => .exc c fs σ h
  | .bad => .bad
@[simp] theorem R.thn_ok {α : Type} (a : α) (h : VH) (σ : Sl) (f : α → VH → RS) : (R.ok a h).thn σ f = f a h := rfl
@[simp] theorem R.thn_exc {α : Type} (c : Nat) (fs : List (Nat × PV)) (h : VH) (σ : Sl) (f : α → VH → RS) : (R.exc c fs h : R α).thn σ f = .exc c fs σ h := rfl
@[simp] theorem R.thn_bad {α : Type} (σ : Sl) (f : α → VH → RS) : (R.bad : R α).thn σ f = .bad := rfl

/-! ### the most that a text or a row may have -/
def line : Nat := 16777216

/-! ### expressions -/
def mBad {α : Type} : Sl → VH → R α := fun _ _ => .bad
def retO {α : Type} (o : Option α) (h : VH) : R α := match o with
  | some v => .ok v h
  | none => .bad
@[simp] theorem retO_some {α : Type} (a : α) (h : VH) : retO (some a) h = .ok a h := rfl
@[simp] theorem retO_none {α : Type} (h : VH) : retO (none : Option α) h = .bad := rfl
def retH {α : Type} (o : Option (α × VH)) : R α := match o with
  | some (v, h) => .ok v h
  | none => .bad
@[simp] theorem retH_some {α : Type} (a : α) (h : VH) : retH (some (a, h)) = .ok a h := rfl
@[simp] theorem retH_none {α : Type} : retH (none : Option (α × VH)) = .bad := rfl
def notExn : PV → Bool
  | .exn _ _ => false
  | _ => true
def mVar (i : Nat) : EM := fun σ h => match σ[i]? with
  | some (some v) => if notExn v = true then .ok v h else .bad
  | _ => .bad
def mC (v : PV) : EM := fun _ h => .ok v h
def mOp1 (f : PV → VH → Option PV) (a : EM) : EM := fun σ h => (a σ h).bnd fun x h1 => retO (f x h1) h1
def mOp2 (f : PV → PV → VH → Option PV) (a b : EM) : EM := fun σ h => (a σ h).bnd fun x h1 => (b σ h1).bnd fun y h2 => retO (f x y h2) h2
def mNil : AM := fun _ h => .ok [] h
def mCons (a : EM) (r : AM) : AM := fun σ h => (a σ h).bnd fun x h1 => (r σ h1).bnd fun xs h2 => .ok (x :: xs) h2
/-- a def of the text, a built-in that changes nothing, one that gives new rows, a built-in's method -/
def mCall (F : Fn) (as : AM) : EM := fun σ h => (as σ h).bnd F
def mBi (F : List PV → VH → Option PV) (as : AM) : EM := fun σ h => (as σ h).bnd fun vs h1 => retO (F vs h1) h1
def mBiL (F : List PV → VH → Option (List PV)) (as : AM) : AM := fun σ h => (as σ h).bnd fun vs h1 => retO (F vs h1) h1
/-- a new instance, then __init__ -/
def mMake (c : Nat) (F : Fn) (as : AM) : EM := fun σ h => (as σ h).bnd fun vs h1 => (F (.ref h1.length :: vs) (h1 ++ [.ins c []])).bnd fun v h2 => match v with
  | .non => .ok (.ref h1.length) h2
  | _ => .bad
def clsOf (x : PV) (h : VH) : Option Nat := match x with
  | .ref n => match h[n]? with
    | some (.ins c _) => some c
    | _ => none
  | _ => none
def kind (x : PV) (h : VH) : String := match x with
  | .str _ => "str"
  | .lst _ => "list"
  | .ref n => match h[n]? with
    | some (.lst _) => "list"
    | some (.dct _) => "dict"
    | _ => ""
  | _ => ""
abbrev Bm := PV → List PV → VH → Option (PV × VH)
/-- o.m(..): a method of the text's own class, or a built-in's -/
def mMeth (C : Nat → Option Fn) (ks : List String) (B : Bm) (o : EM) (as : AM) : EM := fun σ h => ((o σ h).calm).bnd fun x h1 => match clsOf x h1 with
  | some c => match C c with
    | some F => (as σ h1).bnd fun vs h2 => F (x :: vs) h2
    | none => .bad
  | none => if kind x h1 ∈ ks then (as σ h1).bnd fun vs h2 => retH (if kind x h2 = kind x h1 then B x vs h2 else none) else .bad
def mIf (t : TM) (a b : EM) : EM := fun σ h => (t σ h).bnd fun c h1 => if c = true then a σ h1 else b σ h1
/-- a bool as a test, a test of a value by its truth -/
def mTest (a : EM) : TM := fun σ h => (a σ h).bnd fun x h1 => match x with
  | .bl b => .ok b h1
  | _ => .bad
def truth (x : PV) (h : VH) : R Bool := match x with
  | .non => .ok false h
  | .bl b => .ok b h
  | .int i => .ok (i != 0) h
  | .str s => .ok (!s.isEmpty) h
  | .tup l => .ok (!l.isEmpty) h
  | .lst l => .ok (!l.isEmpty) h
  | .dct _ => .bad
  | .ref n => match h[n]? with
    | some (.lst l) => .ok (!l.isEmpty) h
    | some (.dct l) => .ok (!l.isEmpty) h
    | _ => .bad
  | .exn _ _ => .bad
  | .scr _ => .bad
def mTruth (a : EM) : TM := fun σ h => (a σ h).bnd truth
def mAnd (t u : TM) : TM := fun σ h => (t σ h).bnd fun c h1 => if c = true then u σ h1 else .ok false h1
def mOr (t u : TM) : TM := fun σ h => (t σ h).bnd fun c h1 => if c = true then .ok true h1 else u σ h1
def mNot (t : TM) : TM := fun σ h => (t σ h).bnd fun c h1 => .ok (!c) h1
/-- a and b, a or b, as values: the left ones are bools -/
def mAndV (a b : EM) : EM := fun σ h => (a σ h).bnd fun x h1 => match x with
  | .bl true => b σ h1
  | .bl false => .ok (.bl false) h1
  | _ => .bad
def mOrV (a b : EM) : EM := fun σ h => (a σ h).bnd fun x h1 => match x with
  | .bl false => b σ h1
  | .bl true => .ok (.bl true) h1
  | _ => .bad
/-- a test as a value -/
def mNotV (t : TM) : EM := fun σ h => (t σ h).bnd fun c h1 => .ok (.bl (!c)) h1

/-! ### operations on values -/
def strLe (n : Nat) : Bool := Nat.ble n line
/-! bounds, asked so that nothing is counted up to them -/
def rngOk (i : Int) : Bool := match i with
  | .ofNat n => Nat.ble n 4000000000
  | .negSucc n => Nat.ble n 4000000000
def mulOk (i : Int) : Bool := match i with
  | .ofNat n => Nat.ble n 18446744073709551615
  | .negSucc n => Nat.ble n 18446744073709551614
def divOk (i : Int) : Bool := match i with
  | .ofNat n => Nat.blt 0 n && Nat.ble n 1073741823
  | .negSucc _ => false
def strOk (i : Int) : Bool := match i with
  | .ofNat n => Nat.ble n 999999999999999999
  | .negSucc _ => false
theorem rngOk_out {i : Int} (h : rngOk i = true) : -4000000000 ≤ i + 1 ∧ i ≤ 4000000000 := by
  cases i with
  | ofNat n =>
    have h := Nat.ble_eq.mp (show Nat.ble n 4000000000 = true from h)
    rw [show Int.ofNat n = (n : Int) from rfl]
    omega
  | negSucc n =>
    have h := Nat.ble_eq.mp (show Nat.ble n 4000000000 = true from h)
    rw [Int.negSucc_eq n]
    omega
theorem rngOk_of {i : Int} (h1 : -4000000000 ≤ i) (h2 : i ≤ 4000000000) : rngOk i = true := by
  cases i with
  | ofNat n =>
    rw [show Int.ofNat n = (n : Int) from rfl] at h1 h2
    exact Nat.ble_eq.mpr (by omega)
  | negSucc n =>
    rw [Int.negSucc_eq n] at h1 h2
    exact Nat.ble_eq.mpr (by omega)
theorem mulOk_out {i : Int} (h : mulOk i = true) : -18446744073709551616 < i ∧ i < 18446744073709551616 := by
  cases i with
  | ofNat n =>
    have h := Nat.ble_eq.mp (show Nat.ble n 18446744073709551615 = true from h)
    rw [show Int.ofNat n = (n : Int) from rfl]
    omega
  | negSucc n =>
    have h := Nat.ble_eq.mp (show Nat.ble n 18446744073709551614 = true from h)
    rw [Int.negSucc_eq n]
    omega
theorem mulOk_of {i : Int} (h1 : -18446744073709551616 < i) (h2 : i < 18446744073709551616) : mulOk i = true := by
  cases i with
  | ofNat n =>
    rw [show Int.ofNat n = (n : Int) from rfl] at h1 h2
    exact Nat.ble_eq.mpr (by omega)
  | negSucc n =>
    rw [Int.negSucc_eq n] at h1 h2
    exact Nat.ble_eq.mpr (by omega)
theorem divOk_out {i : Int} (h : divOk i = true) : 0 < i ∧ i < 1073741824 := by
  cases i with
  | ofNat n =>
    have h := Bool.and_eq_true_iff.mp (show (Nat.blt 0 n && Nat.ble n 1073741823) = true from h)
    have h1 := Nat.blt_eq.mp h.1
    have h2 := Nat.ble_eq.mp h.2
    rw [show Int.ofNat n = (n : Int) from rfl]
    omega
  | negSucc n => cases h
theorem divOk_of {i : Int} (h1 : 0 < i) (h2 : i < 1073741824) : divOk i = true := by
  cases i with
  | ofNat n =>
    rw [show Int.ofNat n = (n : Int) from rfl] at h1 h2
    exact Bool.and_eq_true_iff.mpr ⟨Nat.blt_eq.mpr (by omega), Nat.ble_eq.mpr (by omega)⟩
  | negSucc n =>
    rw [Int.negSucc_eq n] at h1
    omega
theorem strOk_out {i : Int} (h : strOk i = true) : 0 ≤ i ∧ i < 1000000000000000000 := by
  cases i with
  | ofNat n =>
    have h := Nat.ble_eq.mp (show Nat.ble n 999999999999999999 = true from h)
    rw [show Int.ofNat n = (n : Int) from rfl]
    omega
  | negSucc n => cases h
theorem strOk_of {i : Int} (h1 : 0 ≤ i) (h2 : i < 1000000000000000000) : strOk i = true := by
  cases i with
  | ofNat n =>
    rw [show Int.ofNat n = (n : Int) from rfl] at h1 h2
    exact Nat.ble_eq.mpr (by omega)
  | negSucc n =>
    rw [Int.negSucc_eq n] at h1
    omega
/-- what a row of values is: a list or a tuple that is never changed, or a list of the heap -/
def asList (x : PV) (h : VH) : Option (List PV) := match x with
  | .lst l => some l
  | .ref n => match h[n]? with
    | some (.lst l) => some l
    | _ => none
  | _ => none
def asSeq (x : PV) (h : VH) : Option (List PV) := match x with
  | .tup l => some l
  | _ => asList x h
def asDict (x : PV) (h : VH) : Option (List (PV × PV)) := match x with
  | .dct l => some l
  | .ref n => match h[n]? with
    | some (.dct l) => some l
    | some (.ldct l) => some l
    | _ => none
  | _ => none
def rep {α : Type} (l : List α) : Nat → List α
  | 0 => []
  | n + 1 => l ++ rep l n
def binO (op : Operator) (x y : PV) (h : VH) : Option PV := match op, x, y with
  | .Add, .int a, .int b => some (.int (a + b))
  | .Sub, .int a, .int b => some (.int (a - b))
  | .Mult, .int a, .int b => if mulOk a || mulOk b then some (.int (a * b)) else none
  | .FloorDiv, .int a, .int b => if divOk b then some (.int (a / b)) else none
  | .Mod, .int a, .int b => if 0 < b then some (.int (a % b)) else none
  | .Add, .str a, .str b => if a.length + b.length ≤ line then some (.str (a ++ b)) else none
  | .Mult, .str a, .int b => if a.length * b.toNat ≤ line ∧ rngOk b = true then some (.str (rep a b.toNat)) else none
  | .Add, .tup a, .tup b => if a.length + b.length ≤ line ∧ a ≠ [] ∧ b ≠ [] then some (.tup (a ++ b)) else none
  | .Mult, .tup a, .int b => if a.length * b.toNat ≤ line ∧ rngOk b = true then some (.tup (rep a b.toNat)) else none
  | .Add, .lst a, y => match asList y h with
    | some b => if a.length + b.length ≤ line then some (.lst (a ++ b)) else none
    | none => none
  | .Add, .ref n, y => match asList (.ref n) h, asList y h with
    | some a, some b => if a.length + b.length ≤ line then some (.lst (a ++ b)) else none
    | _, _ => none
  | .Mult, .lst a, .int b => if a.length * b.toNat ≤ line ∧ rngOk b = true then some (.lst (rep a b.toNat)) else none
  | _, _, _ => none

/-! #### == -/
mutual
/-- none, ints, texts, tuples and lists of these: two of these are equal in Python just if they are the same here -/
def PV.plain : PV → Bool
  | .non => true
  | .int _ => true
  | .str _ => true
  | .tup l => PV.plainL l
  | .lst l => PV.plainL l
  | _ => false
def PV.plainL : List PV → Bool
  | [] => true
  | a :: r => PV.plain a && PV.plainL r
end
mutual
def PV.dep : PV → Nat
  | .tup l => PV.depL l + 1
  | .lst l => PV.depL l + 1
  | _ => 0
def PV.depL : List PV → Nat
  | [] => 0
  | a :: r => max (PV.dep a) (PV.depL r)
end
/-- a list of the heap, read -/
def look (x : PV) (h : VH) : PV := match x with
  | .ref n => match h[n]? with
    | some (.lst l) => .lst l
    | _ => .ref n
  | _ => x
def eqO (x y : PV) : Option Bool := match x, y with
  | .bl a, .bl b => some (a == b)
  | _, _ => if x.plain && y.plain && Nat.ble x.dep 60 && Nat.ble y.dep 60 then some (decide (x = y)) else none
def strLt : List Nat → List Nat → Bool
  | _, [] => false
  | [], _ :: _ => true
  | a :: r, b :: s => if a = b then strLt r s else decide (a < b)
/-- one text within another, from some place on -/
def pre : List Nat → List Nat → Bool
  | [], _ => true
  | _ :: _, [] => false
  | a :: r, b :: s => a == b && pre r s
def within (x : List Nat) : List Nat → Bool
  | [] => x.isEmpty
  | b :: s => pre x (b :: s) || within x s
def keyOk : PV → Bool
  | .int _ => true
  | .str _ => true
  | _ => false
def kget (kvs : List (PV × PV)) (k : PV) : Option PV := (kvs.find? fun p => decide (p.1 = k)).map (·.2)
def kput (kvs : List (PV × PV)) (k v : PV) : List (PV × PV) :=
  if (kget kvs k).isSome then kvs.map fun p => if p.1 = k then (p.1, v) else p else kvs ++ [(k, v)]
def kdrop (kvs : List (PV × PV)) (k : PV) : List (PV × PV) := kvs.filter fun p => decide (p.1 ≠ k)
def inO (x y : PV) (h : VH) : Option Bool := match y with
  | .str b => match x with
    | .str a => some (within a b)
    | _ => none
  | .tup l => if x.plain && PV.plainL l && Nat.ble x.dep 0 && Nat.ble (PV.depL l) 0 then some (decide (x ∈ l)) else none
  | y => match asList y h with
    | some l => if x.plain && PV.plainL l && Nat.ble x.dep 60 && Nat.ble (PV.depL l) 58 then some (decide (x ∈ l)) else none
    | none => match asDict y h with
      | some kvs => if keyOk x then some (kget kvs x).isSome else none
      | none => none
def cmpO (op : CmpOp) (x y : PV) (h : VH) : Option Bool := match op with
  | .Eq => eqO (look x h) (look y h)
  | .NotEq => (eqO (look x h) (look y h)).map (!·)
  | .Lt => match x, y with
    | .int a, .int b => some (decide (a < b))
    | .str a, .str b => some (strLt a b)
    | _, _ => none
  | .LtE => match x, y with
    | .int a, .int b => some (decide (a ≤ b))
    | .str a, .str b => some (!strLt b a)
    | _, _ => none
  | .Gt => match x, y with
    | .int a, .int b => some (decide (b < a))
    | .str a, .str b => some (strLt b a)
    | _, _ => none
  | .GtE => match x, y with
    | .int a, .int b => some (decide (b ≤ a))
    | .str a, .str b => some (!strLt a b)
    | _, _ => none
  | .In => inO x y h
  | .NotIn => (inO x y h).map (!·)
  | .Is => if y = .non then some (decide (x = .non)) else none
  | .IsNot => if y = .non then some (!decide (x = .non)) else none
def cmpV (op : CmpOp) (x y : PV) (h : VH) : Option PV := (cmpO op x y h).map PV.bl

/-! #### items, slices -/
def atI (n : Nat) (i : Int) : Option Nat := if 0 ≤ i then (if i < n then some i.toNat else none) else if -(n : Int) ≤ i then some (i + n).toNat else none
def itO {α : Type} (l : List α) (i : Int) : Option α := (atI l.length i).bind fun j => l[j]?
def ixO (x y : PV) (h : VH) : Option PV := match x, y with
  | .str s, .int i => (itO s i).map fun c => .str [c]
  | x, y => match asSeq x h, y with
    | some l, .int i => itO l i
    | _, _ => match asDict x h with
      | some kvs => if keyOk y then kget kvs y else none
      | none => none
def cutIx (n d : Nat) : Option Int → Nat
  | none => d
  | some i => if i < 0 then (i + n).toNat else min i.toNat n
def cut {α : Type} (l : List α) (lo hi : Option Int) : List α := (l.drop (cutIx l.length 0 lo)).take (cutIx l.length l.length hi - cutIx l.length 0 lo)
def slO (x : PV) (lo hi : Option Int) (h : VH) : Option PV := match x with
  | .str s => some (.str (cut s lo hi))
  | .tup l => if cut l lo hi = l then none else some (.tup (cut l lo hi))
  | x => (asList x h).map fun l => .lst (cut l lo hi)
abbrev OM := Sl → VH → R (Option Int)
def mNoPart : OM := fun _ h => .ok none h
def mPart (a : EM) : OM := fun σ h => (a σ h).bnd fun x h1 => match x with
  | .int i => .ok (some i) h1
  | _ => .bad
def mSl (a : EM) (lo hi : OM) : EM := fun σ h => (a σ h).bnd fun x h1 => (lo σ h1).bnd fun l h2 => (hi σ h2).bnd fun u h3 => retO (slO x l u h3) h3

/-! #### attributes -/
def fget (fs : List (Nat × PV)) (f : Nat) : Option PV := fs.lookup f
def fput (f : Nat) (v : PV) : List (Nat × PV) → List (Nat × PV)
  | [] => [(f, v)]
  | (g, u) :: r => if g = f then (g, v) :: r else (g, u) :: fput f v r
/-- ok: which class has which fields -/
def atO (ok : Nat → Nat → Bool) (f : Nat) (x : PV) (h : VH) : Option PV := match x with
  | .ref n => match h[n]? with
    | some (.ins c fs) => if ok c f = true then fget fs f else none
    | _ => none
  | _ => none
/-- a field of the exception in slot i -/
def mExAt (i f : Nat) : EM := fun σ h => match σ[i]? with
  | some (some (.exn _ fs)) => retO (fget fs f) h
  | _ => .bad

/-! ### displays, comprehensions -/
def mTup (as : AM) : EM := fun σ h => (as σ h).bnd fun xs h1 => if xs.length ≤ line then .ok (.tup xs) h1 else .bad
/-- new rows: as they are, or laid in the heap -/
def mFz (m : AM) : EM := fun σ h => (m σ h).bnd fun xs h1 => .ok (.lst xs) h1
def mReg (m : AM) : EM := fun σ h => (m σ h).bnd fun xs h1 => .ok (.ref h1.length) (h1 ++ [.lst xs])
def mNewL (as : AM) : AM := fun σ h => (as σ h).bnd fun xs h1 => if xs.length ≤ line then .ok xs h1 else .bad
abbrev DM := Sl → VH → R (List (PV × PV))
def mFzD (m : DM) : EM := fun σ h => (m σ h).bnd fun kvs h1 => .ok (.dct kvs) h1
def mRegD (m : DM) : EM := fun σ h => (m σ h).bnd fun kvs h1 => .ok (.ref h1.length) (h1 ++ [.dct kvs])
def mPNil : DM := fun _ h => .ok [] h
def mPCons (k v : EM) (r : DM) : DM := fun σ h => (k σ h).bnd fun x h1 => (v σ h1).bnd fun y h2 => if keyOk x then (r σ h2).bnd fun kvs h3 => .ok ((x, y) :: kvs) h3 else .bad
def kmerge (kvs more : List (PV × PV)) : List (PV × PV) := more.foldl (fun acc p => kput acc p.1 p.2) kvs
def mDisp (m : DM) : DM := fun σ h => ((m σ h).calm).bnd fun kvs h1 => .ok (kmerge [] kvs) h1

/-- what a loop walks -/
abbrev IM := Sl → VH → R (List PV)
def mIter (a : EM) : IM := fun σ h => (a σ h).bnd fun x h1 => match x with
  | .lst l => .ok l h1
  | .tup l => .ok l h1
  | .str s => .ok (s.map fun c => .str [c]) h1
  | .scr l => .ok (l.map PV.int) h1
  | _ => .bad
def rangeL (lo : Int) (n : Nat) : List PV := (List.range n).map fun (i : Nat) => PV.int (lo + (i : Int))
def mRange (as : AM) : IM := fun σ h => (as σ h).bnd fun xs h1 => match xs with
  | [.int j] => if rngOk j then .ok (rangeL 0 j.toNat) h1 else .bad
  | [.int i, .int j] => if rngOk i && rngOk j then .ok (rangeL i (j - i).toNat) h1 else .bad
  | _ => .bad

/-- targets: nothing is raised in one -/
abbrev GM := PV → Sl → VH → Option (Sl × VH)
abbrev GMs := List PV → Sl → VH → Option (Sl × VH)
def R.opt {α : Type} (r : R α) : Option (α × VH) := match r with
  | .ok a h => some (a, h)
  | _ => none
def tName (i : Nat) : GM := fun v σ h => some (σ.set i (some v), h)
def tNil : GMs := fun vs σ h => match vs with
  | [] => some (σ, h)
  | _ => none
def tCons (t : GM) (u : GMs) : GMs := fun vs σ h => match vs with
  | v :: r => match t v σ h with
    | some (σ', h') => u r σ' h'
    | none => none
  | [] => none
def tTup (t : GMs) : GM := fun v σ h => match v with
  | .tup l => t l σ h
  | _ => none
def tBad : GM := fun _ _ _ => none
def vset (h : VH) (n : Nat) (o : VO) : VH := h.set n o
/-- o[i] = v -/
def setIx (o i v : PV) (h : VH) : Option VH := match o with
  | .ref n => match h[n]? with
    | some (.lst l) => match i with
      | .int k => (atI l.length k).map fun j => vset h n (.lst (l.set j v))
      | _ => none
    | some (.dct kvs) => if keyOk i && Nat.blt kvs.length line then some (vset h n (.dct (kput kvs i v))) else none
    | _ => none
  | _ => none
def tSub (o i : EM) : GM := fun v σ h => match (o σ h).opt with
  | some (x, h1) => match (i σ h1).opt with
    | some (y, h2) => match setIx x y v h2 with
      | some h3 => some (σ, h3)
      | none => none
    | none => none
  | none => none
def setAt (ok : Nat → Nat → Bool) (f : Nat) (o v : PV) (h : VH) : Option VH := match o with
  | .ref n => match h[n]? with
    | some (.ins c fs) => if ok c f && Nat.blt fs.length 900 then some (vset h n (.ins c (fput f v fs))) else none
    | _ => none
  | _ => none

/-- the comprehension's loop: own names are forgotten behind each turn -/
def wipe (σ : Sl) : List Nat → Sl
  | [] => σ
  | v :: vs => (wipe σ vs).set v none
def lcLoop (tg : GM) (t : TM) (e : EM) (σ : Sl) : List PV → List PV → VH → R (List PV)
  | [], acc, h => .ok acc h
  | x :: r, acc, h => match tg x σ h with
    | some (σ', h1) => ((t σ' h1).calm).bnd fun b h2 =>
      if b = true then ((e σ' h2).calm).bnd fun y h3 => if Nat.blt acc.length line then lcLoop tg t e σ r (acc ++ [y]) h3 else .bad
      else lcLoop tg t e σ r acc h2
    | none => .bad
def mYes : TM := fun _ h => .ok true h
def mLc (it : IM) (tg : GM) (t : TM) (e : EM) (own : List Nat) : AM := fun σ h => (it σ h).bnd fun xs h1 => lcLoop tg t e (wipe σ own) xs [] h1

/-! ### statements -/
def sSkip : SM := fun σ h => .nx σ h
def sSeq (a b : SM) : SM := fun σ h => match a σ h with
  | .nx σ' h' => b σ' h'
  | r => r
def sBad : SM := fun _ _ => .bad
def sAsg (e : EM) (t : GM) : SM := fun σ h => (e σ h).thn σ fun v h1 => match t v σ h1 with
  | some (σ', h2) => .nx σ' h2
  | none => .bad
/-- o.f = e -/
def sAt (ok : Nat → Nat → Bool) (f : Nat) (o e : EM) : SM := fun σ h => (e σ h).thn σ fun v h1 => (o σ h1).thn σ fun x h2 => match setAt ok f x v h2 with
  | some h3 => .nx σ h3
  | none => .bad
def sAug (i : Nat) (f : PV → PV → VH → Option PV) (e : EM) : SM := fun σ h => (mVar i σ h).thn σ fun x h0 => (e σ h0).thn σ fun y h1 => match f x y h1 with
  | some z => .nx (σ.set i (some z)) h1
  | none => .bad
/-- o.f op= e -/
def sAugAt (ok : Nat → Nat → Bool) (f : Nat) (op : PV → PV → VH → Option PV) (o e : EM) : SM := fun σ h => (o σ h).thn σ fun x h1 => match atO ok f x h1 with
  | some old => (e σ h1).thn σ fun y h3 => match op old y h3 with
    | some z => match setAt ok f x z h3 with
      | some h5 => .nx σ h5
      | none => .bad
    | none => .bad
  | none => .bad
def sExpr (e : EM) : SM := fun σ h => (e σ h).thn σ fun _ h1 => .nx σ h1
def sIf (t : TM) (a b : SM) : SM := fun σ h => (t σ h).thn σ fun c h1 => if c = true then a σ h1 else b σ h1
def sRet (e : EM) : SM := fun σ h => (e σ h).thn σ fun v h1 => .ret v h1
def sRetN : SM := fun _ h => .ret .non h
def sBrk : SM := fun σ h => .brk σ h
def sCnt : SM := fun σ h => .cnt σ h
/-- behind a turn -/
def RS.again (r : RS) (k : Sl → VH → RS) : RS := match r with
  | .nx σ h => k σ h
  | .cnt σ h => k σ h
  | .brk σ h => .nx σ h
  | .ret v h => .ret v h
  | .exc c fs σ h => .exc c fs σ h
  | .bad => .bad
def forL (tg : GM) (b : SM) : List PV → SM
  | [], σ, h => .nx σ h
  | x :: r, σ, h => match tg x σ h with
    | some (σ', h1) => (b σ' h1).again (forL tg b r)
    | none => .bad
def sFor (it : IM) (tg : GM) (b : SM) : SM := fun σ h => (it σ h).thn σ fun xs h1 => forL tg b xs σ h1
def whN (t : TM) (b : SM) : Nat → SM
  | 0, _, _ => .bad
  | n + 1, σ, h => (t σ h).thn σ fun c h1 => if c = true then (b σ h1).again (whN t b n) else .nx σ h1
open Classical in
/-- the while's end, if it comes to one -/
noncomputable def sWhile (t : TM) (b : SM) : SM := fun σ h => if e : ∃ n, whN t b n σ h ≠ .bad then whN t b (Classical.choose e) σ h else .bad
/-- an exception of the program's own, made and raised -/
def sRaise (c : Nat) (mk : List PV → VH → R (List (Nat × PV))) (as : AM) : SM := fun σ h => (as σ h).thn σ fun vs h1 => (mk vs h1).thn σ fun fs h2 => .exc c fs σ h2
def RS.calm (r : RS) : RS := match r with
  | .exc _ _ _ _ => .bad
  | r => r
/-- try: a; except (classes cs): b; the suite sees no exception and raises none -/
def sTry (a : SM) (cs : Nat → Option Bool) (b : SM) : SM := fun σ h => match a σ h with
  | .exc c fs σ' h' => match cs c with
    | some true => (b σ' h').calm
    | some false => .exc c fs σ' h'
    | none => .bad
  | r => r
/-- .. as slot i, which is forgotten behind the suite -/
def RS.without (r : RS) (i : Nat) : RS := match r with
  | .nx σ h => .nx (σ.set i none) h
  | .cnt σ h => .cnt (σ.set i none) h
  | .brk σ h => .brk (σ.set i none) h
  | .exc _ _ _ _ => .bad
  | r => r
def sTryAs (a : SM) (cs : Nat → Option Bool) (i : Nat) (b : SM) : SM := fun σ h => match a σ h with
  | .exc c fs σ' h' => match cs c with
    | some true => (b (σ'.set i (some (.exn c fs))) h').without i
    | some false => .exc c fs σ' h'
    | none => .bad
  | r => r

/-! ### a def: its body at its arguments -/
def startS (n : Nat) (vs : List PV) : Sl := vs.map some ++ List.replicate (n - vs.length) none
def runDef (np n : Nat) (b : SM) : Fn := fun vs h => if vs.length = np then (match b (startS n vs) h with
  | .nx _ h' => .ok .non h'
  | .ret v h' => .ok v h'
  | .exc c fs _ h' => .exc c fs h'
  | _ => .bad) else .bad
end Y
namespace Y
/-! ### built-ins -/
def numS (n : Nat) : List Nat := (Nat.toDigits 10 n).map Char.toNat
def bLen : List PV → VH → Option PV := fun vs h => match vs with
  | [.str s] => some (.int s.length)
  | [x] => match asSeq x h with
    | some l => some (.int l.length)
    | none => (asDict x h).map fun k => .int k.length
  | _ => none
def bOrd : List PV → VH → Option PV := fun vs _ => match vs with
  | [.str [c]] => some (.int c)
  | _ => none
def bAbs : List PV → VH → Option PV := fun vs _ => match vs with
  | [.int i] => some (.int (if i < 0 then -i else i))
  | _ => none
def bInt : List PV → VH → Option PV := fun vs _ => match vs with
  | [.int i] => some (.int i)
  | _ => none
def bStr : List PV → VH → Option PV := fun vs _ => match vs with
  | [.int i] => if strOk i then some (.str (numS i.toNat)) else none
  | _ => none
def intsOf : List PV → Option (List Int)
  | [] => some []
  | .int i :: r => (intsOf r).map (i :: ·)
  | _ => none
def blsOf : List PV → Option (List Bool)
  | [] => some []
  | .bl i :: r => (blsOf r).map (i :: ·)
  | _ => none
def strsOf : List PV → Option (List (List Nat))
  | [] => some []
  | .str i :: r => (strsOf r).map (i :: ·)
  | _ => none
def bSum : List PV → VH → Option PV := fun vs h => match vs with
  | [x] => match asList x h with
    | some l => (intsOf l).map fun is => .int is.sum
    | none => none
  | _ => none
def bAny : List PV → VH → Option PV := fun vs h => match vs with
  | [x] => match asList x h with
    | some l => (blsOf l).map fun bs => .bl (bs.any id)
    | none => none
  | _ => none
def bAll : List PV → VH → Option PV := fun vs h => match vs with
  | [x] => match asList x h with
    | some l => (blsOf l).map fun bs => .bl (bs.all id)
    | none => none
  | _ => none
def bTuple : List PV → VH → Option PV := fun vs h => match vs with
  | [.tup l] => some (.tup l)
  | [x] => (asList x h).map .tup
  | _ => none
def bList : List PV → VH → Option (List PV) := fun vs h => match vs with
  | [x] => asSeq x h
  | _ => none
/-- isinstance(x, T) -/
def isiO (t : String) (x : PV) : Option PV := match x with
  | .str _ => if t = "str" then some (.bl true) else if t = "tuple" then some (.bl false) else none
  | .tup _ => if t = "tuple" then some (.bl true) else if t = "str" then some (.bl false) else none
  | .int _ => if t = "tuple" then some (.bl false) else if t = "str" then some (.bl false) else none
  | _ => none
def mIsi (t : String) (a : EM) : EM := fun σ h => (a σ h).bnd fun x h1 => retO (isiO t x) h1
/-! ### methods of built-ins -/
def joinT (sep : List Nat) : List (List Nat) → List Nat
  | [] => []
  | [p] => p
  | p :: q :: r => p ++ (sep ++ joinT sep (q :: r))
def bAppend : Bm := fun x vs h => match x, vs with
  | .ref n, [v] => match h[n]? with
    | some (.lst l) => if Nat.blt l.length line then some (.non, vset h n (.lst (l ++ [v]))) else none
    | _ => none
  | _, _ => none
def bGet : Bm := fun x vs h => match x with
  | .ref n => match h[n]? with
    | some (.dct kvs) => match vs with
      | [k] => if keyOk k then some ((kget kvs k).getD .non, h) else none
      | [k, d] => if keyOk k then some ((kget kvs k).getD d, h) else none
      | _ => none
    | _ => none
  | _ => none
def bSetdefault : Bm := fun x vs h => match x, vs with
  | .ref n, [k, d] => match h[n]? with
    | some (.dct kvs) => if keyOk k && Nat.blt kvs.length line then (match kget kvs k with
      | some v => some (v, h)
      | none => some (d, vset h n (.dct (kput kvs k d)))) else none
    | _ => none
  | _, _ => none
def bJoin : Bm := fun x vs h => match x, vs with
  | .str s, [l] => match asSeq l h with
    | some ps => match strsOf ps with
      | some ts => if (ts.map (·.length)).sum + ts.length * s.length ≤ line then some (.str (joinT s ts), h) else none
      | none => none
    | none => none
  | _, _ => none
def bPopL : List PV → List PV → Option (PV × List PV) := fun l vs => match vs with
  | [] => match l[l.length - 1]? with
    | some y => some (y, l.dropLast)
    | none => none
  | [.int i] => match atI l.length i with
    | some j => match l[j]? with
      | some y => some (y, l.eraseIdx j)
      | none => none
    | none => none
  | _ => none
def bPopD : List (PV × PV) → List PV → Option (PV × List (PV × PV)) := fun kvs vs => match vs with
  | [k] => if keyOk k then (match kget kvs k with
    | some v => some (v, kdrop kvs k)
    | none => none) else none
  | [k, d] => if keyOk k then (match kget kvs k with
    | some v => some (v, kdrop kvs k)
    | none => some (d, kvs)) else none
  | _ => none
def bPop : Bm := fun x vs h => match x with
  | .ref n => match h[n]? with
    | some (.lst l) => (bPopL l vs).map fun p => (p.1, vset h n (.lst p.2))
    | some (.dct kvs) => (bPopD kvs vs).map fun p => (p.1, vset h n (.dct p.2))
    | _ => none
  | _ => none
def bNone : Bm := fun _ _ _ => none
def bm (m : String) : Bm := if m = "append" then bAppend else if m = "get" then bGet else if m = "setdefault" then bSetdefault else if m = "join" then bJoin else if m = "pop" then bPop else bNone
end Y

/-! how the values and heaps of Y1 stand in the layer's (HandS), and what each combinator of Y1 is worth there -/
namespace Y
open PySem PySem.Spec PyProof.Rows L2

/-- places: the heap's n-th object stands at the n-th address -/
abbrev Pl := List (Option Addr)
def Has (ρ : Pl) (a : Addr) : Prop := ∃ n : Nat, ρ[n]? = some (some a)
/-- never changed any more -/
def Im (ρ : Pl) (ex : List Addr) (a : Addr) : Prop := ¬ Has ρ a ∧ a ∉ ex
def WrL (K : PySem.W.Frag) (a : Addr) (xs : List V) : Prop := ∃ (o : Obj) (its : Array Value) (n : Nat), K.lookup a = some o ∧ o.cls = .type "list" ∧ o.dict = none ∧ o.data = .seq its n ∧ its.size ≤ sizeLine ∧ Vals xs its.toList
def WrT (K : PySem.W.Frag) (a : Addr) (xs : List V) : Prop := ∃ (o : Obj) (its : Array Value) (n : Nat), K.lookup a = some o ∧ o.cls = .type "tuple" ∧ o.data = .seq its n ∧ its.size ≤ sizeLine ∧ Vals xs its.toList
def chOk (s : List Nat) : Prop := ∀ c ∈ s, c < 0x110000
structure StrR (s : List Nat) (z : Str) : Prop where
  eq : z.cps.toList = s
  len : s.length ≤ line
  ok : chOk s
inductive KeyR : PV → Key → Prop
  | int (i : Int) : KeyR (.int i) (.inl i)
  | str {s : List Nat} {z : Str} : StrR s z → KeyR (.str s) (.inr z)
mutual
inductive Rv (K : PySem.W.Frag) (ρ : Pl) (ex : List Addr) (H : Hp) : PV → V → Prop
  | non : Rv K ρ ex H .non .non
  | bl (b : Bool) : Rv K ρ ex H (.bl b) (.bl b)
  | int (i : Int) : Rv K ρ ex H (.int i) (.int i)
  | str {s : List Nat} {z : Str} : StrR s z → Rv K ρ ex H (.str s) (.str z)
  | tup {a : Addr} {vs : List V} {l : List PV} : (Rd H a (.tup vs) ∧ Im ρ ex a) ∨ WrT K a vs → Rvs K ρ ex H l vs → Rv K ρ ex H (.tup l) (.ref a)
  | lst {a : Addr} {vs : List V} {l : List PV} : H a = some (.lst vs) → Im ρ ex a → Rvs K ρ ex H l vs → Rv K ρ ex H (.lst l) (.ref a)
  | scr {a : Addr} {l : List Int} : (Rd H a (.lst (l.map V.int)) ∧ Im ρ ex a) ∨ WrL K a (l.map V.int) → Rv K ρ ex H (.scr l) (.ref a)
  | dct {a : Addr} {kvs : List (Key × V)} {l : List (PV × PV)} : Rd H a (.dK kvs) → Im ρ ex a → Rks K ρ ex H l kvs → Rv K ρ ex H (.dct l) (.ref a)
  | ref {n : Nat} {a : Addr} : ρ[n]? = some (some a) → Rv K ρ ex H (.ref n) (.ref a)
inductive Rvs (K : PySem.W.Frag) (ρ : Pl) (ex : List Addr) (H : Hp) : List PV → List V → Prop
  | nil : Rvs K ρ ex H [] []
  | cons {d : PV} {v : V} {ds : List PV} {vs : List V} : Rv K ρ ex H d v → Rvs K ρ ex H ds vs → Rvs K ρ ex H (d :: ds) (v :: vs)
inductive Rks (K : PySem.W.Frag) (ρ : Pl) (ex : List Addr) (H : Hp) : List (PV × PV) → List (Key × V) → Prop
  | nil : Rks K ρ ex H [] []
  | cons {k d : PV} {k' : Key} {v : V} {ds : List (PV × PV)} {vs : List (Key × V)} : KeyR k k' → Rv K ρ ex H d v → Rks K ρ ex H ds vs → Rks K ρ ex H ((k, d) :: ds) ((k', v) :: vs)
end

/-- from one heap to a later one: what does not stand in places is kept, new places are new addresses -/
structure Kp (ρ : Pl) (H : Hp) (ρ' : Pl) (H' : Hp) : Prop where
  up : ∀ (n : Nat) (a : Addr), ρ[n]? = some (some a) → ρ'[n]? = some (some a)
  keep : ∀ a o, H a = some o → ¬ Has ρ a → H' a = some o
  new : ∀ a, Has ρ' a → Has ρ a ∨ H a = none
theorem Kp.refl (ρ : Pl) (H : Hp) : Kp ρ H ρ H := ⟨fun _ _ h => h, fun _ _ h _ => h, fun _ h => .inl h⟩
theorem Kp.has {ρ ρ' : Pl} {H H' : Hp} (k : Kp ρ H ρ' H') {a : Addr} (h : Has ρ a) : Has ρ' a := let ⟨n, e⟩ := h; ⟨n, k.up n a e⟩
theorem Kp.nhas {ρ ρ' : Pl} {H H' : Hp} (k : Kp ρ H ρ' H') {a : Addr} {o : HO} (h : ¬ Has ρ a) (e : H a = some o) : ¬ Has ρ' a := fun q => by
  rcases k.new a q with q | q
  · exact h q
  · rw [e] at q; cases q
theorem Kp.trans {ρ ρ1 ρ2 : Pl} {H H1 H2 : Hp} (a : Kp ρ H ρ1 H1) (b : Kp ρ1 H1 ρ2 H2) : Kp ρ H ρ2 H2 where
  up := fun n x h => b.up n x (a.up n x h)
  keep := fun x o h n => b.keep x o (a.keep x o h n) (a.nhas n h)
  new := fun x h => by
    rcases b.new x h with h | h
    · exact a.new x h
    · by_cases q : Has ρ x
      · exact .inl q
      · refine .inr ?_
        cases e : H x with
        | none => rfl
        | some o => rw [a.keep x o e q] at h; cases h

section
variable {K : PySem.W.Frag} {ρ ρ' : Pl} {ex ex' : List Addr} {H H' : Hp}
theorem Kp.im (k : Kp ρ H ρ' H') (hx : ∀ a ∈ ex', a ∈ ex ∨ H a = none) {a : Addr} {o : HO} (h : Im ρ ex a) (e : H a = some o) : H' a = some o ∧ Im ρ' ex' a :=
  ⟨k.keep a o e h.1, k.nhas h.1 e, fun q => (hx a q).elim h.2 fun z => by rw [e] at z; cases z⟩
theorem Kp.rd (k : Kp ρ H ρ' H') (hx : ∀ a ∈ ex', a ∈ ex ∨ H a = none) {a : Addr} {u : HO} (h : Im ρ ex a) (e : Rd H a u) : Rd H' a u ∧ Im ρ' ex' a := by
  rcases e with e | ⟨o, e⟩
  · exact ⟨.inl (k.im hx h e).1, (k.im hx h e).2⟩
  · exact ⟨.inr ⟨o, (k.im hx h e).1⟩, (k.im hx h e).2⟩
mutual
theorem Rv.mono (k : Kp ρ H ρ' H') (hx : ∀ a ∈ ex', a ∈ ex ∨ H a = none) : ∀ (d : PV) (v : V), Rv K ρ ex H d v → Rv K ρ' ex' H' d v
  | .non, _, h => by cases h; exact .non
  | .bl _, _, h => by cases h; exact .bl _
  | .int _, _, h => by cases h; exact .int _
  | .str _, _, h => by cases h with | str e => exact .str e
  | .tup l, _, h => by
    cases h with
    | tup e r =>
      refine .tup ?_ (Rvs.mono k hx l _ r)
      rcases e with ⟨e, i⟩ | e
      · exact .inl (k.rd hx i e)
      · exact .inr e
  | .lst l, _, h => by
    cases h with
    | lst e i r => exact .lst (k.im hx i e).1 (k.im hx i e).2 (Rvs.mono k hx l _ r)
  | .scr l, _, h => by
    cases h with
    | scr e =>
      refine .scr ?_
      rcases e with ⟨e, i⟩ | e
      · exact .inl (k.rd hx i e)
      · exact .inr e
  | .dct l, _, h => by
    cases h with
    | dct e i r => exact .dct (k.rd hx i e).1 (k.rd hx i e).2 (Rks.mono k hx l _ r)
  | .ref n, _, h => by cases h with | ref e => exact .ref (k.up _ _ e)
  | .exn _ _, _, h => by cases h
theorem Rvs.mono (k : Kp ρ H ρ' H') (hx : ∀ a ∈ ex', a ∈ ex ∨ H a = none) : ∀ (ds : List PV) (vs : List V), Rvs K ρ ex H ds vs → Rvs K ρ' ex' H' ds vs
  | [], _, h => by cases h; exact .nil
  | d :: ds, _, h => by cases h with | cons a r => exact .cons (Rv.mono k hx d _ a) (Rvs.mono k hx ds _ r)
theorem Rks.mono (k : Kp ρ H ρ' H') (hx : ∀ a ∈ ex', a ∈ ex ∨ H a = none) : ∀ (ds : List (PV × PV)) (vs : List (Key × V)), Rks K ρ ex H ds vs → Rks K ρ' ex' H' ds vs
  | [], _, h => by cases h; exact .nil
  | (_, d) :: ds, _, h => by cases h with | cons e a r => exact .cons e (Rv.mono k hx d _ a) (Rks.mono k hx ds _ r)
end
theorem Rvs.length : ∀ {ds : List PV} {vs : List V}, Rvs K ρ ex H ds vs → ds.length = vs.length
  | [], _, h => by cases h; rfl
  | _ :: _, _, h => by cases h with | cons _ r => rw [List.length_cons, List.length_cons, r.length]
theorem Rks.length : ∀ {ds : List (PV × PV)} {vs : List (Key × V)}, Rks K ρ ex H ds vs → ds.length = vs.length
  | [], _, h => by cases h; rfl
  | _ :: _, _, h => by cases h with | cons _ _ r => rw [List.length_cons, List.length_cons, r.length]
theorem Rvs.append : ∀ {ds es : List PV} {vs ws : List V}, Rvs K ρ ex H ds vs → Rvs K ρ ex H es ws → Rvs K ρ ex H (ds ++ es) (vs ++ ws)
  | [], _, _, _, h, g => by cases h; exact g
  | _ :: _, _, _, _, h, g => by cases h with | cons a r => exact .cons a (r.append g)
theorem Rvs.get : ∀ {ds : List PV} {vs : List V} {i : Nat} {d : PV}, Rvs K ρ ex H ds vs → ds[i]? = some d → ∃ v, vs[i]? = some v ∧ Rv K ρ ex H d v
  | [], _, _, _, h, e => by simp at e
  | _ :: _, _, 0, _, h, e => by cases h with | cons a r => simp at e; subst e; exact ⟨_, rfl, a⟩
  | _ :: _, _, i + 1, _, h, e => by
    cases h with
    | cons a r =>
      obtain ⟨v, h1, h2⟩ := Rvs.get (i := i) r (by simpa using e)
      exact ⟨v, by simpa using h1, h2⟩
theorem Rvs.getV : ∀ {ds : List PV} {vs : List V} {i : Nat} {v : V}, Rvs K ρ ex H ds vs → vs[i]? = some v → ∃ d, ds[i]? = some d ∧ Rv K ρ ex H d v
  | [], _, _, _, h, e => by cases h; simp at e
  | _ :: _, _, 0, _, h, e => by cases h with | cons a r => simp at e; subst e; exact ⟨_, rfl, a⟩
  | _ :: _, _, i + 1, _, h, e => by
    cases h with
    | cons a r =>
      obtain ⟨v, h1, h2⟩ := Rvs.getV (i := i) r (by simpa using e)
      exact ⟨v, by simpa using h1, h2⟩
theorem Rvs.drop : ∀ {ds : List PV} {vs : List V} (n : Nat), Rvs K ρ ex H ds vs → Rvs K ρ ex H (ds.drop n) (vs.drop n)
  | _, _, 0, h => h
  | [], _, _ + 1, h => by cases h; exact .nil
  | _ :: _, _, n + 1, h => by cases h with | cons _ r => exact r.drop n
theorem Rvs.take : ∀ {ds : List PV} {vs : List V} (n : Nat), Rvs K ρ ex H ds vs → Rvs K ρ ex H (ds.take n) (vs.take n)
  | _, _, 0, h => .nil
  | [], _, _ + 1, h => by cases h; exact .nil
  | _ :: _, _, n + 1, h => by cases h with | cons a r => exact .cons a (r.take n)
theorem Rvs.set : ∀ {ds : List PV} {vs : List V} (n : Nat) {d : PV} {v : V}, Rvs K ρ ex H ds vs → Rv K ρ ex H d v → Rvs K ρ ex H (ds.set n d) (vs.set n v)
  | [], _, _, _, _, h, _ => by cases h; exact .nil
  | _ :: _, _, 0, _, _, h, g => by cases h with | cons a r => exact .cons g r
  | _ :: _, _, n + 1, _, _, h, g => by cases h with | cons a r => exact .cons a (r.set n g)
theorem Rvs.rep : ∀ {ds : List PV} {vs : List V} (n : Nat), Rvs K ρ ex H ds vs → Rvs K ρ ex H (Y.rep ds n) (Y.rep vs n)
  | _, _, 0, _ => .nil
  | _, _, n + 1, h => h.append (h.rep n)
theorem Rvs.snoc {ds : List PV} {vs : List V} {d : PV} {v : V} (h : Rvs K ρ ex H ds vs) (g : Rv K ρ ex H d v) : Rvs K ρ ex H (ds ++ [d]) (vs ++ [v]) := h.append (.cons g .nil)
end

/-! ### the classes and fields of a text: their numbers -/
structure Tab where
  cls : List Addr
  fnm : List Str
  ok : Nat → Nat → Bool
  exc : List Addr
/-- what is taken of these of the text's written part -/
structure Tab.Ok (T : Tab) (K : PySem.W.Frag) : Prop where
  cl : ∀ (c : Nat) (C : Addr), T.cls[c]? = some C → Cls K C
  nd : T.fnm.Nodup
  no : ∀ (c : Nat) (C : Addr) (f : Nat) (x : Str), T.cls[c]? = some C → T.ok c f = true → T.fnm[f]? = some x → NoAttr K C x

section
variable (T : Tab) (K : PySem.W.Frag) (ρ : Pl) (ex : List Addr) (H : Hp)
inductive Rfs : List (Nat × PV) → List (Str × V) → Prop
  | nil : Rfs [] []
  | cons {f : Nat} {x : Str} {d : PV} {v : V} {ds : List (Nat × PV)} {vs : List (Str × V)} : T.fnm[f]? = some x → Rv K ρ ex H d v → Rfs ds vs → Rfs ((f, d) :: ds) ((x, v) :: vs)
/-- an object and where it stands -/
def Ro : VO → Option Addr → Prop
  | .gone, p => p = none
  | .lst l, p => ∃ a vs, p = some a ∧ H a = some (.lst vs) ∧ Rvs K ρ ex H l vs
  | .dct l, p => ∃ a kvs, p = some a ∧ H a = some (.dK kvs) ∧ Rks K ρ ex H l kvs
  | .ldct l, p => ∃ a o kvs, p = some a ∧ H a = some (.frz o (.dK kvs)) ∧ Rks K ρ ex H l kvs
  | .ins c fs, p => ∃ a C dx gs, p = some a ∧ H a = some (.ins C dx gs) ∧ T.cls[c]? = some C ∧ (∀ p ∈ fs, T.ok c p.1 = true) ∧ Rfs T K ρ ex H fs gs
structure Rh (h : VH) : Prop where
  len : ρ.length = h.length
  inj : ∀ (n m : Nat) (a : Addr), ρ[n]? = some (some a) → ρ[m]? = some (some a) → n = m
  exs : ∀ a ∈ ex, H a ≠ none ∧ ¬ Has ρ a
  ob : ∀ (n : Nat) (o : VO) (p : Option Addr), h[n]? = some o → ρ[n]? = some p → Ro T K ρ ex H o p
/-- the slots -/
structure Rst (sl : Sl) (σ : L2.St) : Prop where
  len : sl.length = σ.length
  at_ : ∀ (i : Nat) (v : PV), sl[i]? = some (some v) → notExn v = true → ∃ x, σ[i]? = some (some x) ∧ Rv K ρ ex H v x
end
section
variable {T : Tab} {K : PySem.W.Frag} {ρ ρ' : Pl} {ex ex' : List Addr} {H H' : Hp}
theorem Rfs.mono (k : Kp ρ H ρ' H') (hx : ∀ a ∈ ex', a ∈ ex ∨ H a = none) : ∀ {fs : List (Nat × PV)} {gs : List (Str × V)}, Rfs T K ρ ex H fs gs → Rfs T K ρ' ex' H' fs gs
  | _, _, .nil => .nil
  | _, _, .cons e r q => .cons e (r.mono k hx) (q.mono k hx)
theorem Rfs.length : ∀ {fs : List (Nat × PV)} {gs : List (Str × V)}, Rfs T K ρ ex H fs gs → fs.length = gs.length
  | _, _, .nil => rfl
  | _, _, .cons e r q => by rw [List.length_cons, List.length_cons, q.length]
theorem Rst.mono {sl : Sl} {σ : L2.St} (k : Kp ρ H ρ' H') (hx : ∀ a ∈ ex', a ∈ ex ∨ H a = none) (r : Rst K ρ ex H sl σ) : Rst K ρ' ex' H' sl σ :=
  ⟨r.len, fun i v e n => let ⟨x, h1, h2⟩ := r.at_ i v e n; ⟨x, h1, h2.mono k hx⟩⟩
theorem Rst.set {sl : Sl} {σ : L2.St} {v : PV} {x : V} (r : Rst K ρ ex H sl σ) (i : Nat) (h : Rv K ρ ex H v x) : Rst K ρ ex H (sl.set i (some v)) (σ.set i (some x)) := by
  refine ⟨by rw [List.length_set, List.length_set]; exact r.len, fun j w e n => ?_⟩
  by_cases hj : i = j
  · subst hj
    by_cases hi : i < sl.length
    · rw [List.getElem?_set_self hi] at e
      cases e
      exact ⟨x, List.getElem?_set_self (by rw [← r.len]; exact hi), h⟩
    · rw [List.getElem?_eq_none (by rw [List.length_set]; omega)] at e; cases e
  · rw [List.getElem?_set_ne hj] at e
    obtain ⟨y, h1, h2⟩ := r.at_ j w e n
    exact ⟨y, by rw [List.getElem?_set_ne hj]; exact h1, h2⟩
theorem Rst.setN {sl : Sl} {σ : L2.St} (r : Rst K ρ ex H sl σ) (i : Nat) : Rst K ρ ex H (sl.set i none) (σ.set i none) := by
  refine ⟨by rw [List.length_set, List.length_set]; exact r.len, fun j w e n => ?_⟩
  by_cases hj : i = j
  · subst hj
    by_cases hi : i < sl.length
    · rw [List.getElem?_set_self hi] at e; cases e
    · rw [List.getElem?_eq_none (by rw [List.length_set]; omega)] at e; cases e
  · rw [List.getElem?_set_ne hj] at e
    obtain ⟨y, h1, h2⟩ := r.at_ j w e n
    exact ⟨y, by rw [List.getElem?_set_ne hj]; exact h1, h2⟩
theorem Rst.wipe {sl : Sl} {σ : L2.St} (r : Rst K ρ ex H sl σ) : ∀ vs : List Nat, Rst K ρ ex H (Y.wipe sl vs) (L2.wipe σ vs)
  | [] => r
  | v :: vs => (r.wipe vs).setN v
/-- nothing of the heap's own changes, a new address is laid -/
theorem Kp.laid {p : Addr} {o : HO} (hp : H p = none) : Kp ρ H ρ (upd H p o) :=
  ⟨fun _ _ h => h, fun a u e _ => by rw [upd_ne (ne_of_none e hp)]; exact e, fun _ h => .inl h⟩
theorem Ro.mono (k : Kp ρ H ρ' H') (hx : ∀ a ∈ ex', a ∈ ex ∨ H a = none) {o : VO} {p : Option Addr} (hs : ∀ a, p = some a → H' a = H a) (r : Ro T K ρ ex H o p) : Ro T K ρ' ex' H' o p := by
  cases o with
  | gone => exact r
  | lst l =>
    obtain ⟨a, vs, e1, e2, r⟩ := r
    exact ⟨a, vs, e1, by rw [hs a e1]; exact e2, Rvs.mono k hx _ _ r⟩
  | dct l =>
    obtain ⟨a, vs, e1, e2, r⟩ := r
    exact ⟨a, vs, e1, by rw [hs a e1]; exact e2, Rks.mono k hx _ _ r⟩
  | ldct l =>
    obtain ⟨a, o, vs, e1, e2, r⟩ := r
    exact ⟨a, o, vs, e1, by rw [hs a e1]; exact e2, Rks.mono k hx _ _ r⟩
  | ins c fs =>
    obtain ⟨a, C, dx, gs, e1, e2, e3, e4, r⟩ := r
    exact ⟨a, C, dx, gs, e1, by rw [hs a e1]; exact e2, e3, e4, r.mono k hx⟩
theorem Rh.has {h : VH} (r : Rh T K ρ ex H h) {a : Addr} (q : Has ρ a) : ∃ o, H a = some o := by
  obtain ⟨n, e⟩ := q
  have hn : n < h.length := by rw [← r.len]; exact (List.getElem?_eq_some_iff.mp e).1
  have hb := r.ob n h[n] (some a) (List.getElem?_eq_getElem hn) e
  cases hh : h[n] with
  | gone => rw [hh] at hb; cases hb
  | lst l => rw [hh] at hb; obtain ⟨_, _, e1, e2, _⟩ := hb; cases e1; exact ⟨_, e2⟩
  | dct l => rw [hh] at hb; obtain ⟨_, _, e1, e2, _⟩ := hb; cases e1; exact ⟨_, e2⟩
  | ldct l => rw [hh] at hb; obtain ⟨_, _, _, e1, e2, _⟩ := hb; cases e1; exact ⟨_, e2⟩
  | ins c fs => rw [hh] at hb; obtain ⟨_, _, _, _, e1, e2, _⟩ := hb; cases e1; exact ⟨_, e2⟩
/-- a new address that no place takes -/
theorem Rh.laid {h : VH} {p : Addr} {o : HO} (r : Rh T K ρ ex H h) (hp : H p = none) : Rh T K ρ ex (upd H p o) h := by
  have k : Kp ρ H ρ (upd H p o) := Kp.laid hp
  refine ⟨r.len, r.inj, fun a ha => ⟨?_, (r.exs a ha).2⟩, fun n ob q e1 e2 => ?_⟩
  · by_cases e : a = p
    · subst e; rw [upd_same]; exact fun z => by cases z
    · rw [upd_ne e]; exact (r.exs a ha).1
  · refine (r.ob n ob q e1 e2).mono k (fun a ha => .inl ha) fun a ea => ?_
    subst ea
    obtain ⟨u, eu⟩ := r.has ⟨n, e2⟩
    exact upd_ne (ne_of_none eu hp)
end
end Y

namespace Y
open PySem PySem.Spec PyProof.Rows L2

/-- an exception of the text's own in the layer's heap: its class, its own dict -/
def Rx (T : Tab) (K : PySem.W.Frag) (ρ : Pl) (ex : List Addr) (H : Hp) (c : Nat) (fs : List (Nat × PV)) (cls : Value) (d : Option Addr) : Prop :=
  ∃ C, T.exc[c]? = some C ∧ cls = .ref C ∧ ((fs = [] ∧ d = none) ∨ ∃ dd gs, d = some dd ∧ H dd = some (.xd gs) ∧ Im ρ ex dd ∧ Rfs T K ρ ex H fs gs)

section
variable (T : Tab) (K : PySem.W.Frag) (W : WX) (ρ : Pl) (ex : List Addr) (σ : L2.St) (H : Hp)
/-- what a result is worth: k of what comes, W of what is raised -/
def Fin {α : Type} (r : R α) (k : α → VH → Pl → Hp → Prop) : Prop := match r with
  | .ok a h' => ∀ ρ' H', Kp ρ H ρ' H' → Rh T K ρ' ex H' h' → k a h' ρ' H'
  | .exc c fs h' => ∀ ρ' H' cls d, Kp ρ H ρ' H' → Rh T K ρ' ex H' h' → Rx T K ρ' ex H' c fs cls d → W cls d σ H'
  | .bad => False
end
section
variable {T : Tab} {K : PySem.W.Frag} {W : WX} {ρ ρ1 : Pl} {ex : List Addr} {σ : L2.St} {H H1 : Hp} {α β : Type}
theorem Fin.imp {r : R α} {k k' : α → VH → Pl → Hp → Prop} (h : Fin T K W ρ ex σ H r k) (f : ∀ a h' ρ' H', Kp ρ H ρ' H' → Rh T K ρ' ex H' h' → k a h' ρ' H' → k' a h' ρ' H') : Fin T K W ρ ex σ H r k' := by
  cases r with
  | ok a h' => exact fun ρ' H' kp rh => f _ _ _ _ kp rh (h ρ' H' kp rh)
  | exc c fs h' => exact h
  | bad => exact h
theorem Fin.later {r : R α} {k : α → VH → Pl → Hp → Prop} (h : Fin T K W ρ ex σ H r k) (kp : Kp ρ H ρ1 H1) : Fin T K W ρ1 ex σ H1 r k := by
  cases r with
  | ok a h' => exact fun ρ' H' kp' rh => h ρ' H' (kp.trans kp') rh
  | exc c fs h' => exact fun ρ' H' cls d kp' rh rx => h ρ' H' cls d (kp.trans kp') rh rx
  | bad => exact h
theorem Fin.bnd {r : R α} {f : α → VH → R β} {k : β → VH → Pl → Hp → Prop} (h : Fin T K W ρ ex σ H (r.bnd f) k) : Fin T K W ρ ex σ H r fun a h1 ρ1 H1 => Fin T K W ρ1 ex σ H1 (f a h1) k := by
  cases r with
  | ok a h' => exact fun ρ' H' kp rh => Fin.later h kp
  | exc c fs h' => exact h
  | bad => exact h
end

/-! ### readings -/
section
variable (T : Tab) (K : PySem.W.Frag) (W : WX)
def rdE (m : EM) : TE := fun σ H Q => ∃ ρ ex sl h, Rst K ρ ex H sl σ ∧ Rh T K ρ ex H h ∧ Fin T K W ρ ex σ H (m sl h) fun v _ ρ' H' => ∀ x, Rv K ρ' ex H' v x → Q x H'
def rdT (m : TM) : TT := fun σ H Q => ∃ ρ ex sl h, Rst K ρ ex H sl σ ∧ Rh T K ρ ex H h ∧ Fin T K W ρ ex σ H (m sl h) fun b _ _ H' => Q b H'
def rdA (m : AM) : TA := fun σ H Q => ∃ ρ ex sl h, Rst K ρ ex H sl σ ∧ Rh T K ρ ex H h ∧ Fin T K W ρ ex σ H (m sl h) fun vs _ ρ' H' => ∀ xs, Rvs K ρ' ex H' vs xs → Q xs H'
def rdO (m : OM) : TO := fun σ H Q => ∃ ρ ex sl h, Rst K ρ ex H sl σ ∧ Rh T K ρ ex H h ∧ Fin T K W ρ ex σ H (m sl h) fun o _ _ H' => Q o H'
/-- new rows: at an address that nothing knows -/
def rdL (m : AM) : TE := fun σ H Q => ∃ ρ ex sl h, Rst K ρ ex H sl σ ∧ Rh T K ρ ex H h ∧ Fin T K W ρ ex σ H (m sl h) fun l h1 ρ' H' => ∀ p xs H2, H' p = none → H2 = upd H' p (.lst xs) → xs.length ≤ line → Rvs K ρ' ex H' l xs → Q (.ref p) H2
end

section
variable {X : Cx} {T : Tab} {K : PySem.W.Frag} {W : WX}
theorem imE {e : Expr} {t t' : TE} (h : PE X e t) (f : ∀ σ H Q, t' σ H Q → t σ H Q) : PE X e t' := ⟨fun pins s σ H Q I q => h.run pins s σ H Q I (f σ H Q q)⟩
theorem imT {e : Expr} {t t' : TT} (h : PT X e t) (f : ∀ σ H Q, t' σ H Q → t σ H Q) : PT X e t' := ⟨fun pins s σ H Q I q => h.run pins s σ H Q I (f σ H Q q)⟩
theorem imW {e : Expr} {t t' : TT} (h : PW X e t) (f : ∀ σ H Q, t' σ H Q → t σ H Q) : PW X e t' := ⟨fun wh pins s σ H Q I q => h.run wh pins s σ H Q I (f σ H Q q)⟩
theorem imA {es : List Expr} {t t' : TA} (h : PA X es t) (f : ∀ σ H Q, t' σ H Q → t σ H Q) : PA X es t' := ⟨fun pos pins s σ H Q I q => h.run pos pins s σ H Q I (f σ H Q q)⟩
theorem imO {e : Option Expr} {t t' : TO} (h : PO X e t) (f : ∀ σ H Q, t' σ H Q → t σ H Q) : PO X e t' := ⟨fun pins s σ H Q I q => h.run pins s σ H Q I (f σ H Q q)⟩
theorem badE {e : Expr} : PE X e (rdE T K W mBad) := ⟨fun _ _ _ _ _ _ ⟨_, _, _, _, _, _, q⟩ => q.elim⟩
theorem badT {e : Expr} : PT X e (rdT T K W mBad) := ⟨fun _ _ _ _ _ _ ⟨_, _, _, _, _, _, q⟩ => q.elim⟩
theorem badA {e : List Expr} : PA X e (rdA T K W mBad) := ⟨fun _ _ _ _ _ _ _ ⟨_, _, _, _, _, _, q⟩ => q.elim⟩

/-! #### two operands, one, arguments -/
def rO2 (T : Tab) (K : PySem.W.Frag) (f : PV → PV → VH → Option PV) : R2 := fun x y H Q => ∃ ρ ex h u v w, Rh T K ρ ex H h ∧ Rv K ρ ex H u x ∧ Rv K ρ ex H v y ∧ f u v h = some w ∧
  ∀ ρ' H' z, Kp ρ H ρ' H' → Rh T K ρ' ex H' h → Rv K ρ' ex H' w z → Q z H'
def rO1 (T : Tab) (K : PySem.W.Frag) (f : PV → VH → Option PV) : V → Hp → VK → Prop := fun x H Q => ∃ ρ ex h u w, Rh T K ρ ex H h ∧ Rv K ρ ex H u x ∧ f u h = some w ∧
  ∀ ρ' H' z, Kp ρ H ρ' H' → Rh T K ρ' ex H' h → Rv K ρ' ex H' w z → Q z H'
def rOA (T : Tab) (K : PySem.W.Frag) (f : List PV → VH → Option PV) : List V → Hp → VK → Prop := fun xs H Q => ∃ ρ ex h us w, Rh T K ρ ex H h ∧ Rvs K ρ ex H us xs ∧ f us h = some w ∧
  ∀ ρ' H' z, Kp ρ H ρ' H' → Rh T K ρ' ex H' h → Rv K ρ' ex H' w z → Q z H'
theorem Fin.retO {ρ : Pl} {ex : List Addr} {σ : L2.St} {H : Hp} {α : Type} {o : Option α} {h : VH} {k : α → VH → Pl → Hp → Prop} (f : Fin T K W ρ ex σ H (Y.retO o h) k) : ∃ w, o = some w ∧ ∀ ρ' H', Kp ρ H ρ' H' → Rh T K ρ' ex H' h → k w h ρ' H' := by
  cases o with
  | none => exact f.elim
  | some w => exact ⟨w, rfl, f⟩
theorem noex {ex : List Addr} {H : Hp} : ∀ a ∈ ex, a ∈ ex ∨ H a = none := fun _ h => .inl h
theorem rd_op2 {f : PV → PV → VH → Option PV} {a b : EM} {σ : L2.St} {H : Hp} {Q : VK} (h : rdE T K W (mOp2 f a b) σ H Q) : tOp (rO2 T K f) (rdE T K W a) (rdE T K W b) σ H Q := by
  obtain ⟨ρ, ex, sl, hp, rs, rh, q⟩ := h
  refine ⟨ρ, ex, sl, hp, rs, rh, q.bnd.imp fun u h1 ρ1 H1 k1 rh1 q1 x rx => ?_⟩
  refine ⟨ρ1, ex, sl, h1, rs.mono k1 noex, rh1, q1.bnd.imp fun v h2 ρ2 H2 k2 rh2 q2 y ry => ?_⟩
  obtain ⟨w, e, q3⟩ := q2.retO
  exact ⟨ρ2, ex, h2, u, v, w, rh2, rx.mono k2 noex, ry, e, fun ρ' H' z kp rh' rz => q3 ρ' H' kp rh' z rz⟩
theorem rd_op1 {f : PV → VH → Option PV} {a : EM} {σ : L2.St} {H : Hp} {Q : VK} (h : rdE T K W (mOp1 f a) σ H Q) : tUn (rO1 T K f) (rdE T K W a) σ H Q := by
  obtain ⟨ρ, ex, sl, hp, rs, rh, q⟩ := h
  refine ⟨ρ, ex, sl, hp, rs, rh, q.bnd.imp fun u h1 ρ1 H1 k1 rh1 q1 x rx => ?_⟩
  obtain ⟨w, e, q3⟩ := q1.retO
  exact ⟨ρ1, ex, h1, u, w, rh1, rx, e, fun ρ' H' z kp rh' rz => q3 ρ' H' kp rh' z rz⟩
theorem e_var {i : Nat} {x : Str} {pos : Pos} (hN : X.N[i]? = some x) (hv : Vis X.env.scope x) (hd : (x == ("__debug__" : Str)) = false) (hcd : (x == ("__classdict__" : Str)) = false) : PE X (.Name x pos) (rdE T K W (mVar i)) := by
  refine imE (pe_var hN hv hd hcd) fun σ H Q h => ?_
  obtain ⟨ρ, ex, sl, hp, rs, rh, q⟩ := h
  unfold mVar at q
  split at q
  · rename_i v e
    split at q
    · rename_i hn
      obtain ⟨y, e1, r⟩ := rs.at_ i v e hn
      exact ⟨y, e1, q ρ H (Kp.refl _ _) rh y r⟩
    · exact q.elim
  · exact q.elim
theorem rd_c {v : PV} {z : V} {σ : L2.St} {H : Hp} {Q : VK} (hv : ∀ ρ ex, Rv K ρ ex H v z) (h : rdE T K W (mC v) σ H Q) : tC z σ H Q := by
  obtain ⟨ρ, ex, sl, hp, rs, rh, q⟩ := h
  exact q ρ H (Kp.refl _ _) rh z (hv ρ ex)
theorem e_int {i : Int} {j : Nat} {pos : Pos} : PE X (.Constant (.int i) j pos) (rdE T K W (mC (.int i))) := imE pe_int fun _ _ _ h => rd_c (fun _ _ => .int _) h
theorem e_bl {b : Bool} {j : Nat} {pos : Pos} : PE X (.Constant (.bool b) j pos) (rdE T K W (mC (.bl b))) := imE pe_bl fun _ _ _ h => rd_c (fun _ _ => .bl _) h
theorem e_non {j : Nat} {pos : Pos} : PE X (.Constant .none j pos) (rdE T K W (mC .non)) := imE pe_non fun _ _ _ h => rd_c (fun _ _ => .non) h
theorem e_str {x : Str} {j : Nat} {pos : Pos} (hl : x.cps.toList.length ≤ line) (ho : chOk x.cps.toList) : PE X (.Constant (.str x) j pos) (rdE T K W (mC (.str x.cps.toList))) := imE pe_str fun _ _ _ h => rd_c (fun _ _ => .str ⟨rfl, hl, ho⟩) h
theorem e_op2 {op : Operator} {f : PV → PV → VH → Option PV} {a b : Expr} {ma mb : EM} {pos : Pos} (ho : OpR X (binaryOp op) (rO2 T K f)) (ha : PE X a (rdE T K W ma)) (hb : PE X b (rdE T K W mb)) : PE X (.BinOp a op b pos) (rdE T K W (mOp2 f ma mb)) :=
  imE (pe_op ho ha hb) fun _ _ _ h => rd_op2 h
theorem e_cmp {op : CmpOp} {f : PV → PV → VH → Option PV} {a b : Expr} {ma mb : EM} {pos : Pos} (ho : OpR X (compareOp op) (rO2 T K f)) (ha : PE X a (rdE T K W ma)) (hb : PE X b (rdE T K W mb)) (hm : behindInMarks op b = false) : PE X (.Compare a [op] [b] pos) (rdE T K W (mOp2 f ma mb)) :=
  imE (pe_cmpR ho ha hb hm) fun _ _ _ h => rd_op2 h
theorem e_un {op : UnaryOp} {f : PV → VH → Option PV} {a : Expr} {ma : EM} {pos : Pos} (ho : UnR X (unaryOp op) (rO1 T K f)) (ha : PE X a (rdE T K W ma)) : PE X (.UnaryOp op a pos) (rdE T K W (mOp1 f ma)) :=
  imE (pe_un ho ha) fun _ _ _ h => rd_op1 h
theorem e_ix {f : PV → PV → VH → Option PV} {a b : Expr} {ma mb : EM} {pos : Pos} (ho : IxR X (rO2 T K f)) (ha : PE X a (rdE T K W ma)) (hb : PE X b (rdE T K W mb)) (hs : PlainIx b) : PE X (.Subscript a b pos) (rdE T K W (mOp2 f ma mb)) :=
  imE (pe_ix ho ha hb hs) fun _ _ _ h => rd_op2 h

/-! #### tests -/
theorem rd_test {m : EM} {σ : L2.St} {H : Hp} {Q : Bool → Hp → Prop} (h : rdT T K W (mTest m) σ H Q) : tB (rdE T K W m) σ H Q := by
  obtain ⟨ρ, ex, sl, hp, rs, rh, q⟩ := h
  refine ⟨ρ, ex, sl, hp, rs, rh, q.bnd.imp fun u h1 ρ1 H1 k1 rh1 q1 x rx => ?_⟩
  cases u with
  | bl b => cases rx; exact ⟨b, rfl, q1 ρ1 H1 (Kp.refl _ _) rh1⟩
  | _ => exact q1.elim
theorem t_cmp {op : CmpOp} {f : PV → PV → VH → Option PV} {a b : Expr} {ma mb : EM} {pos : Pos} (ho : OpR X (compareOp op) (rO2 T K f)) (ha : PE X a (rdE T K W ma)) (hb : PE X b (rdE T K W mb)) (hm : behindInMarks op b = false) : PT X (.Compare a [op] [b] pos) (rdT T K W (mTest (mOp2 f ma mb))) :=
  imT (pt_cmpR ho ha hb hm) fun σ H Q h => by
    have h2 := rd_test h
    obtain ⟨ρ, ex, sl, hp, rs, rh, q⟩ := h2
    exact rd_op2 ⟨ρ, ex, sl, hp, rs, rh, q⟩
theorem t_val {e : Expr} {m : EM} (h : PE X e (rdE T K W m)) (he : ∀ whole, isTrue e X.env whole = (do let v ← whole; standAt e.pos; holding [v] (truthy v))) : PT X e (rdT T K W (mTest m)) :=
  imT (pt_val h he) fun _ _ _ h => rd_test h
theorem tru {ρ : Pl} {ex : List Addr} {H : Hp} {h h' : VH} {u : PV} {x : V} {b : Bool} (rh : Rh T K ρ ex H h) (rx : Rv K ρ ex H u x) (e : truth u h = .ok b h') : TruV K x H b ∧ h' = h := by
  cases u with
  | non => cases rx; cases e; exact ⟨rfl, rfl⟩
  | bl c => cases rx; cases e; exact ⟨rfl, rfl⟩
  | int i => cases rx; cases e; exact ⟨rfl, rfl⟩
  | str s =>
    cases rx with
    | str r =>
      cases e
      refine ⟨?_, rfl⟩
      rename_i z
      have e1 : z.length = s.length := by rw [← r.eq]; rfl
      refine ⟨by rw [e1]; exact r.len, ?_⟩
      rw [e1]
      cases s <;> rfl
  | tup l =>
    cases rx with
    | tup a r =>
      cases e
      refine ⟨.inr (.inl ⟨_, a.elim (fun z => .inl z.1) .inr, ?_⟩), rfl⟩
      cases r <;> rfl
  | lst l =>
    cases rx with
    | lst a _ r =>
      cases e
      refine ⟨.inl ⟨_, .inl (.inl a), ?_⟩, rfl⟩
      cases r <;> rfl
  | dct l => cases e
  | ref n =>
    cases rx with
    | ref er =>
      unfold truth at e
      simp only at e
      split at e
      · rename_i l el
        cases e
        obtain ⟨a, vs, e1, e2, r⟩ := rh.ob _ _ _ el er
        cases e1
        refine ⟨.inl ⟨_, .inl (.inl e2), ?_⟩, rfl⟩
        cases r <;> rfl
      · rename_i l el
        cases e
        obtain ⟨a, vs, e1, e2, r⟩ := rh.ob _ _ _ el er
        cases e1
        refine ⟨.inr (.inr ⟨_, e2, ?_⟩), rfl⟩
        cases r <;> rfl
      · cases e
  | exn _ _ => cases rx
  | scr _ => cases e
end
end Y

namespace Y
open PySem PySem.Spec PyProof.Rows L2

section
variable {X : Cx} {T : Tab} {K : PySem.W.Frag} {W : WX} {ρ : Pl} {ex : List Addr} {H : Hp} {h : VH}

/-! #### places for new objects -/
theorem Kp.reg {p : Addr} {o : HO} (hp : H p = none) : Kp ρ H (ρ ++ [some p]) (upd H p o) where
  up := fun n a e => by rw [List.getElem?_append_left (List.getElem?_eq_some_iff.mp e).1]; exact e
  keep := fun a u e _ => by rw [upd_ne (ne_of_none e hp)]; exact e
  new := fun a ⟨n, e⟩ => by
    rcases Nat.lt_or_ge n ρ.length with q | q
    · rw [List.getElem?_append_left q] at e; exact .inl ⟨n, e⟩
    · rw [List.getElem?_append_right q] at e
      obtain ⟨q1, q2⟩ := List.getElem?_eq_some_iff.mp e
      have e2 : n - ρ.length = 0 := by simp at q1; omega
      rw [e2] at e
      cases e
      exact .inr hp
theorem Rh.fresh {p : Addr} (r : Rh T K ρ ex H h) (hp : H p = none) : Im ρ ex p :=
  ⟨fun q => (by obtain ⟨o, e⟩ := r.has q; rw [hp] at e; cases e), fun q => (r.exs p q).1 hp⟩
theorem Rh.reg {p : Addr} {o : HO} {ob : VO} (r : Rh T K ρ ex H h) (hp : H p = none) (ro : Ro T K (ρ ++ [some p]) ex (upd H p o) ob (some p)) : Rh T K (ρ ++ [some p]) ex (upd H p o) (h ++ [ob]) := by
  have k : Kp ρ H (ρ ++ [some p]) (upd H p o) := Kp.reg hp
  have f := r.fresh hp
  refine ⟨by rw [List.length_append, List.length_append, r.len]; rfl, fun n m a e1 e2 => ?_, fun a ha => ⟨?_, ?_⟩, fun n u q e1 e2 => ?_⟩
  · have key : ∀ {n : Nat} {a : Addr}, (ρ ++ [some p])[n]? = some (some a) → (n < ρ.length ∧ ρ[n]? = some (some a)) ∨ (n = ρ.length ∧ a = p) := fun {n a} e => by
      rcases Nat.lt_or_ge n ρ.length with q | q
      · rw [List.getElem?_append_left q] at e; exact .inl ⟨q, e⟩
      · rw [List.getElem?_append_right q] at e
        have q1 := (List.getElem?_eq_some_iff.mp e).1
        have e2 : n - ρ.length = 0 := by simp at q1; omega
        rw [e2] at e
        cases e
        exact .inr ⟨by omega, rfl⟩
    rcases key e1 with ⟨_, q1⟩ | ⟨q1, q1'⟩ <;> rcases key e2 with ⟨_, q2⟩ | ⟨q2, q2'⟩
    · exact r.inj n m a q1 q2
    · subst q2'; exact absurd ⟨n, q1⟩ f.1
    · subst q1'; exact absurd ⟨m, q2⟩ f.1
    · omega
  · have := (r.exs a ha).1
    by_cases e : a = p
    · subst e; exact absurd hp this
    · rw [upd_ne e]; exact this
  · intro q
    rcases k.new a q with z | z
    · exact (r.exs a ha).2 z
    · exact (r.exs a ha).1 z
  · rcases Nat.lt_or_ge n h.length with q1 | q1
    · rw [List.getElem?_append_left q1] at e1
      rw [List.getElem?_append_left (by rw [r.len]; exact q1)] at e2
      refine (r.ob n u q e1 e2).mono k noex fun a ea => ?_
      subst ea
      obtain ⟨w, eu⟩ := r.has ⟨n, e2⟩
      exact upd_ne (ne_of_none eu hp)
    · rw [List.getElem?_append_right q1] at e1
      rw [List.getElem?_append_right (by rw [r.len]; exact q1)] at e2
      have q2 := (List.getElem?_eq_some_iff.mp e1).1
      have z : n - h.length = 0 := by simp at q2; omega
      rw [z] at e1
      rw [r.len, z] at e2
      cases e1
      cases e2
      exact ro

/-! #### arguments, displays -/
theorem e_nil : PA X [] (rdA T K W mNil) := imA pa_nil fun σ H Q h => by
  obtain ⟨ρ, ex, sl, hp, rs, rh, q⟩ := h
  exact q ρ H (Kp.refl _ _) rh [] .nil
theorem e_cons {e : Expr} {es : List Expr} {m : EM} {r : AM} (ha : PE X e (rdE T K W m)) (hr : PA X es (rdA T K W r)) (hs : starEach (e :: es) X.env = (false, eval e X.env) :: starEach es X.env) : PA X (e :: es) (rdA T K W (mCons m r)) :=
  imA (pa_cons ha hr hs) fun σ H Q h => by
    obtain ⟨ρ, ex, sl, hp, rs, rh, q⟩ := h
    refine ⟨ρ, ex, sl, hp, rs, rh, q.bnd.imp fun u h1 ρ1 H1 k1 rh1 q1 x rx => ?_⟩
    refine ⟨ρ1, ex, sl, h1, rs.mono k1 noex, rh1, q1.bnd.imp fun us h2 ρ2 H2 k2 rh2 q2 xs rxs => ?_⟩
    exact q2 ρ2 H2 (Kp.refl _ _) rh2 _ (.cons (rx.mono k2 noex) rxs)
theorem line_eq : line = sizeLine := by rw [sizeLine_eq]; rfl
theorem e_tup {es : List Expr} {n : Nat} {pos : Pos} {m : AM} (h : PA X es (rdA T K W m)) : PE X (.Tuple es n pos) (rdE T K W (mTup m)) :=
  imE (pe_tup h) fun σ H Q h => by
    obtain ⟨ρ, ex, sl, hp, rs, rh, q⟩ := h
    refine ⟨ρ, ex, sl, hp, rs, rh, q.bnd.imp fun us h1 ρ1 H1 k1 rh1 q1 xs rxs => ?_⟩
    split at q1
    · rename_i hl
      refine ⟨by rw [← rxs.length, ← line_eq]; exact hl, fun p hp => ?_⟩
      have f := rh1.fresh hp
      have k : Kp ρ1 H1 ρ1 (upd H1 p (.tup xs)) := Kp.laid hp
      exact q1 ρ1 _ k (rh1.laid hp) _ (.tup (.inl ⟨.inl upd_same, f⟩) (Rvs.mono k noex _ _ rxs))
    · exact q1.elim
theorem e_lst {es : List Expr} {pos : Pos} {m : AM} (h : PA X es (rdA T K W m)) : PE X (.List es pos) (rdL T K W (mNewL m)) :=
  imE (pe_lst h) fun σ H Q h => by
    obtain ⟨ρ, ex, sl, hp, rs, rh, q⟩ := h
    refine ⟨ρ, ex, sl, hp, rs, rh, q.bnd.imp fun us h1 ρ1 H1 k1 rh1 q1 xs rxs => ?_⟩
    split at q1
    · rename_i hl
      refine ⟨by rw [← rxs.length, ← line_eq]; exact hl, fun p hp => ?_⟩
      exact q1 ρ1 H1 (Kp.refl _ _) rh1 p xs _ hp rfl (by rw [← rxs.length]; exact hl) rxs
    · exact q1.elim
/-- new rows, never changed -/
theorem e_fz {e : Expr} {m : AM} (h : PE X e (rdL T K W m)) : PE X e (rdE T K W (mFz m)) := imE h fun σ H Q h => by
  obtain ⟨ρ, ex, sl, hp, rs, rh, q⟩ := h
  refine ⟨ρ, ex, sl, hp, rs, rh, q.bnd.imp fun us h1 ρ1 H1 k1 rh1 q1 p xs H2 hp e hl rxs => ?_⟩
  subst e
  have k : Kp ρ1 H1 ρ1 (upd H1 p (.lst xs)) := Kp.laid hp
  exact q1 ρ1 _ k (rh1.laid hp) _ (.lst upd_same (rh1.fresh hp) (Rvs.mono k noex _ _ rxs))
/-- new rows, laid in the heap -/
theorem e_reg {e : Expr} {m : AM} (h : PE X e (rdL T K W m)) : PE X e (rdE T K W (mReg m)) := imE h fun σ H Q h => by
  obtain ⟨ρ, ex, sl, hp, rs, rh, q⟩ := h
  refine ⟨ρ, ex, sl, hp, rs, rh, q.bnd.imp fun us h1 ρ1 H1 k1 rh1 q1 p xs H2 hp e hl rxs => ?_⟩
  subst e
  have k : Kp ρ1 H1 (ρ1 ++ [some p]) (upd H1 p (.lst xs)) := Kp.reg hp
  have e1 : (ρ1 ++ [some p])[h1.length]? = some (some p) := by
    rw [← rh1.len, List.getElem?_append_right (Nat.le_refl _), Nat.sub_self]; rfl
  exact q1 _ _ k (rh1.reg hp ⟨p, xs, rfl, upd_same, Rvs.mono k noex _ _ rxs⟩) _ (.ref e1)

/-! #### tests, choices -/
theorem e_if {c a b : Expr} {mc : TM} {ma mb : EM} {pos : Pos} (hc : PT X c (rdT T K W mc)) (ha : PE X a (rdE T K W ma)) (hb : PE X b (rdE T K W mb)) : PE X (.IfExp c a b pos) (rdE T K W (mIf mc ma mb)) :=
  imE (pe_ifExp hc ha hb) fun σ H Q h => by
    obtain ⟨ρ, ex, sl, hp, rs, rh, q⟩ := h
    refine ⟨ρ, ex, sl, hp, rs, rh, q.bnd.imp fun c h1 ρ1 H1 k1 rh1 q1 => ?_⟩
    cases c with
    | true => exact ⟨ρ1, ex, sl, h1, rs.mono k1 noex, rh1, q1⟩
    | false => exact ⟨ρ1, ex, sl, h1, rs.mono k1 noex, rh1, q1⟩
theorem rd_and {a b : TM} {σ : L2.St} {H : Hp} {Q : Bool → Hp → Prop} (h : rdT T K W (mAnd a b) σ H Q) : tAnd (rdT T K W a) (rdT T K W b) σ H Q := by
  obtain ⟨ρ, ex, sl, hp, rs, rh, q⟩ := h
  refine ⟨ρ, ex, sl, hp, rs, rh, q.bnd.imp fun c h1 ρ1 H1 k1 rh1 q1 => ?_⟩
  cases c with
  | true => exact ⟨ρ1, ex, sl, h1, rs.mono k1 noex, rh1, q1⟩
  | false => exact q1 ρ1 H1 (Kp.refl _ _) rh1
theorem rd_or {a b : TM} {σ : L2.St} {H : Hp} {Q : Bool → Hp → Prop} (h : rdT T K W (mOr a b) σ H Q) : tOr (rdT T K W a) (rdT T K W b) σ H Q := by
  obtain ⟨ρ, ex, sl, hp, rs, rh, q⟩ := h
  refine ⟨ρ, ex, sl, hp, rs, rh, q.bnd.imp fun c h1 ρ1 H1 k1 rh1 q1 => ?_⟩
  cases c with
  | false => exact ⟨ρ1, ex, sl, h1, rs.mono k1 noex, rh1, q1⟩
  | true => exact q1 ρ1 H1 (Kp.refl _ _) rh1
theorem rd_not {a : TM} {σ : L2.St} {H : Hp} {Q : Bool → Hp → Prop} (h : rdT T K W (mNot a) σ H Q) : tNot (rdT T K W a) σ H Q := by
  obtain ⟨ρ, ex, sl, hp, rs, rh, q⟩ := h
  exact ⟨ρ, ex, sl, hp, rs, rh, q.bnd.imp fun c h1 ρ1 H1 k1 rh1 q1 => q1 ρ1 H1 (Kp.refl _ _) rh1⟩
theorem t_not {a : Expr} {m : TM} {pos : Pos} (h : PT X a (rdT T K W m)) : PT X (.UnaryOp .Not a pos) (rdT T K W (mNot m)) := imT (pt_not h) fun _ _ _ h => rd_not h
theorem t_truth {a : Expr} {m : EM} (h : PE X a (rdE T X.K W m)) (he : ∀ whole, isTrue a X.env whole = (do let v ← whole; standAt a.pos; holding [v] (truthy v))) : PT X a (rdT T X.K W (mTruth m)) := imT (pt_truth h he) fun σ H Q h => by
  obtain ⟨ρ, ex, sl, hp, rs, rh, q⟩ := h
  refine ⟨ρ, ex, sl, hp, rs, rh, q.bnd.imp fun u h1 ρ1 H1 k1 rh1 q1 x rx => ?_⟩
  cases e : truth u h1 with
  | ok b h2 =>
    obtain ⟨t, e2⟩ := tru rh1 rx e
    rw [e] at q1
    subst e2
    exact ⟨b, t, q1 ρ1 H1 (Kp.refl _ _) rh1⟩
  | exc c fs h2 =>
    exfalso
    clear q1
    unfold truth at e
    split at e <;> first | cases e | (split at e <;> cases e)
  | bad => rw [e] at q1; exact q1.elim
theorem e_and {a b : Expr} {rest : List Expr} {ma mb : EM} {pos : Pos} (ha : PE X a (rdE T K W ma)) (hb : PE X (.BoolOp .And (b :: rest) pos) (rdE T K W mb)) : PE X (.BoolOp .And (a :: b :: rest) pos) (rdE T K W (mAndV ma mb)) :=
  imE (pe_and ha hb) fun σ H Q h => by
    obtain ⟨ρ, ex, sl, hp, rs, rh, q⟩ := h
    refine ⟨ρ, ex, sl, hp, rs, rh, q.bnd.imp fun u h1 ρ1 H1 k1 rh1 q1 x rx => ?_⟩
    cases u with
    | bl c =>
      cases rx
      refine ⟨c, rfl, ?_⟩
      cases c with
      | true => exact ⟨ρ1, ex, sl, h1, rs.mono k1 noex, rh1, q1⟩
      | false => exact q1 ρ1 H1 (Kp.refl _ _) rh1 _ (.bl _)
    | _ => exact q1.elim
theorem e_or {a b : Expr} {rest : List Expr} {ma mb : EM} {pos : Pos} (ha : PE X a (rdE T K W ma)) (hb : PE X (.BoolOp .Or (b :: rest) pos) (rdE T K W mb)) : PE X (.BoolOp .Or (a :: b :: rest) pos) (rdE T K W (mOrV ma mb)) :=
  imE (pe_or ha hb) fun σ H Q h => by
    obtain ⟨ρ, ex, sl, hp, rs, rh, q⟩ := h
    refine ⟨ρ, ex, sl, hp, rs, rh, q.bnd.imp fun u h1 ρ1 H1 k1 rh1 q1 x rx => ?_⟩
    cases u with
    | bl c =>
      cases rx
      refine ⟨c, rfl, ?_⟩
      cases c with
      | false => exact ⟨ρ1, ex, sl, h1, rs.mono k1 noex, rh1, q1⟩
      | true => exact q1 ρ1 H1 (Kp.refl _ _) rh1 _ (.bl _)
    | _ => exact q1.elim

/-! #### slices -/
def rSl (T : Tab) (K : PySem.W.Frag) : V → Option Int → Option Int → Hp → VK → Prop := fun x lo hi H Q => ∃ ρ ex h u w, Rh T K ρ ex H h ∧ Rv K ρ ex H u x ∧ slO u lo hi h = some w ∧
  ∀ ρ' H' z, Kp ρ H ρ' H' → Rh T K ρ' ex H' h → Rv K ρ' ex H' w z → Q z H'
theorem o_none : PO X none (rdO T K W mNoPart) := imO po_none fun σ H Q h => by
  obtain ⟨ρ, ex, sl, hp, rs, rh, q⟩ := h
  exact q ρ H (Kp.refl _ _) rh
theorem o_some {e : Expr} {m : EM} (h : PE X e (rdE T K W m)) : PO X (some e) (rdO T K W (mPart m)) := imO (po_some h) fun σ H Q h => by
  obtain ⟨ρ, ex, sl, hp, rs, rh, q⟩ := h
  refine ⟨ρ, ex, sl, hp, rs, rh, q.bnd.imp fun u h1 ρ1 H1 k1 rh1 q1 x rx => ?_⟩
  cases u with
  | int i => cases rx; exact ⟨i, rfl, q1 ρ1 H1 (Kp.refl _ _) rh1⟩
  | _ => exact q1.elim
theorem e_sl {e : Expr} {lo hi : Option Expr} {p2 pos : Pos} {m : EM} {l u : OM} (hr : SlR X (rSl T K)) (he : PE X e (rdE T K W m)) (hl : PO X lo (rdO T K W l)) (hu : PO X hi (rdO T K W u)) : PE X (.Subscript e (.Slice lo hi none p2) pos) (rdE T K W (mSl m l u)) :=
  imE (pe_slice hr he hl hu) fun σ H Q h => by
    obtain ⟨ρ, ex, sl, hp, rs, rh, q⟩ := h
    refine ⟨ρ, ex, sl, hp, rs, rh, q.bnd.imp fun u h1 ρ1 H1 k1 rh1 q1 x rx => ?_⟩
    refine ⟨ρ1, ex, sl, h1, rs.mono k1 noex, rh1, q1.bnd.imp fun i h2 ρ2 H2 k2 rh2 q2 => ?_⟩
    refine ⟨ρ2, ex, sl, h2, (rs.mono k1 noex).mono k2 noex, rh2, q2.bnd.imp fun j h3 ρ3 H3 k3 rh3 q3 => ?_⟩
    obtain ⟨w, e, q4⟩ := q3.retO
    exact ⟨ρ3, ex, h3, u, w, rh3, (rx.mono k2 noex).mono k3 noex, e, fun ρ' H' z kp rh' rz => q4 ρ' H' kp rh' z rz⟩

/-! #### calls -/
/-- a def's promise, by what it does -/
def spF (T : Tab) (K : PySem.W.Frag) (F : Fn) : Sp := fun vs H Q E => ∃ ρ ex h us, Rh T K ρ ex H h ∧ Rvs K ρ ex H us vs ∧ Fin T K (fun cls d _ H' => E cls d H') ρ ex [] H (F us h) fun v _ ρ' H' => ∀ x, Rv K ρ' ex H' v x → Q x H'
theorem Fin.other {α : Type} {W' : WX} {σ σ' : L2.St} {r : R α} {k : α → VH → Pl → Hp → Prop} (f : Fin T K W ρ ex σ H r k) (g : ∀ cls d H', W cls d σ H' → W' cls d σ' H') : Fin T K W' ρ ex σ' H r k := by
  cases r with
  | ok a h' => exact f
  | exc c fs h' => exact fun ρ' H' cls d kp rh rx => g _ _ _ (f ρ' H' cls d kp rh rx)
  | bad => exact f
theorem rd_call {F : Fn} {m : AM} {σ : L2.St} {H : Hp} {Q : VK} (h : rdE T K W (mCall F m) σ H Q) : tCallS (spF T K F) (WE W) (rdA T K W m) σ H Q := by
  obtain ⟨ρ, ex, sl, hp, rs, rh, q⟩ := h
  refine ⟨ρ, ex, sl, hp, rs, rh, q.bnd.imp fun us h1 ρ1 H1 k1 rh1 q1 xs rxs => ?_⟩
  exact ⟨ρ1, ex, h1, us, rh1, rxs, q1.other fun _ _ _ w => w⟩
theorem e_call {x : Str} {p pos : Pos} {e : Expr} {es : List Expr} {k : Nat} {f : Addr} {fd : FuncData} {ps : List Str} {F : Fn} {m : AM} (G : FnOk X.prog X.w X.K X.mg X.base (L2.CX X.prog X.w) k f fd ps (spF T X.K F)) (hr : Room k X.A) (hg : Gl X x) (hm : X.mg x = some (.ref f))
    (hk : PySem.W.keepIn X.K (.ref f) = true) (hb : Binds X.K fd ps []) (tk : Takes X W) (ha : PA X (e :: es) (rdA T X.K W m)) (hdb : (x == ("__debug__" : Str)) = false) (he : starEach (e :: es) X.env = (false, eval e X.env) :: starEach es X.env)
    (hpl : (backTo pos (starEach es X.env)).any (·.1) = false) : PE X (.Call (.Name x p) (e :: es) [] pos) (rdE T X.K W (mCall F m)) :=
  imE (pe_callS (E := WE W) G hr hg hm hk hb (fun σ => passAt tk σ) ha hdb he hpl) fun _ _ _ h => rd_call h
theorem rd_bi {F : List PV → VH → Option PV} {m : AM} {σ : L2.St} {H : Hp} {Q : VK} (h : rdE T K W (mBi F m) σ H Q) : tCB (rOA T K F) (rdA T K W m) σ H Q := by
  obtain ⟨ρ, ex, sl, hp, rs, rh, q⟩ := h
  refine ⟨ρ, ex, sl, hp, rs, rh, q.bnd.imp fun us h1 ρ1 H1 k1 rh1 q1 xs rxs => ?_⟩
  obtain ⟨w, e, q3⟩ := q1.retO
  exact ⟨ρ1, ex, h1, us, w, rh1, rxs, e, fun ρ' H' z kp rh' rz => q3 ρ' H' kp rh' z rz⟩
/-- a built-in that gives new rows -/
def rOL (T : Tab) (K : PySem.W.Frag) (f : List PV → VH → Option (List PV)) : List V → Hp → VK → Prop := fun xs H Q => ∃ ρ ex h us l, Rh T K ρ ex H h ∧ Rvs K ρ ex H us xs ∧ f us h = some l ∧
  ∀ ρ' H' p ys H2, Kp ρ H ρ' H' → Rh T K ρ' ex H' h → H' p = none → H2 = upd H' p (.lst ys) → ys.length ≤ line → Rvs K ρ' ex H' l ys → Q (.ref p) H2
theorem rd_bil {F : List PV → VH → Option (List PV)} {m : AM} {σ : L2.St} {H : Hp} {Q : VK} (h : rdL T K W (mBiL F m) σ H Q) : tCB (rOL T K F) (rdA T K W m) σ H Q := by
  obtain ⟨ρ, ex, sl, hp, rs, rh, q⟩ := h
  refine ⟨ρ, ex, sl, hp, rs, rh, q.bnd.imp fun us h1 ρ1 H1 k1 rh1 q1 xs rxs => ?_⟩
  obtain ⟨w, e, q3⟩ := q1.retO
  exact ⟨ρ1, ex, h1, us, w, rh1, rxs, e, fun ρ' H' p ys H2 kp rh' hp e hl rl => q3 ρ' H' kp rh' p ys H2 hp e hl rl⟩
end
end Y

set_option maxHeartbeats 1000000
namespace Y
open PySem PySem.Spec PyProof.Rows L2
theorem tuple_mulS (l : Addr) (items : Array Value) (n : Nat) (dd : Option Addr) (sl : Array (Option Value)) (x : Int) (u : Tok) (c0 : (decide (x < -(2 ^ 63)) || decide (x ≥ 2 ^ 63)) = false) (c1 : (items.isEmpty || x == 1) = true) :
    Meets (Builtin.«tuple.__mul__» ⟨[.ref l, .int x u], []⟩) (fun _ R s => s.heap.get? l = some { cls := .type "tuple", dict := dd, data := .seq items n, slots := sl } ∧
      R (.ok (.ret (Value.ref l))) s) :=
  .of_wp fun prog w A R s h => by
    obtain ⟨hp, g, d, tk, os⟩ := s
    obtain ⟨hl, h⟩ := h
    have f1 := AutoSeq1.idx_int
    wp_walk using wpAny_loadPart' hl
    repeat (first
      | (refine wpAny_ite_false (decide_eq_false (by rw [c0]; exact Bool.false_ne_true)) ?_; wp_walk using wpAny_loadPart' hl)
      | (refine wpAny_ite_true (decide_eq_true c1) ?_; wp_walk using wpAny_loadPart' hl))
    exact ⟨_, rfl, h⟩
theorem tuple_mul0 (l : Addr) (items : Array Value) (n : Nat) (dd : Option Addr) (sl : Array (Option Value)) (x : Int) (u : Tok) (c0 : (decide (x < -(2 ^ 63)) || decide (x ≥ 2 ^ 63)) = false) (c1 : (items.isEmpty || x == 1) = false) (c2 : (decide (x ≤ 0) || items.isEmpty) = true) :
    Meets (Builtin.«tuple.__mul__» ⟨[.ref l, .int x u], []⟩) (fun _ R s => s.heap.get? l = some { cls := .type "tuple", dict := dd, data := .seq items n, slots := sl } ∧
      R (.ok (.ret (Value.ref s.heap.objs.size))) { s with heap := s.heap.push { cls := Value.type "tuple", data := Data.seq #[] }, toks := s.toks }) :=
  .of_wp fun prog w A R s h => by
    obtain ⟨hp, g, d, tk, os⟩ := s
    obtain ⟨hl, h⟩ := h
    have f1 := AutoSeq1.idx_int
    wp_walk using wpAny_loadPart' hl
    repeat (first
      | (refine wpAny_ite_false (decide_eq_false (by rw [c0]; exact Bool.false_ne_true)) ?_; wp_walk using wpAny_loadPart' hl)
      | (refine wpAny_ite_false (decide_eq_false (by rw [c1]; exact Bool.false_ne_true)) ?_; wp_walk using wpAny_loadPart' hl)
      | (refine wpAny_ite_true (decide_eq_true c2) ?_; wp_walk using wpAny_loadPart' hl))
    exact ⟨_, rfl, h⟩
end Y
namespace Y
open PySem PySem.Spec PyProof.Rows L2

/-! ### texts -/
theorem StrR.length {s : List Nat} {z : Str} (r : StrR s z) : z.length = s.length := by rw [← r.eq]; rfl
theorem StrR.mk' {s : List Nat} (hl : s.length ≤ line) (ho : chOk s) : StrR s ⟨s.toArray⟩ := ⟨rfl, hl, ho⟩
theorem StrR.is {s : List Nat} {z : Str} (r : StrR s z) : z = ⟨s.toArray⟩ := by
  cases z with
  | mk c => rw [← r.eq]
theorem StrR.inj {s t : List Nat} {z : Str} (r : StrR s z) (q : StrR t z) : s = t := by rw [← r.eq, ← q.eq]
theorem chOk.append {s t : List Nat} (a : chOk s) (b : chOk t) : chOk (s ++ t) := fun c h => (List.mem_append.mp h).elim (a c) (b c)
theorem StrR.append {s t : List Nat} {z w : Str} (r : StrR s z) (q : StrR t w) (hl : s.length + t.length ≤ line) : StrR (s ++ t) (z ++ w) := by
  refine ⟨?_, by rw [List.length_append]; exact hl, r.ok.append q.ok⟩
  show (z.cps ++ w.cps).toList = s ++ t
  rw [Array.toList_append, r.eq, q.eq]
theorem chOk.rep {s : List Nat} (a : chOk s) : ∀ n, chOk (Y.rep s n)
  | 0 => fun _ h => by cases h
  | n + 1 => a.append (chOk.rep a n)
theorem rep_length {α : Type} (s : List α) : ∀ n, (Y.rep s n).length = s.length * n
  | 0 => by simp [Y.rep]
  | n + 1 => by rw [Y.rep, List.length_append, rep_length s n, Nat.mul_succ]; omega
theorem rep_flat {α : Type} (s : List α) : ∀ n, (List.replicate n s).flatten = Y.rep s n
  | 0 => rfl
  | n + 1 => by rw [List.replicate_succ, List.flatten_cons, rep_flat s n]; rfl
theorem rep_one {α : Type} (s : List α) : Y.rep s 1 = s := by simp [Y.rep]
theorem chOk.sub {s t : List Nat} (a : chOk s) (h : ∀ c ∈ t, c ∈ s) : chOk t := fun c hc => a c (h c hc)
theorem cut_mem {α : Type} {l : List α} {lo hi : Option Int} {x : α} (h : x ∈ cut l lo hi) : x ∈ l := List.mem_of_mem_drop (List.mem_of_mem_take h)
theorem cut_len {α : Type} (l : List α) (lo hi : Option Int) : (cut l lo hi).length ≤ l.length := by
  unfold cut
  rw [List.length_take, List.length_drop]
  omega

section
variable {X : Cx} {T : Tab} {K : PySem.W.Frag}

/-! ### + - * // % -/
theorem rng62 {b : Int} (h : rngOk b = true) : -4611686018427387904 ≤ b ∧ b < 4611686018427387904 := by
  have := rngOk_out h
  omega
/-- a text times a number -/
theorem mul_text {prog : Program} {w : World} {A : Around} {E : Value → Shared → Prop} {s : Shared} {x : Str} {n : Int} {t u : Tok} {Q : Value → Shared → Prop} (h1 : -4611686018427387904 ≤ n) (h2 : n < 4611686018427387904) (hl : x.length * n.toNat ≤ sizeLine)
    (h : ∀ t' s', (∃ k, s' = { s with toks := k }) → Q (.str ⟨(Y.rep x.cps.toList n.toNat).toArray⟩ t') s') : wpAny (model prog w) A (binaryOp .Mult (.str x t) (.int n u)) Q E s := by
  have cap : ∀ _ : ¬ n < 1, ¬ (n == 1 || x.length == 0) = true → (x.length : Int) ≤ (2 ^ 63 - 1) / n := fun a b => by
    rw [Int.le_ediv_iff_mul_le (by omega)]
    have e : ((x.length * n.toNat : Nat) : Int) = (x.length : Int) * n := by rw [Int.natCast_mul, Int.toNat_of_nonneg (by omega)]
    rw [← e]
    rw [sizeLine_eq] at hl
    omega
  refine PySem.P.mul_str (by rw [decide_eq_false (by omega), decide_eq_false (by omega)]; rfl) (fun a b => by have := cap a (by rw [b]; decide); omega) (fun a b => ?_) ?_
  · first
      | (unfold Builtin.Str.tooLong; exact decide_eq_false (by omega))
      | (simp only [Builtin.Str.tooLong]; exact decide_eq_false (by omega))
      | simpa [Builtin.Str.tooLong] using hl
  · split
    · rename_i h0
      have e : n.toNat = 0 := by omega
      refine ⟨by decide, ?_⟩
      rw [e] at h
      exact h _ _ ⟨_, rfl⟩
    · split
      · rename_i h0 h3
        show Q (.str x t) s
        have e : (⟨(Y.rep x.cps.toList n.toNat).toArray⟩ : Str) = x := by
          rcases Bool.or_eq_true_iff.mp h3 with h3 | h3
          · have e1 : n.toNat = 1 := by have := eq_of_beq h3; omega
            rw [e1, rep_one]
          · have e1 : x.cps.toList = [] := by
              have h4 : x.length = 0 := eq_of_beq h3
              exact List.eq_nil_of_length_eq_zero h4
            have e2 : Y.rep x.cps.toList n.toNat = [] := by
              apply List.eq_nil_of_length_eq_zero
              rw [rep_length, e1]; simp
            rw [e2]
            have e3 : x.cps = #[] := by
              have := congrArg List.toArray e1
              simpa using this
            cases x; simp at e3; rw [e3]
        have := h t s ⟨_, rfl⟩
        rw [e] at this
        exact this
      · have e0 : List.foldl (fun x1 x2 => x1 ++ x2) #[] (List.replicate n.toNat x.cps) = (Y.rep x.cps.toList n.toNat).toArray := by
          have gen : ∀ (m : Nat) (acc : Array Nat), (List.foldl (fun x1 x2 => x1 ++ x2) acc (List.replicate m x.cps)).toList = acc.toList ++ Y.rep x.cps.toList m := fun m => by
            induction m with
            | zero => intro acc; simp [Y.rep]
            | succ m ih => intro acc; rw [List.replicate_succ, List.foldl_cons, ih, Array.toList_append, Y.rep, List.append_assoc]
          have := gen n.toNat #[]
          simp at this
          exact Array.toList_inj.mp (by simpa using this)
        refine ⟨?_, ?_⟩
        · rw [e0]
          show (Y.rep x.cps.toList n.toNat).toArray.size ≤ sizeLine
          rw [List.size_toArray, rep_length]
          exact hl
        · have := h s.toks { s with toks := s.toks + 1 } ⟨_, rfl⟩
          rw [← e0] at this
          exact this

/-- a tuple times a number -/
def rRepA (K : PySem.W.Frag) : R2 := fun x y H Q => ∃ l k xs, x = .ref l ∧ y = .int k ∧ SqT K H l xs ∧ -4611686018427387904 ≤ k ∧ k < 4611686018427387904 ∧ xs.length * k.toNat ≤ sizeLine ∧ (Y.rep xs k.toNat = xs → Q (.ref l) H) ∧ ∀ p, H p = none → Q (.ref p) (upd H p (.tup (Y.rep xs k.toNat)))
theorem op_repA : OpR X (binaryOp .Mult) (rRepA X.K) := by
  intro pins s σ H x y v u Q I rx ry h
  obtain ⟨l, k, xs, rfl, rfl, hT, h1, h2, hz, qs, q⟩ := h
  cases rx
  obtain ⟨t, rfl⟩ := ry
  obtain ⟨its, r, ⟨⟨cls, dd, data, sl⟩, ho, hc, n, hd⟩, hs⟩ := I.tuple hT
  simp only at hc hd
  subst hc hd
  have hle : its.length = xs.length := r.length.symm
  have hsz0 : its.toArray.size = xs.length := by rw [List.size_toArray, hle]
  have c0 : (decide (k < -(2 ^ 63)) || decide (k ≥ 2 ^ 63)) = false := by
    rw [decide_eq_false (by omega), decide_eq_false (by omega)] <;> rfl
  have road : ∀ {Q' : Value → Shared → Prop}, wpAny (model X.prog X.w) X.A (call (.builtin "tuple.__mul__") [.ref l, .int k t]) Q' X.xe s → wpAny (model X.prog X.w) X.A (binaryOp .Mult (.ref l) (.int k t)) Q' X.xe s := fun {Q'} hq =>
    wpAny_binaryOp_repeat_ref (T := "tuple") (U := "int") (by decide) ⟨_, ho, rfl⟩ (fun s' => typeIs_int s' k t) L2.noFill_tuple_mul F.fills_int_mul F.slot_int_rmul L2.repeat_tuple F.slot_int_index.lookup
      (call_meets F.slot_int_rmul (typeIs_int s k t) F.entry_int_rmul (F.args_int_rmul_2 _ _) (L2.int_rmul_tuple k t l its.toArray n dd sl) ⟨ho, rfl, ⟨_, ho, rfl⟩, hq⟩)
  cases c1 : (its.toArray.isEmpty || k == 1) with
  | true =>
    refine road (call_meets F.slot_tuple_mul ⟨_, ho, rfl⟩ F.entry_tuple_mul (F.args_tuple_mul_2 _ _) (tuple_mulS l its.toArray n dd sl k t c0 c1) ⟨ho, ?_⟩)
    refine ⟨.ref l, H, I, rfl, qs ?_⟩
    rcases Bool.or_eq_true_iff.mp c1 with c | c
    · have e : its = [] := by simpa using c
      have e2 : xs = [] := by
        rw [e] at hle
        exact List.eq_nil_of_length_eq_zero hle.symm
      rw [e2]
      apply List.eq_nil_of_length_eq_zero
      rw [rep_length]; simp
    · have e : k = 1 := eq_of_beq c
      rw [e]
      exact rep_one xs
  | false =>
    have c1' := Bool.or_eq_false_iff.mp c1
    have hi : its.toArray.isEmpty = false := c1'.1
    cases c2 : (decide (k ≤ 0) || its.toArray.isEmpty) with
    | true =>
      have hk : k ≤ 0 := by
        rw [hi, Bool.or_false] at c2
        exact of_decide_eq_true c2
      have ek : k.toNat = 0 := by omega
      refine road (call_meets F.slot_tuple_mul ⟨_, ho, rfl⟩ F.entry_tuple_mul (F.args_tuple_mul_2 _ _) (tuple_mul0 l its.toArray n dd sl k t c0 c1 c2) ⟨ho, ?_⟩)
      rw [ek] at q
      refine ⟨.ref s.heap.objs.size, _, I.laid (t' := s.toks) (o := .tup []) (fun b ob q => Heap.get?_push_of_some _ q) (Nat.le_refl _) ?_, rfl, q _ (I.hok.fresh (Nat.le_refl _))⟩
      exact ⟨Nat.zero_le _, [], .nil, IsTup.new _ _⟩
    | false =>
      have hk : 0 < k := by
        rw [hi, Bool.or_false] at c2
        have := of_decide_eq_false c2
        omega
      have ez : ((xs.length * k.toNat : Nat) : Int) = (xs.length : Int) * k := by rw [Int.natCast_mul, Int.toNat_of_nonneg (by omega)]
      have hm : ((its.toArray.size : Nat) : Int) * k ≤ 16777216 := by
        rw [hsz0, ← ez]
        rw [sizeLine_eq] at hz
        omega
      have flen : (List.replicate k.toNat its).flatten.length ≤ sizeLine := by
        rw [rep_flat, rep_length, hle]
        exact hz
      have c4 : Builtin.Tuple.tupleTooMany (((its.toArray.size : Nat) : Int) * k) = false := by
        unfold Builtin.Tuple.tupleTooMany
        rw [sizeLine_eq]
        exact decide_eq_false (by omega)
      refine road (call_meets F.slot_tuple_mul ⟨_, ho, rfl⟩ F.entry_tuple_mul (F.args_tuple_mul_2 _ _) (L2.tuple_mulW l its.toArray n dd sl k t c0 c1 c2 (by omega) c4 (by rw [L2.size_rep, List.size_toArray]; exact flen)) ⟨ho, ?_⟩)
      rw [L2.size_rep]
      refine ⟨.ref s.heap.objs.size, _, I.laid (t' := s.toks) (o := .tup (Y.rep xs k.toNat)) (fun b ob q => Heap.get?_push_of_some _ q) (Nat.le_refl _) ?_, rfl, q _ (I.hok.fresh (Nat.le_refl _))⟩
      refine ⟨by rw [rep_length]; exact hz, _, ?_, IsTup.new _ _⟩
      rw [← rep_flat]
      exact r.rep k.toNat

theorem Rh.lst {ρ : Pl} {ex : List Addr} {H : Hp} {h : VH} {n : Nat} {l : List PV} {x : V} (rh : Rh T K ρ ex H h) (e : h[n]? = some (.lst l)) (rx : Rv K ρ ex H (.ref n) x) : ∃ a vs, x = .ref a ∧ ρ[n]? = some (some a) ∧ H a = some (.lst vs) ∧ Rvs K ρ ex H l vs := by
  cases rx with
  | ref er =>
    obtain ⟨a, vs, e1, e2, r⟩ := rh.ob _ _ _ e er
    cases e1
    exact ⟨_, _, rfl, er, e2, r⟩
theorem Rv.asList {ρ : Pl} {ex : List Addr} {H : Hp} {h : VH} {u : PV} {l : List PV} {x : V} (rh : Rh T K ρ ex H h) (e : Y.asList u h = some l) (rx : Rv K ρ ex H u x) : ∃ a vs, x = .ref a ∧ H a = some (.lst vs) ∧ Rvs K ρ ex H l vs := by
  unfold Y.asList at e
  split at e
  · cases e
    cases rx with
    | lst a _ r => exact ⟨_, _, rfl, a, r⟩
  · split at e
    · cases e
      rename_i el
      obtain ⟨a, vs, e1, _, e2, r⟩ := rh.lst el rx
      exact ⟨a, vs, e1, e2, r⟩
    · cases e
  · cases e
theorem Rv.asSeq {ρ : Pl} {ex : List Addr} {H : Hp} {h : VH} {u : PV} {l : List PV} {x : V} (rh : Rh T K ρ ex H h) (e : Y.asSeq u h = some l) (rx : Rv K ρ ex H u x) : ∃ a vs, x = .ref a ∧ (SqL K H a vs ∨ SqT K H a vs) ∧ Rvs K ρ ex H l vs := by
  unfold Y.asSeq at e
  split at e
  · cases e
    cases rx with
    | tup a r => exact ⟨_, _, rfl, .inr (a.elim (fun z => .inl z.1) .inr), r⟩
  · obtain ⟨a, vs, e1, e2, r⟩ := rx.asList rh e
    exact ⟨a, vs, e1, .inl (.inl (.inl e2)), r⟩
theorem Rv.tupT {ρ : Pl} {ex : List Addr} {H : Hp} {l : List PV} {x : V} (rx : Rv K ρ ex H (.tup l) x) : ∃ a vs, x = .ref a ∧ SqT K H a vs ∧ Rvs K ρ ex H l vs := by
  cases rx with
  | tup a r => exact ⟨_, _, rfl, a.elim (fun z => .inl z.1) .inr, r⟩
theorem Rv.newT {ρ : Pl} {ex : List Addr} {H : Hp} {h : VH} {l : List PV} {vs : List V} {p : Addr} (rh : Rh T K ρ ex H h) (hp : H p = none) (r : Rvs K ρ ex H l vs) : Rv K ρ ex (upd H p (.tup vs)) (.tup l) (.ref p) :=
  .tup (.inl ⟨.inl upd_same, rh.fresh hp⟩) (Rvs.mono (Kp.laid hp) noex _ _ r)
theorem Rv.newL {ρ : Pl} {ex : List Addr} {H : Hp} {h : VH} {l : List PV} {vs : List V} {p : Addr} (rh : Rh T K ρ ex H h) (hp : H p = none) (r : Rvs K ρ ex H l vs) : Rv K ρ ex (upd H p (.lst vs)) (.lst l) (.ref p) :=
  .lst upd_same (rh.fresh hp) (Rvs.mono (Kp.laid hp) noex _ _ r)

theorem o_bin (op : Operator) : OpR X (binaryOp op) (rO2 T X.K (binO op)) := by
  intro pins s σ H x y v u Q I rx ry h
  obtain ⟨ρ, ex, hp, a, b, w, rh, ra, rb, e, q⟩ := h
  have same := fun z (rz : Rv X.K ρ ex H w z) => q ρ H z (Kp.refl _ _) rh rz
  unfold binO at e
  split at e
  · cases ra; cases rb; cases e
    exact op_add pins s σ H _ _ _ _ Q I rx ry ⟨_, _, rfl, rfl, same _ (.int _)⟩
  · cases ra; cases rb; cases e
    exact op_sub pins s σ H _ _ _ _ Q I rx ry ⟨_, _, rfl, rfl, same _ (.int _)⟩
  · cases ra; cases rb
    split at e
    · rename_i hc
      cases e
      have hc := (Bool.or_eq_true_iff.mp hc).imp (fun z => mulOk_out z) (fun z => mulOk_out z)
      exact op_mul pins s σ H _ _ _ _ Q I rx ry ⟨_, _, rfl, rfl, hc, same _ (.int _)⟩
    · cases e
  · cases ra; cases rb
    split at e
    · rename_i hc
      cases e
      exact op_fdiv pins s σ H _ _ _ _ Q I rx ry ⟨_, _, rfl, rfl, divOk_out hc, same _ (.int _)⟩
    · cases e
  · cases ra; cases rb
    split at e
    · rename_i hc
      cases e
      exact op_mod pins s σ H _ _ _ _ Q I rx ry ⟨_, _, rfl, rfl, hc, same _ (.int _)⟩
    · cases e
  · cases ra with
    | str r1 =>
      cases rb with
      | str r2 =>
        split at e
        · rename_i hc
          cases e
          exact op_add_str pins s σ H _ _ _ _ Q I rx ry ⟨_, _, rfl, rfl, by rw [r1.length, r2.length, ← line_eq]; exact hc, same _ (.str (r1.append r2 hc))⟩
        · cases e
  · cases ra with
    | str r1 =>
      cases rb
      split at e
      · rename_i hc
        cases e
        obtain ⟨t, rfl⟩ := rx
        obtain ⟨t', rfl⟩ := ry
        obtain ⟨hc1, hc4⟩ := hc
        obtain ⟨hc2, hc3⟩ := rng62 hc4
        refine mul_text hc2 hc3 (by rw [r1.length, ← line_eq]; exact hc1) fun t' s' ⟨k, es⟩ => ?_
        subst es
        rw [r1.eq]
        exact ⟨.str _, H, I.tok k, ⟨_, rfl⟩, same _ (.str (.mk' (by rw [rep_length]; exact hc1) (r1.ok.rep _)))⟩
      · cases e
  · split at e
    · rename_i hc
      cases e
      obtain ⟨hc1, hc2, hc3⟩ := hc
      obtain ⟨a1, vs1, rfl, s1, r1⟩ := ra.tupT
      obtain ⟨a2, vs2, rfl, s2, r2⟩ := rb.tupT
      have n1 : vs1 ≠ [] := fun z => hc2 (List.eq_nil_of_length_eq_zero (by rw [r1.length, z]; rfl))
      have n2 : vs2 ≠ [] := fun z => hc3 (List.eq_nil_of_length_eq_zero (by rw [r2.length, z]; rfl))
      refine op_catT pins s σ H _ _ _ _ Q I rx ry ⟨_, _, _, _, rfl, rfl, s1, s2, n1, by rw [← r1.length, ← r2.length, ← line_eq]; exact hc1, fun z => absurd z n2, fun _ p hp => ?_⟩
      exact q ρ _ _ (Kp.laid hp) (rh.laid hp) (Rv.newT rh hp (r1.append r2))
    · cases e
  · cases rb
    split at e
    · rename_i hc
      cases e
      obtain ⟨hc1, hc4⟩ := hc
      obtain ⟨hc2, hc3⟩ := rng62 hc4
      obtain ⟨a1, vs1, rfl, s1, r1⟩ := ra.tupT
      refine op_repA pins s σ H _ _ _ _ Q I rx ry ⟨_, _, _, rfl, rfl, s1, hc2, hc3, by rw [← r1.length, ← line_eq]; exact hc1, fun z => ?_, fun p hp => ?_⟩
      · cases ra with
        | tup ia r1' =>
          rename_i vs'
          have e2 : vs' = vs1 := by
            have z1 : SqT X.K H a1 vs' := ia.elim (fun z => .inl z.1) .inr
            exact I.tuple_inj z1 s1
          subst e2
          refine same _ (.tup ia ?_)
          rw [← z]
          exact r1'.rep _
      · exact q ρ _ _ (Kp.laid hp) (rh.laid hp) (Rv.newT rh hp (r1.rep _))
    · cases e
  · split at e
    · rename_i l2 el
      split at e
      · rename_i hc
        cases e
        obtain ⟨a2, vs2, rfl, s2, r2⟩ := rb.asList rh el
        cases ra with
        | lst s1 _ r1 =>
          refine op_cat pins s σ H _ _ _ _ Q I rx ry ⟨_, _, _, _, rfl, rfl, s1, s2, by rw [← r1.length, ← r2.length, ← line_eq]; exact hc, fun p hp => ?_⟩
          exact q ρ _ _ (Kp.laid hp) (rh.laid hp) (Rv.newL rh hp (r1.append r2))
      · cases e
    · cases e
  · split at e
    · rename_i l1 l2 e1 e2
      split at e
      · rename_i hc
        cases e
        obtain ⟨a1, vs1, rfl, s1, r1⟩ := ra.asList rh e1
        obtain ⟨a2, vs2, rfl, s2, r2⟩ := rb.asList rh e2
        refine op_cat pins s σ H _ _ _ _ Q I rx ry ⟨_, _, _, _, rfl, rfl, s1, s2, by rw [← r1.length, ← r2.length, ← line_eq]; exact hc, fun p hp => ?_⟩
        exact q ρ _ _ (Kp.laid hp) (rh.laid hp) (Rv.newL rh hp (r1.append r2))
      · cases e
    · cases e
  · cases rb
    split at e
    · rename_i hc
      cases e
      obtain ⟨hc1, hc4⟩ := hc
      obtain ⟨hc2, hc3⟩ := rng62 hc4
      cases ra with
      | lst s1 _ r1 =>
        refine op_rep pins s σ H _ _ _ _ Q I rx ry ⟨_, _, _, rfl, rfl, s1, by omega, by omega, by rw [← r1.length, ← line_eq]; exact hc1, fun p hp => ?_⟩
        rw [rep_flat]
        exact q ρ _ _ (Kp.laid hp) (rh.laid hp) (Rv.newL rh hp (r1.rep _))
    · cases e
  · cases e
end
end Y

set_option maxHeartbeats 1000000
namespace Y
open PySem PySem.Spec PyProof.Rows L2

/-! ### == on plain values -/
mutual
def toD : PV → PyData
  | .non => .none
  | .int i => .int i
  | .str s => .str ⟨s.toArray⟩
  | .tup l => .tuple (toDs l)
  | .lst l => .list (toDs l)
  | _ => .none
def toDs : List PV → List PyData
  | [] => []
  | a :: r => toD a :: toDs r
end
section
variable {X : Cx} {T : Tab} {K : PySem.W.Frag} {ρ : Pl} {ex : List Addr} {H : Hp}
mutual
theorem Rv.dp : ∀ (d : PV) (v : V), d.plain = true → Rv K ρ ex H d v → Dp K H v (toD d)
  | .non, _, _, h => by cases h; exact .non
  | .int _, _, _, h => by cases h; exact .int _
  | .str s, _, _, h => by
    cases h with
    | str r => rw [toD, ← r.is]; exact .str _
  | .tup l, _, p, h => by
    obtain ⟨a, vs, rfl, s, r⟩ := h.tupT
    exact .tup s (Rvs.dp l _ (by simpa [PV.plain] using p) r)
  | .lst l, _, p, h => by
    cases h with
    | lst a _ r => exact .lst (.inl (.inl a)) (Rvs.dp l _ (by simpa [PV.plain] using p) r)
  | .bl _, _, p, _ => by simp [PV.plain] at p
  | .dct _, _, p, _ => by simp [PV.plain] at p
  | .ref _, _, p, _ => by simp [PV.plain] at p
  | .exn _ _, _, p, _ => by simp [PV.plain] at p
  | .scr _, _, p, _ => by simp [PV.plain] at p
theorem Rvs.dp : ∀ (ds : List PV) (vs : List V), PV.plainL ds = true → Rvs K ρ ex H ds vs → DpAll K H vs (toDs ds)
  | [], _, _, h => by cases h; exact .nil
  | d :: ds, _, p, h => by
    cases h with
    | cons a r =>
      have p' : d.plain = true ∧ PV.plainL ds = true := by simpa [PV.plainL] using p
      exact .cons (Rv.dp d _ p'.1 a) (Rvs.dp ds _ p'.2 r)
end
mutual
theorem toD_lay : ∀ (d : PV) (v : V), d.plain = true → Rv K ρ ex H d v → (toD d).canLay0 = true
  | .non, _, _, h => by simp [toD, PyData.canLay0]
  | .int _, _, _, h => by simp [toD, PyData.canLay0]
  | .str s, _, _, h => by
    cases h with
    | str r =>
      simp only [toD, PyData.canLay0, PyData.strOk]
      simp only [List.all_toArray, List.all_eq_true, decide_eq_true_eq]
      intro c hc
      exact r.ok c hc
  | .tup l, _, p, h => by
    obtain ⟨a, vs, rfl, s, r⟩ := h.tupT
    simp only [toD, PyData.canLay0]
    exact toDs_lay l _ (by simpa [PV.plain] using p) r
  | .lst l, _, p, h => by
    cases h with
    | lst a _ r =>
      simp only [toD, PyData.canLay0]
      exact toDs_lay l _ (by simpa [PV.plain] using p) r
  | .bl _, _, p, _ => by simp [PV.plain] at p
  | .dct _, _, p, _ => by simp [PV.plain] at p
  | .ref _, _, p, _ => by simp [PV.plain] at p
  | .exn _ _, _, p, _ => by simp [PV.plain] at p
  | .scr _, _, p, _ => by simp [PV.plain] at p
theorem toDs_lay : ∀ (ds : List PV) (vs : List V), PV.plainL ds = true → Rvs K ρ ex H ds vs → PyData.canLayAll0 (toDs ds) = true
  | [], _, _, h => by simp [toDs, PyData.canLayAll0]
  | d :: ds, _, p, h => by
    cases h with
    | cons a r =>
      have p' : d.plain = true ∧ PV.plainL ds = true := by simpa [PV.plainL] using p
      simp only [toDs, PyData.canLayAll0, toD_lay d _ p'.1 a, toDs_lay ds _ p'.2 r, Bool.and_self]
end
mutual
theorem toD_dep : ∀ (d : PV), (toD d).depth ≤ d.dep
  | .non => by simp [toD, PyData.depth]
  | .int _ => by simp [toD, PyData.depth]
  | .str s => by simp [toD, PyData.depth]
  | .tup l => by have := toDs_dep l; simp only [toD, PyData.depth, PV.dep]; omega
  | .lst l => by have := toDs_dep l; simp only [toD, PyData.depth, PV.dep]; omega
  | .bl _ => by simp [toD, PyData.depth]
  | .dct _ => by simp [toD, PyData.depth]
  | .ref _ => by simp [toD, PyData.depth]
  | .exn _ _ => by simp [toD, PyData.depth]
  | .scr _ => by simp [toD, PyData.depth]
theorem toDs_dep : ∀ (ds : List PV), PyData.depthAll (toDs ds) ≤ PV.depL ds
  | [] => by simp [toDs, PyData.depthAll, PV.depL]
  | d :: ds => by
    have h1 := toD_dep d
    have h2 := toDs_dep ds
    simp only [toDs, PyData.depthAll, PV.depL]
    omega
end
theorem str_toArray {a b : List Nat} : (({ cps := a.toArray } : Str) == { cps := b.toArray }) = decide (a = b) := by
  by_cases h : a = b
  · subst h; simp
  · rw [decide_eq_false h]
    refine beq_eq_false_iff_ne.mpr fun e => h ?_
    have := congrArg (fun z => z.cps.toList) e
    simpa using this
theorem dec_tup {a b : List PV} : decide (PV.tup a = PV.tup b) = decide (a = b) := by simp
theorem dec_lst {a b : List PV} : decide (PV.lst a = PV.lst b) = decide (a = b) := by simp
theorem dec_strP {a b : List Nat} : decide (PV.str a = PV.str b) = decide (a = b) := by simp
theorem dec_intP {a b : Int} : decide (PV.int a = PV.int b) = (a == b) := by
  by_cases h : a = b
  · subst h; simp
  · simp [h]
mutual
theorem toD_eqv : ∀ (a b : PV), a.plain = true → b.plain = true → PyData.eqv (toD a) (toD b) = decide (a = b)
  | .non, b, _, q => by cases b <;> first | (simp [toD, PyData.eqv]; done) | (simp [PV.plain] at q; done)
  | .int i, b, _, q => by
    cases b <;> first | (rw [dec_intP]; simp [toD, PyData.eqv]; done) | (simp [toD, PyData.eqv]; done) | (simp [PV.plain] at q; done)
  | .str s, b, _, q => by
    cases b <;> first | (rw [dec_strP]; simp only [toD, PyData.eqv]; exact str_toArray) | (simp [toD, PyData.eqv]; done) | (simp [PV.plain] at q; done)
  | .tup l, b, p, q => by
    cases b <;> first | (rw [dec_tup]; simp only [toD, PyData.eqv]; exact toDs_eqv l _ (by simpa [PV.plain] using p) (by simpa [PV.plain] using q)) | (simp [toD, PyData.eqv]; done) | (simp [PV.plain] at q; done)
  | .lst l, b, p, q => by
    cases b <;> first | (rw [dec_lst]; simp only [toD, PyData.eqv]; exact toDs_eqv l _ (by simpa [PV.plain] using p) (by simpa [PV.plain] using q)) | (simp [toD, PyData.eqv]; done) | (simp [PV.plain] at q; done)
  | .bl _, _, p, _ => by simp [PV.plain] at p
  | .dct _, _, p, _ => by simp [PV.plain] at p
  | .ref _, _, p, _ => by simp [PV.plain] at p
  | .exn _ _, _, p, _ => by simp [PV.plain] at p
  | .scr _, _, p, _ => by simp [PV.plain] at p
theorem toDs_eqv : ∀ (a b : List PV), PV.plainL a = true → PV.plainL b = true → PyData.eqvAll (toDs a) (toDs b) = decide (a = b)
  | [], [], _, _ => by simp [toDs, PyData.eqvAll]
  | [], _ :: _, _, _ => by simp [toDs, PyData.eqvAll]
  | _ :: _, [], _, _ => by simp [toDs, PyData.eqvAll]
  | a :: r, b :: t, p, q => by
    have p' : a.plain = true ∧ PV.plainL r = true := by simpa [PV.plainL] using p
    have q' : b.plain = true ∧ PV.plainL t = true := by simpa [PV.plainL] using q
    simp only [toDs, PyData.eqvAll, toD_eqv a b p'.1 q'.1, toDs_eqv r t p'.2 q'.2]
    simp
end
/-- a list of the heap is read as it stands -/
theorem Rv.look {h : VH} {u : PV} {x : V} (rh : Rh T K ρ ex H h) (r : Rv K ρ ex H u x) (hp : (Y.look u h).plain = true) : Dp K H x (toD (Y.look u h)) ∧ (toD (Y.look u h)).canLay0 = true := by
  cases u with
  | ref n =>
    unfold Y.look at hp ⊢
    simp only at hp ⊢
    split at hp
    · rename_i l e
      obtain ⟨a, vs, rfl, _, e2, r2⟩ := rh.lst e r
      have p : PV.plainL l = true := by simpa [PV.plain] using hp
      rw [toD]
      exact ⟨.lst (.inl (.inl e2)) (Rvs.dp l _ p r2), by rw [PyData.canLay0]; exact toDs_lay l _ p r2⟩
    · simp [PV.plain] at hp
  | non => exact ⟨Rv.dp _ _ hp r, toD_lay _ _ hp r⟩
  | bl _ => simp [Y.look, PV.plain] at hp
  | int _ => exact ⟨Rv.dp _ _ hp r, toD_lay _ _ hp r⟩
  | str _ => exact ⟨Rv.dp _ _ hp r, toD_lay _ _ hp r⟩
  | tup _ => exact ⟨Rv.dp _ _ hp r, toD_lay _ _ hp r⟩
  | lst _ => exact ⟨Rv.dp _ _ hp r, toD_lay _ _ hp r⟩
  | dct _ => simp [Y.look, PV.plain] at hp
  | exn _ _ => simp [Y.look, PV.plain] at hp
  | scr _ => simp [Y.look, PV.plain] at hp
theorem look_bl {h : VH} {u : PV} {b : Bool} (e : Y.look u h = .bl b) : u = .bl b := by
  cases u <;> simp only [Y.look] at e <;> first | exact e | (split at e <;> cases e)
theorem shaped_of {d : PV} (l : (toD d).canLay0 = true) (hd : d.dep ≤ 60) : SeqAt.shaped (toD d) = true := by
  have := toD_dep d
  unfold SeqAt.shaped
  rw [l, Bool.true_and]
  exact decide_eq_true (by omega)
theorem eqO_out {a b : PV} {r : Bool} (e : eqO a b = some r) : (∃ x y, a = .bl x ∧ b = .bl y ∧ r = (x == y)) ∨ (a.plain = true ∧ b.plain = true ∧ a.dep ≤ 60 ∧ b.dep ≤ 60 ∧ r = decide (a = b)) := by
  unfold eqO at e
  split at e
  · cases e; exact .inl ⟨_, _, rfl, rfl, rfl⟩
  · split at e
    · rename_i hc
      cases e
      simp only [Bool.and_eq_true] at hc
      obtain ⟨⟨⟨p1, p2⟩, d1⟩, d2⟩ := hc
      exact .inr ⟨p1, p2, Nat.le_of_ble_eq_true d1, Nat.le_of_ble_eq_true d2, rfl⟩
    · cases e
theorem o_eq (hu : X.A.units + 64 < cLine) : OpR X (compareOp .Eq) (rO2 T X.K (cmpV .Eq)) := by
  intro pins s σ H x y v u Q I rx ry h
  obtain ⟨ρ, ex, hp, a, b, w, rh, ra, rb, e, q⟩ := h
  have same := fun z (rz : Rv X.K ρ ex H w z) => q ρ H z (Kp.refl _ _) rh rz
  unfold cmpV cmpO at e
  obtain ⟨r, e0, ew⟩ := Option.map_eq_some_iff.mp e
  subst ew
  rcases eqO_out e0 with ⟨a', b', ea, eb, er⟩ | ⟨p1, p2, d1, d2, er⟩
  · have e1 := look_bl ea
    have e2 := look_bl eb
    subst e1 e2
    cases ra; cases rb
    refine op_eq pins s σ H _ _ _ _ Q I rx ry ⟨rfl, ?_⟩
    rw [dec_bl, ← er]
    exact same _ (.bl _)
  · obtain ⟨r1, l1⟩ := ra.look rh p1
    obtain ⟨r2, l2⟩ := rb.look rh p2
    refine op_eqD hu pins s σ H _ _ _ _ Q I rx ry ⟨_, _, r1, r2, shaped_of l1 d1, shaped_of l2 d2, ?_⟩
    rw [toD_eqv _ _ p1 p2, ← er]
    exact same _ (.bl _)
theorem o_ne (hu : X.A.units + 64 < cLine) : OpR X (compareOp .NotEq) (rO2 T X.K (cmpV .NotEq)) := by
  intro pins s σ H x y v u Q I rx ry h
  obtain ⟨ρ, ex, hp, a, b, w, rh, ra, rb, e, q⟩ := h
  have same := fun z (rz : Rv X.K ρ ex H w z) => q ρ H z (Kp.refl _ _) rh rz
  unfold cmpV cmpO at e
  obtain ⟨r', e1, ew⟩ := Option.map_eq_some_iff.mp e
  obtain ⟨r, e0, ew'⟩ := Option.map_eq_some_iff.mp e1
  subst ew
  subst ew'
  rcases eqO_out e0 with ⟨a', b', ea, eb, er⟩ | ⟨p1, p2, d1, d2, er⟩
  · have e1 := look_bl ea
    have e2 := look_bl eb
    subst e1 e2
    cases ra; cases rb
    refine op_ne pins s σ H _ _ _ _ Q I rx ry ⟨rfl, ?_⟩
    rw [dec_bl, ← er]
    exact same _ (.bl _)
  · obtain ⟨r1, l1⟩ := ra.look rh p1
    obtain ⟨r2, l2⟩ := rb.look rh p2
    refine op_neD hu pins s σ H _ _ _ _ Q I rx ry ⟨_, _, r1, r2, shaped_of l1 d1, shaped_of l2 d2, ?_⟩
    rw [toD_eqv _ _ p1 p2, ← er]
    exact same _ (.bl _)
/-! ### order, is -/
theorem strLt_eq : ∀ (a b : List Nat), strLt a b = decide (a < b)
  | a, [] => by cases a <;> simp [strLt]
  | [], _ :: _ => by simp [strLt]
  | a :: r, b :: s => by
    rw [strLt]
    by_cases h : a = b
    · subst h
      rw [if_pos rfl, strLt_eq r s]
      exact decide_eq_decide.mpr ⟨fun q => List.cons_lt_cons_self.mpr q, fun q => List.cons_lt_cons_self.mp q⟩
    · rw [if_neg h]
      exact decide_eq_decide.mpr (by rw [List.cons_lt_cons_iff]; exact ⟨fun q => .inl q, fun q => q.elim id fun z => absurd z.1 h⟩)

theorem o_lt : OpR X (compareOp .Lt) (rO2 T X.K (cmpV .Lt)) := by
  intro pins s σ H x y v u Q I rx ry h
  obtain ⟨ρ, ex, hp, a, b, w, rh, ra, rb, e, q⟩ := h
  have same := fun z (rz : Rv X.K ρ ex H w z) => q ρ H z (Kp.refl _ _) rh rz
  unfold cmpV cmpO at e
  simp only at e
  split at e
  · cases e; cases ra; cases rb
    exact op_lt pins s σ H _ _ _ _ Q I rx ry ⟨_, _, rfl, rfl, same _ (.bl _)⟩
  · cases e
    cases ra with
    | str r1 =>
      cases rb with
      | str r2 =>
        refine op_lt_str pins s σ H _ _ _ _ Q I rx ry ⟨_, _, rfl, rfl, ?_⟩
        rw [r1.eq, r2.eq]
        rw [strLt_eq] at same
        exact same _ (.bl _)
  · cases e
theorem o_le : OpR X (compareOp .LtE) (rO2 T X.K (cmpV .LtE)) := by
  intro pins s σ H x y v u Q I rx ry h
  obtain ⟨ρ, ex, hp, a, b, w, rh, ra, rb, e, q⟩ := h
  have same := fun z (rz : Rv X.K ρ ex H w z) => q ρ H z (Kp.refl _ _) rh rz
  unfold cmpV cmpO at e
  simp only at e
  split at e
  · cases e; cases ra; cases rb
    exact op_le pins s σ H _ _ _ _ Q I rx ry ⟨_, _, rfl, rfl, same _ (.bl _)⟩
  · cases e
    cases ra with
    | str r1 =>
      cases rb with
      | str r2 =>
        refine op_le_str pins s σ H _ _ _ _ Q I rx ry ⟨_, _, rfl, rfl, ?_⟩
        rw [r1.eq, r2.eq]
        rw [strLt_eq] at same
        first
          | exact same _ (.bl _)
          | (rw [← decide_not] at same; exact same _ (.bl _))
  · cases e
theorem o_gt : OpR X (compareOp .Gt) (rO2 T X.K (cmpV .Gt)) := by
  intro pins s σ H x y v u Q I rx ry h
  obtain ⟨ρ, ex, hp, a, b, w, rh, ra, rb, e, q⟩ := h
  have same := fun z (rz : Rv X.K ρ ex H w z) => q ρ H z (Kp.refl _ _) rh rz
  unfold cmpV cmpO at e
  simp only at e
  split at e
  · cases e; cases ra; cases rb
    exact op_gt pins s σ H _ _ _ _ Q I rx ry ⟨_, _, rfl, rfl, same _ (.bl _)⟩
  · cases e
    cases ra with
    | str r1 =>
      cases rb with
      | str r2 =>
        refine op_gt_str pins s σ H _ _ _ _ Q I rx ry ⟨_, _, rfl, rfl, ?_⟩
        rw [r1.eq, r2.eq]
        rw [strLt_eq] at same
        exact same _ (.bl _)
  · cases e
theorem o_ge : OpR X (compareOp .GtE) (rO2 T X.K (cmpV .GtE)) := by
  intro pins s σ H x y v u Q I rx ry h
  obtain ⟨ρ, ex, hp, a, b, w, rh, ra, rb, e, q⟩ := h
  have same := fun z (rz : Rv X.K ρ ex H w z) => q ρ H z (Kp.refl _ _) rh rz
  unfold cmpV cmpO at e
  simp only at e
  split at e
  · cases e; cases ra; cases rb
    exact op_ge pins s σ H _ _ _ _ Q I rx ry ⟨_, _, rfl, rfl, same _ (.bl _)⟩
  · cases e
    cases ra with
    | str r1 =>
      cases rb with
      | str r2 =>
        refine op_ge_str pins s σ H _ _ _ _ Q I rx ry ⟨_, _, rfl, rfl, ?_⟩
        rw [r1.eq, r2.eq]
        rw [strLt_eq] at same
        first
          | exact same _ (.bl _)
          | (rw [← decide_not] at same; exact same _ (.bl _))
  · cases e
theorem non_iff {u : PV} {x : V} (r : Rv K ρ ex H u x) (hn : ∀ n, u ≠ .ref n) : decide (x = .non) = decide (u = .non) := by
  cases r <;> simp
theorem ref_iff {n : Nat} {x : V} (r : Rv K ρ ex H (.ref n) x) : decide (x = .non) = decide (PV.ref n = .non) := by
  cases r; simp
theorem isN_iff {u : PV} {x : V} (r : Rv K ρ ex H u x) : decide (x = .non) = decide (u = .non) := by
  cases r <;> simp
theorem o_is : OpR X (compareOp .Is) (rO2 T X.K (cmpV .Is)) := by
  intro pins s σ H x y v u Q I rx ry h
  obtain ⟨ρ, ex, hp, a, b, w, rh, ra, rb, e, q⟩ := h
  have same := fun z (rz : Rv X.K ρ ex H w z) => q ρ H z (Kp.refl _ _) rh rz
  unfold cmpV cmpO at e
  simp only at e
  split at e
  · rename_i hb
    cases e
    subst hb
    cases rb
    refine op_isN pins s σ H _ _ _ _ Q I rx ry ⟨rfl, ?_⟩
    rw [isN_iff ra]
    exact same _ (.bl _)
  · cases e
theorem o_isnot : OpR X (compareOp .IsNot) (rO2 T X.K (cmpV .IsNot)) := by
  intro pins s σ H x y v u Q I rx ry h
  obtain ⟨ρ, ex, hp, a, b, w, rh, ra, rb, e, q⟩ := h
  have same := fun z (rz : Rv X.K ρ ex H w z) => q ρ H z (Kp.refl _ _) rh rz
  unfold cmpV cmpO at e
  simp only at e
  split at e
  · rename_i hb
    cases e
    subst hb
    cases rb
    refine op_notN pins s σ H _ _ _ _ Q I rx ry ⟨rfl, ?_⟩
    rw [isN_iff ra]
    exact same _ (.bl _)
  · cases e

/-! ### in -/
theorem toD_mem {x : PV} (px : x.plain = true) : ∀ {l : List PV}, PV.plainL l = true → ((toDs l).any fun z => PyData.eqv z (toD x)) = decide (x ∈ l)
  | [], _ => by simp [toDs]
  | a :: r, p => by
    have p' : a.plain = true ∧ PV.plainL r = true := by simpa [PV.plainL] using p
    simp only [toDs, List.any_cons, toD_eqv a x p'.1 px, toD_mem px p'.2, List.mem_cons]
    by_cases h : a = x
    · subst h; simp
    · have h' : ¬ x = a := fun e => h e.symm
      simp [h, h']
theorem flat_of {d : PV} {v : V} (p : d.plain = true) (h0 : d.dep = 0) (r : Rv K ρ ex H d v) : flatV v = true := by
  cases r <;> first | rfl | (simp [PV.plain] at p; done) | (simp [PV.dep] at h0; done)
theorem flats_of : ∀ {ds : List PV} {vs : List V}, PV.plainL ds = true → PV.depL ds = 0 → Rvs K ρ ex H ds vs → vs.all flatV = true
  | [], _, _, _, h => by cases h; rfl
  | d :: ds, _, p, h0, h => by
    cases h with
    | cons a r =>
      have p' : d.plain = true ∧ PV.plainL ds = true := by simpa [PV.plainL] using p
      simp only [PV.depL] at h0
      rw [List.all_cons, flat_of p'.1 (by omega) a, flats_of p'.2 (by omega) r]; rfl
theorem eqV_of {a b : PV} {x y : V} (pa : a.plain = true) (pb : b.plain = true) (ha : a.dep = 0) (hb : b.dep = 0) (ra : Rv K ρ ex H a x) (rb : Rv K ρ ex H b y) : eqV x y = decide (a = b) := by
  cases ra <;> cases rb <;> first
    | (simp [PV.plain] at pa; done) | (simp [PV.plain] at pb; done) | (simp [PV.dep] at ha; done) | (simp [PV.dep] at hb; done)
    | (rename_i r1 _ _ r2
       simp only [eqV, PV.str.injEq]
       rw [r1.is, r2.is]
       exact str_toArray)
    | (simp only [eqV, PV.int.injEq]; exact Bool.eq_iff_iff.mpr (by simp))
    | (simp [eqV]; done)
theorem inV_of {a : PV} {x : V} (pa : a.plain = true) (ha : a.dep = 0) (ra : Rv K ρ ex H a x) : ∀ {l : List PV} {vs : List V}, PV.plainL l = true → PV.depL l = 0 → Rvs K ρ ex H l vs → inV x vs = decide (a ∈ l)
  | [], _, _, _, h => by cases h; simp [inV]
  | d :: ds, _, p, h0, h => by
    cases h with
    | cons b r =>
      have p' : d.plain = true ∧ PV.plainL ds = true := by simpa [PV.plainL] using p
      simp only [PV.depL] at h0
      have ih := inV_of pa ha ra p'.2 (by omega) r
      unfold inV at ih ⊢
      rw [List.any_cons, eqV_of p'.1 pa (by omega) ha b ra, ih]
      by_cases h : d = a
      · subst h; simp
      · have h' : ¬ a = d := fun e => h e.symm
        simp [h, h']
theorem pre_take : ∀ (a l : List Nat), Y.pre a l = (l.take a.length == a)
  | [], l => by simp [Y.pre]
  | x :: a, [] => by simp [Y.pre]
  | x :: a, y :: l => by
    rw [Y.pre, pre_take a l]
    rw [List.length_cons, List.take_succ_cons]
    by_cases h : x = y
    · subst h; simp
    · have h' : ¬ y = x := fun e => h e.symm
      have e1 : (x == y) = false := beq_eq_false_iff_ne.mpr h
      have e2 : (y :: List.take a.length l == x :: a) = false := beq_eq_false_iff_ne.mpr fun e => h' (List.cons.inj e).1
      rw [e1, e2, Bool.false_and]
theorem within_iff (a : List Nat) : ∀ l : List Nat, within a l = true ↔ ∃ i, i + a.length ≤ l.length ∧ (l.drop i).take a.length = a
  | [] => by
    rw [within]
    constructor
    · intro h
      have : a = [] := by simpa using h
      subst this
      exact ⟨0, by simp, by simp⟩
    · rintro ⟨i, h, _⟩
      have : a = [] := List.eq_nil_of_length_eq_zero (by have h : i + a.length ≤ 0 := h; omega)
      subst this; rfl
  | y :: l => by
    rw [within, Bool.or_eq_true, pre_take, within_iff a l]
    constructor
    · rintro (h | ⟨i, h1, h2⟩)
      · have h : (y :: l).take a.length = a := by simpa using h
        refine ⟨0, ?_, by simpa using h⟩
        have := congrArg List.length h
        rw [List.length_take] at this
        have e0 : (y :: l).length = l.length + 1 := rfl
        omega
      · exact ⟨i + 1, by rw [List.length_cons]; omega, by simpa using h2⟩
    · rintro ⟨i, h1, h2⟩
      cases i with
      | zero => exact .inl (by simpa using h2)
      | succ i => exact .inr ⟨i, by rw [List.length_cons] at h1; omega, by simpa using h2⟩
theorem within_occ {a b : List Nat} {x y : Str} (ra : StrR a x) (rb : StrR b y) : (!(Builtin.Str.occurrences y x 0 y.length 1).isEmpty) = within a b := by
  refine Bool.eq_iff_iff.mpr ?_
  rw [StrLaws.found_iff, within_iff]
  have key : ∀ i, (Builtin.Str.subAt y x i = true ↔ (b.drop i).take a.length = a) := fun i => by
    rw [StrLaws.subAt_eq, ra.eq, rb.eq, ra.length]
    simp
  rw [ra.length, rb.length]
  exact ⟨fun ⟨i, h1, h2⟩ => ⟨i, h1, (key i).mp h2⟩, fun ⟨i, h1, h2⟩ => ⟨i, h1, (key i).mpr h2⟩⟩

theorem key_is {k : PV} {k' : Key} {x : V} (r : KeyR k k') (rx : Rv K ρ ex H k x) : x = kV k' := by
  cases r with
  | int i => cases rx; rfl
  | str r =>
    cases rx with
    | str q => rw [r.is, q.is]; rfl
theorem keyR_of {k : PV} {x : V} (h : keyOk k = true) (rx : Rv K ρ ex H k x) : ∃ k', KeyR k k' ∧ x = kV k' := by
  cases rx with
  | int i => exact ⟨_, .int i, rfl⟩
  | str r => exact ⟨_, .str r, rfl⟩
  | _ => cases h
theorem keyR_dec {j k : PV} {j' k' : Key} (r : KeyR j j') (q : KeyR k k') : decide (j' = k') = decide (j = k) := by
  cases r with
  | int i =>
    cases q with
    | int l => exact decide_eq_decide.mpr ⟨fun e => (by cases e; rfl), fun e => (by cases e; rfl)⟩
    | str _ => exact decide_eq_decide.mpr ⟨fun e => (by cases e), fun e => (by cases e)⟩
  | str r =>
    cases q with
    | int l => exact decide_eq_decide.mpr ⟨fun e => (by cases e), fun e => (by cases e)⟩
    | str q =>
      refine decide_eq_decide.mpr ⟨fun e => ?_, fun e => ?_⟩
      · have e := Sum.inr.inj e
        subst e
        rw [r.inj q]
      · cases e
        rw [r.is, q.is]
theorem kget_val {k : PV} {k' : Key} (r : KeyR k k') : ∀ {kvs : List (PV × PV)} {vs : List (Key × V)}, Rks K ρ ex H kvs vs → (∀ v, kget kvs k = some v → ∃ x, valV vs k' = some x ∧ Rv K ρ ex H v x) ∧ (kget kvs k = none → valV vs k' = none)
  | [], _, h => by cases h; exact ⟨fun _ e => (by cases e), fun _ => rfl⟩
  | (j, d) :: ds, _, h => by
    cases h with
    | cons rj a q =>
      rename_i j' v vs
      have ih := kget_val r q
      by_cases e : j = k
      · have e' : j' = k' := of_decide_eq_true ((keyR_dec rj r).trans (decide_eq_true e))
        have g : kget ((j, d) :: ds) k = some d := by simp [kget, List.find?_cons, e]
        have g' : valV ((j', v) :: vs) k' = some v := valV_pos e'
        exact ⟨fun w ew => (by rw [g] at ew; cases ew; exact ⟨v, g', a⟩), fun ew => (by rw [g] at ew; cases ew)⟩
      · have e' : ¬ j' = k' := of_decide_eq_false ((keyR_dec rj r).trans (decide_eq_false e))
        have g : kget ((j, d) :: ds) k = kget ds k := by simp [kget, List.find?_cons, e]
        have g' : valV ((j', v) :: vs) k' = valV vs k' := valV_neg e'
        rw [g, g']
        exact ih
theorem kget_some {k : PV} {k' : Key} (r : KeyR k k') {kvs : List (PV × PV)} {vs : List (Key × V)} (q : Rks K ρ ex H kvs vs) : (valV vs k').isSome = (kget kvs k).isSome := by
  have h := kget_val r q
  cases e : kget kvs k with
  | none => rw [h.2 e]; rfl
  | some v => obtain ⟨x, ex, _⟩ := h.1 v e; rw [ex]; rfl
theorem Rv.asDict {h : VH} {u : PV} {kvs : List (PV × PV)} {x : V} (rh : Rh T K ρ ex H h) (e : Y.asDict u h = some kvs) (rx : Rv K ρ ex H u x) : ∃ a vs, x = .ref a ∧ Rd H a (.dK vs) ∧ Rks K ρ ex H kvs vs := by
  unfold Y.asDict at e
  split at e
  · cases e
    cases rx with
    | dct a _ r => exact ⟨_, _, rfl, a, r⟩
  · split at e
    · cases e
      rename_i el
      cases rx with
      | ref er =>
        obtain ⟨a, vs, e1, e2, r⟩ := rh.ob _ _ _ el er
        cases e1
        exact ⟨_, _, rfl, .inl e2, r⟩
    · cases e
      rename_i el
      cases rx with
      | ref er =>
        obtain ⟨a, o, vs, e1, e2, r⟩ := rh.ob _ _ _ el er
        cases e1
        exact ⟨_, _, rfl, .inr ⟨o, e2⟩, r⟩
    · cases e
  · cases e
/-- what «in» tells -/
theorem inO_run {neg : Bool} (hu : X.A.units + 65 < cLine) {pins : List (Addr × Obj)} {s : Shared} {σ : L2.St} {x y : V} {v u : Value} {Q : VK} {a b : PV} {hp : VH} {r : Bool} (I : Inv X pins σ H s) (rx : RelV x v) (ry : RelV y u) (rh : Rh T X.K ρ ex H hp) (ra : Rv X.K ρ ex H a x) (rb : Rv X.K ρ ex H b y)
    (e : inO a b hp = some r) (q : Q (.bl (if neg then !r else r)) H) : wpAny (model X.prog X.w) X.A (compareOp (if neg then .NotIn else .In) v u) (EP X pins σ Q) X.xe s := by
  unfold inO at e
  split at e
  · split at e
    · cases e
      cases ra with
      | str r1 =>
        cases rb with
        | str r2 =>
          rw [← within_occ r1 r2] at q
          cases neg with
          | false => exact op_in_str pins s σ H _ _ _ _ Q I rx ry ⟨_, _, rfl, rfl, q⟩
          | true => exact op_notin_str pins s σ H _ _ _ _ Q I rx ry ⟨_, _, rfl, rfl, q⟩
    · cases e
  · split at e
    · rename_i hc
      cases e
      simp only [Bool.and_eq_true] at hc
      obtain ⟨⟨⟨p1, p2⟩, d1⟩, d2⟩ := hc
      have d1 : a.dep = 0 := by have := Nat.le_of_ble_eq_true d1; omega
      have d2 := Nat.le_zero.mp (Nat.le_of_ble_eq_true d2)
      obtain ⟨a1, vs, rfl, s1, r1⟩ := rb.tupT
      have := inV_of p1 d1 ra p2 d2 r1
      cases neg with
      | false => exact op_in_seq pins s σ H _ _ _ _ Q I rx ry ⟨_, _, rfl, .inr s1, flat_of p1 d1 ra, flats_of p2 d2 r1, by rw [this]; exact q⟩
      | true => exact op_notIn_seq pins s σ H _ _ _ _ Q I rx ry ⟨_, _, rfl, .inr s1, flat_of p1 d1 ra, flats_of p2 d2 r1, by rw [this]; exact q⟩
    · cases e
  · split at e
    · rename_i l el
      split at e
      · rename_i hc
        cases e
        simp only [Bool.and_eq_true] at hc
        obtain ⟨⟨⟨p1, p2⟩, d1⟩, d2⟩ := hc
        have d1 := Nat.le_of_ble_eq_true d1
        have d2 := Nat.le_of_ble_eq_true d2
        obtain ⟨a1, vs, rfl, s1, r1⟩ := rb.asList rh el
        have g1 := Rv.dp _ _ p1 ra
        have g2 : Dp X.K H (.ref a1) (.list (toDs l)) := .lst (.inl (.inl s1)) (Rvs.dp _ _ p2 r1)
        have t1 : SeqAt.shaped (toD a) = true := shaped_of (toD_lay _ _ p1 ra) d1
        have t2 : SeqAt.shaped (.list (toDs l)) = true := by
          have z := shaped_of (d := .lst l) (by rw [toD, PyData.canLay0]; exact toDs_lay _ _ p2 r1) (by rw [PV.dep]; omega)
          rwa [toD] at z
        have := toD_mem p1 p2
        cases neg with
        | false => exact op_inD hu pins s σ H _ _ _ _ Q I rx ry ⟨_, _, g1, g2, t1, t2, by rw [this]; exact q⟩
        | true => exact op_notInD hu pins s σ H _ _ _ _ Q I rx ry ⟨_, _, g1, g2, t1, t2, by rw [this]; exact q⟩
      · cases e
    · split at e
      · rename_i kvs ek
        split at e
        · rename_i hk
          cases e
          obtain ⟨k', rk, rfl⟩ := keyR_of hk ra
          obtain ⟨a1, vs, rfl, s1, r1⟩ := rb.asDict rh ek
          cases (show u = Value.ref a1 from ry)
          have g : DGet H a1 (kV k') (valV vs k') := .inl ⟨vs, k', s1, rfl, rfl⟩
          rw [← kget_some rk r1] at q
          cases neg with
          | false => exact d_in (by omega) I g rx fun s' I' => ⟨.bl _, H, I', rfl, q⟩
          | true => exact d_notIn (by omega) I g rx fun s' I' => ⟨.bl _, H, I', rfl, q⟩
        · cases e
      · cases e
theorem o_in (hu : X.A.units + 65 < cLine) : OpR X (compareOp .In) (rO2 T X.K (cmpV .In)) := by
  intro pins s σ H x y v u Q I rx ry h
  obtain ⟨ρ, ex, hp, a, b, w, rh, ra, rb, e, q⟩ := h
  unfold cmpV cmpO at e
  obtain ⟨r, e0, ew⟩ := Option.map_eq_some_iff.mp e
  subst ew
  exact inO_run (neg := false) hu I rx ry rh ra rb e0 (q ρ H _ (Kp.refl _ _) rh (.bl _))
theorem o_notin (hu : X.A.units + 65 < cLine) : OpR X (compareOp .NotIn) (rO2 T X.K (cmpV .NotIn)) := by
  intro pins s σ H x y v u Q I rx ry h
  obtain ⟨ρ, ex, hp, a, b, w, rh, ra, rb, e, q⟩ := h
  unfold cmpV cmpO at e
  obtain ⟨r', e1, ew⟩ := Option.map_eq_some_iff.mp e
  obtain ⟨r, e0, ew'⟩ := Option.map_eq_some_iff.mp e1
  subst ew
  subst ew'
  exact inO_run (neg := true) hu I rx ry rh ra rb e0 (q ρ H _ (Kp.refl _ _) rh (.bl _))
/-- every comparison -/
theorem o_cmp (op : CmpOp) (hu : X.A.units + 65 < cLine) : OpR X (compareOp op) (rO2 T X.K (cmpV op)) := by
  cases op with
  | Eq => exact o_eq (by omega)
  | NotEq => exact o_ne (by omega)
  | Lt => exact o_lt
  | LtE => exact o_le
  | Gt => exact o_gt
  | GtE => exact o_ge
  | Is => exact o_is
  | IsNot => exact o_isnot
  | In => exact o_in hu
  | NotIn => exact o_notin hu
end
end Y

set_option maxHeartbeats 1000000
namespace Y
open PySem PySem.Spec PyProof.Rows L2
section
variable {X : Cx} {T : Tab} {K : PySem.W.Frag} {W : WX} {ρ : Pl} {ex : List Addr} {H : Hp} {h : VH}
/-! ### items -/
theorem ix_dict (hu : X.A.units + 1 < cLine) : IxR X (fun x y H Q => ∃ a v, x = .ref a ∧ DGet H a y (some v) ∧ Q v H) := by
  intro value slice pins s σ H x y v u Q I rx ry h hs
  obtain ⟨a, z, rfl, g, q⟩ := h
  cases (show v = Value.ref a from rx)
  have hT := dict_typeIs I g
  unfold subscriptTail
  refine wpAny_bind ?_
  rw [getitemInPython_of_ne hT.not_modules]
  refine wpAny_bind (wpAny_specialOf hT PySem.F.slot_dict_getitem.lookup ?_)
  have fin : wpAny (model X.prog X.w) X.A (subscripted slice false (.ref a) u) (fun r s₃ => wpAny (model X.prog X.w) X.A (letTemporaryGo value (.ref a) r >>= fun _ => pure r) (EP X pins σ Q) X.xe s₃) X.xe s := by
    rw [hs]
    exact wpAny_operating (wpAny_mono (d_getItem hu I g ry fun w' s' I' rw' => (⟨z, H, I', rw', q⟩ : EP X pins σ Q w' s')) (fun r s₃ h₃ => wpAny_bind (wpAny_letTemporaryGo (wpAny_pure h₃))) fun _ _ x => x)
  first
    | exact wpAny_pure (wpAny_bind fin)
    | exact wpAny_bind (wpAny_pure (wpAny_bind fin))
    | exact wpAny_bind fin
theorem atI_eq {α : Type} (l : List α) (i : Int) : L2.atI l i = itO l i := rfl
theorem Rvs.it {ds : List PV} {vs : List V} {i : Int} {d : PV} (r : Rvs K ρ ex H ds vs) (e : itO ds i = some d) : ∃ v, L2.atI vs i = some v ∧ Rv K ρ ex H d v := by
  unfold itO at e
  obtain ⟨j, e1, e2⟩ := Option.bind_eq_some_iff.mp e
  obtain ⟨v, h1, h2⟩ := r.get e2
  refine ⟨v, ?_, h2⟩
  show (ixN vs.length i).bind _ = _
  rw [← r.length]
  show (Y.atI ds.length i).bind _ = _
  rw [e1]
  exact h1
theorem itO_mem {α : Type} {l : List α} {i : Int} {c : α} (e : itO l i = some c) : c ∈ l := by
  unfold itO at e
  obtain ⟨j, e1, e2⟩ := Option.bind_eq_some_iff.mp e
  exact List.mem_of_getElem? e2
theorem one_str {c : Nat} {s : List Nat} {z : Str} (r : StrR s z) (h : c ∈ s) : StrR [c] ⟨#[c]⟩ :=
  ⟨rfl, by show 1 ≤ line; decide, fun d hd => by rw [List.mem_singleton.mp hd]; exact r.ok c h⟩
theorem o_ix (hu : X.A.units + 1 < cLine) : IxR X (rO2 T X.K ixO) := by
  intro value slice pins s σ H x y v u Q I rx ry h hs
  obtain ⟨ρ, ex, hp, a, b, w, rh, ra, rb, e, q⟩ := h
  have same := fun z (rz : Rv X.K ρ ex H w z) => q ρ H z (Kp.refl _ _) rh rz
  unfold ixO at e
  split at e
  · obtain ⟨c, e1, ew⟩ := Option.map_eq_some_iff.mp e
    subst ew
    cases rb
    cases ra with
    | str r =>
      refine ix_str value slice pins s σ H _ _ _ _ Q I rx ry ⟨_, _, c, rfl, rfl, by rw [r.length, ← line_eq]; exact r.len, by rw [r.eq]; exact e1, ?_⟩ hs
      exact same _ (.str (one_str r (itO_mem e1)))
  · split at e
    · rename_i l i el ei
      cases rb
      obtain ⟨p, vs, rfl, hq, r⟩ := ra.asSeq rh el
      obtain ⟨z, e1, rz⟩ := r.it e
      rcases hq with hq | hq
      · exact ix_list value slice pins s σ H _ _ _ _ Q I rx ry ⟨_, _, _, _, rfl, rfl, hq, e1, same _ rz⟩ hs
      · exact ix_tup value slice pins s σ H _ _ _ _ Q I rx ry ⟨_, _, _, _, rfl, rfl, hq, e1, same _ rz⟩ hs
    · split at e
      · rename_i kvs ek
        split at e
        · rename_i hk
          obtain ⟨k', rk, rfl⟩ := keyR_of hk rb
          obtain ⟨p, vs, rfl, s1, r1⟩ := ra.asDict rh ek
          obtain ⟨z, ez, rz⟩ := (kget_val rk r1).1 _ e
          exact ix_dict hu value slice pins s σ H _ _ _ _ Q I rx ry ⟨p, z, rfl, .inl ⟨vs, k', s1, rfl, ez.symm⟩, same _ rz⟩ hs
        · cases e
      · cases e
/-! ### slices -/
theorem cutIx_eq (n d : Nat) (o : Option Int) : HT.sIx n d o = cutIx n d o := by cases o <;> rfl
theorem cut_eq (vs : List V) (lo hi : Option Int) : cutV vs lo hi = cut vs lo hi := by
  unfold cutV cut
  rw [cutIx_eq, cutIx_eq]
theorem Rvs.cut {ds : List PV} {vs : List V} (r : Rvs K ρ ex H ds vs) (lo hi : Option Int) : Rvs K ρ ex H (Y.cut ds lo hi) (Y.cut vs lo hi) := by
  unfold Y.cut
  rw [r.length]
  exact (r.drop _).take _
theorem StrR.cut {s : List Nat} {z : Str} (r : StrR s z) (lo hi : Option Int) : StrR (Y.cut s lo hi) (cutS z lo hi) := by
  refine ⟨?_, Nat.le_trans (cut_len _ _ _) r.len, r.ok.sub fun c h => cut_mem h⟩
  unfold cutS Y.cut
  rw [r.length, r.eq, cutIx_eq, cutIx_eq]
theorem o_sl : SlR X (rSl T X.K) := by
  intro pins s σ H x v vl vu lo hi sl Q I rx hs pl pu h
  obtain ⟨ρ, ex, hp, a, w, rh, ra, e, q⟩ := h
  have same := fun z (rz : Rv X.K ρ ex H w z) => q ρ H z (Kp.refl _ _) rh rz
  unfold slO at e
  split at e
  · cases e
    cases ra with
    | str r => exact sl_str pins s σ H _ _ _ _ _ _ _ Q I rx hs pl pu ⟨_, rfl, by rw [r.length, ← line_eq]; exact r.len, same _ (.str (r.cut lo hi))⟩
  · split at e
    · cases e
    · rename_i hc
      cases e
      obtain ⟨p, vs, rfl, s1, r⟩ := ra.tupT
      refine sl_tup pins s σ H _ _ _ _ _ _ _ Q I rx hs pl pu ⟨p, vs, rfl, s1, fun z => hc ?_, fun p hp => ?_⟩
      · rw [cutIx_eq, cutIx_eq, ← r.length] at z
        unfold Y.cut
        rw [z.1, z.2]
        simp
      · rw [cut_eq]
        exact q ρ _ _ (Kp.laid hp) (rh.laid hp) (Rv.newT rh hp (r.cut lo hi))
  · obtain ⟨l, el, ew⟩ := Option.map_eq_some_iff.mp e
    subst ew
    obtain ⟨p, vs, rfl, s1, r⟩ := ra.asList rh el
    refine sl_list pins s σ H _ _ _ _ _ _ _ Q I rx hs pl pu ⟨p, vs, rfl, .inl (.inl s1), fun p hp => ?_⟩
    rw [cut_eq]
    exact q ρ _ _ (Kp.laid hp) (rh.laid hp) (Rv.newL rh hp (r.cut lo hi))
/-! ### built-ins -/
theorem b_len : CallR X (.builtin "len") (rOA T X.K bLen) := by
  intro pins s σ H xs us Q I r h
  obtain ⟨ρ, ex, hp, vs, w, rh, rv, e, q⟩ := h
  have same := fun z (rz : Rv X.K ρ ex H w z) => q ρ H z (Kp.refl _ _) rh rz
  unfold bLen at e
  split at e
  · cases e
    cases rv with
    | cons a b =>
      cases b
      cases a with
      | str ra =>
        refine call_len_str pins s σ H _ _ Q I r ⟨_, rfl, by rw [ra.length, ← line_eq]; exact ra.len, ?_⟩
        rw [ra.length]
        exact same _ (.int _)
  · cases rv with
    | cons a b =>
      cases b
      split at e
      · rename_i l el
        cases e
        obtain ⟨p, vs', rfl, hq, r1⟩ := a.asSeq rh el
        refine call_len_seq pins s σ H _ _ Q I r ⟨_, _, rfl, hq, ?_⟩
        rw [← r1.length]
        exact same _ (.int _)
      · obtain ⟨k, ek, ew⟩ := Option.map_eq_some_iff.mp e
        subst ew
        obtain ⟨p, vs', rfl, s1, r1⟩ := a.asDict rh ek
        cases r.ref1
        refine d_len I s1 fun t s' I' => ⟨.int _, H, I', ⟨_, rfl⟩, ?_⟩
        rw [← r1.length]
        exact same _ (.int _)
  · cases e
theorem b_ord : CallR X (.builtin "ord") (rOA T X.K bOrd) := by
  intro pins s σ H xs us Q I r h
  obtain ⟨ρ, ex, hp, vs, w, rh, rv, e, q⟩ := h
  unfold bOrd at e
  split at e
  · cases e
    cases rv with
    | cons a b =>
      cases b
      cases a with
      | str ra =>
        refine call_ord pins s σ H _ _ Q I r ⟨_, rfl, by rw [ra.length]; rfl, ?_⟩
        have : ∀ (z : Str) (c : Nat), z.cps.toList = [c] → z.cps.getD 0 0 = c := fun z c e => by
          have e2 : z.cps = #[c] := by
            have := congrArg List.toArray e
            simpa using this
          rw [e2]; rfl
        rw [this _ _ ra.eq]
        exact q ρ H _ (Kp.refl _ _) rh (.int _)
  · cases e
theorem b_abs : CallR X (.builtin "abs") (rOA T X.K bAbs) := by
  intro pins s σ H xs us Q I r h
  obtain ⟨ρ, ex, hp, vs, w, rh, rv, e, q⟩ := h
  unfold bAbs at e
  split at e
  · cases e
    cases rv with
    | cons a b =>
      cases b
      cases a
      exact call_abs pins s σ H _ _ Q I r ⟨_, rfl, q ρ H _ (Kp.refl _ _) rh (.int _)⟩
  · cases e
theorem b_int : CallR X (.type "int") (rOA T X.K bInt) := by
  intro pins s σ H xs us Q I r h
  obtain ⟨ρ, ex, hp, vs, w, rh, rv, e, q⟩ := h
  unfold bInt at e
  split at e
  · cases e
    cases rv with
    | cons a b =>
      cases b
      cases a
      exact call_int1 pins s σ H _ _ Q I r (.inl ⟨_, rfl, q ρ H _ (Kp.refl _ _) rh (.int _)⟩)
  · cases e
theorem numS_eq (n : Nat) : numS n = TL.numL n := rfl
theorem numS_len {n : Nat} (h : n < 10 ^ 18) : (numS n).length ≤ 18 := TL.numL_len (by decide) h
theorem numS_ok (n : Nat) : chOk (numS n) := fun c hc => by
  have := TL.numL_digits n c hc
  omega
theorem num_str {i : Int} (h : 0 ≤ i) (h2 : i < 1000000000000000000) : StrR (numS i.toNat) (Str.ofString (toString i)) := by
  obtain ⟨n, rfl⟩ := Int.eq_ofNat_of_zero_le h
  have e : ((n : Int)).toNat = n := Int.toNat_natCast n
  rw [e]
  refine ⟨TL.tl_num n, ?_, numS_ok n⟩
  have := numS_len (n := n) (by omega)
  exact Nat.le_trans this (by decide)
theorem b_str : CallR X (.type "str") (rOA T X.K bStr) := by
  intro pins s σ H xs us Q I r h
  obtain ⟨ρ, ex, hp, vs, w, rh, rv, e, q⟩ := h
  unfold bStr at e
  split at e
  · split at e
    · rename_i hc
      cases e
      cases rv with
      | cons a b =>
        cases b
        cases a
        refine call_str_int pins s σ H _ _ Q I r ⟨_, rfl, ?_, q ρ H _ (Kp.refl _ _) rh (.str (num_str (strOk_out hc).1 (strOk_out hc).2))⟩
        rename_i i
        have hc := strOk_out hc
        have h1 : i.natAbs < 2 ^ 64 := by omega
        by_cases h0 : i.natAbs = 0
        · rw [h0]; decide
        · have := (Nat.log2_lt h0).mpr h1
          omega
    · cases e
  · cases e
theorem intsOf_vals : ∀ {l : List PV} {is : List Int} {vs : List V}, intsOf l = some is → Rvs K ρ ex H l vs → vs = is.map V.int
  | [], _, _, e, r => by cases e; cases r; rfl
  | .int i :: l, is, _, e, r => by
    obtain ⟨js, e1, e2⟩ := Option.map_eq_some_iff.mp (show (intsOf l).map (i :: ·) = some is from e)
    cases r with
    | cons a b => cases a; rw [← e2, intsOf_vals e1 b]; rfl
theorem blsOf_vals : ∀ {l : List PV} {is : List Bool} {vs : List V}, blsOf l = some is → Rvs K ρ ex H l vs → vs = is.map V.bl
  | [], _, _, e, r => by cases e; cases r; rfl
  | .bl i :: l, is, _, e, r => by
    obtain ⟨js, e1, e2⟩ := Option.map_eq_some_iff.mp (show (blsOf l).map (i :: ·) = some is from e)
    cases r with
    | cons a b => cases a; rw [← e2, blsOf_vals e1 b]; rfl
theorem strsOf_vals : ∀ {l : List PV} {is : List (List Nat)} {vs : List V}, strsOf l = some is → Rvs K ρ ex H l vs → vs = is.map (fun s => V.str ⟨s.toArray⟩) ∧ ∀ s ∈ is, s.length ≤ line ∧ chOk s
  | [], _, _, e, r => by cases e; cases r; exact ⟨rfl, fun _ h => by cases h⟩
  | .str i :: l, is, _, e, r => by
    obtain ⟨js, e1, e2⟩ := Option.map_eq_some_iff.mp (show (strsOf l).map (i :: ·) = some is from e)
    cases r with
    | cons a b =>
      cases a with
      | str ra =>
        obtain ⟨h1, h2⟩ := strsOf_vals e1 b
        subst e2
        refine ⟨by rw [h1, ra.is]; rfl, fun s hs => ?_⟩
        rcases List.mem_cons.mp hs with e | hs
        · rw [e]; exact ⟨ra.len, ra.ok⟩
        · exact h2 s hs
theorem b_sum (hc : X.calm = true) : CallR X (.builtin "sum") (rOA T X.K bSum) := by
  intro pins s σ H xs us Q I r h
  obtain ⟨ρ, ex, hp, vs, w, rh, rv, e, q⟩ := h
  unfold bSum at e
  split at e
  · cases rv with
    | cons a b =>
      cases b
      split at e
      · rename_i l el
        obtain ⟨is, ei, ew⟩ := Option.map_eq_some_iff.mp e
        subst ew
        obtain ⟨p, vs', rfl, s1, r1⟩ := a.asList rh el
        have := intsOf_vals ei r1
        subst this
        exact cr_sum hc pins s σ H _ _ Q I r ⟨_, _, rfl, .inl (.inl s1), q ρ H _ (Kp.refl _ _) rh (.int _)⟩
      · cases e
  · cases e
theorem b_any (hc : X.calm = true) : CallR X (.builtin "any") (rOA T X.K bAny) := by
  intro pins s σ H xs us Q I r h
  obtain ⟨ρ, ex, hp, vs, w, rh, rv, e, q⟩ := h
  unfold bAny at e
  split at e
  · cases rv with
    | cons a b =>
      cases b
      split at e
      · rename_i l el
        obtain ⟨is, ei, ew⟩ := Option.map_eq_some_iff.mp e
        subst ew
        obtain ⟨p, vs', rfl, s1, r1⟩ := a.asList rh el
        have := blsOf_vals ei r1
        subst this
        exact cr_any hc pins s σ H _ _ Q I r ⟨_, _, rfl, .inl (.inl s1), q ρ H _ (Kp.refl _ _) rh (.bl _)⟩
      · cases e
  · cases e
theorem b_all (hc : X.calm = true) : CallR X (.builtin "all") (rOA T X.K bAll) := by
  intro pins s σ H xs us Q I r h
  obtain ⟨ρ, ex, hp, vs, w, rh, rv, e, q⟩ := h
  unfold bAll at e
  split at e
  · cases rv with
    | cons a b =>
      cases b
      split at e
      · rename_i l el
        obtain ⟨is, ei, ew⟩ := Option.map_eq_some_iff.mp e
        subst ew
        obtain ⟨p, vs', rfl, s1, r1⟩ := a.asList rh el
        have := blsOf_vals ei r1
        subst this
        exact cr_all hc pins s σ H _ _ Q I r ⟨_, _, rfl, .inl (.inl s1), q ρ H _ (Kp.refl _ _) rh (.bl _)⟩
      · cases e
  · cases e
theorem b_tuple : CallR X (.type "tuple") (rOA T X.K bTuple) := by
  intro pins s σ H xs us Q I r h
  obtain ⟨ρ, ex, hp, vs, w, rh, rv, e, q⟩ := h
  unfold bTuple at e
  split at e
  · cases e
    cases rv with
    | cons a b =>
      cases b
      obtain ⟨p, vs', e1, s1, r1⟩ := a.tupT
      subst e1
      exact call_tuple_of pins s σ H _ _ Q I r ⟨_, _, rfl, .inr ⟨s1, q ρ H _ (Kp.refl _ _) rh a⟩⟩
  · cases rv with
    | cons a b =>
      cases b
      obtain ⟨l, el, ew⟩ := Option.map_eq_some_iff.mp e
      subst ew
      obtain ⟨p, vs', rfl, s1, r1⟩ := a.asList rh el
      exact call_tuple_of pins s σ H _ _ Q I r ⟨_, _, rfl, .inl ⟨.inl (.inl s1), fun p hp => q ρ _ _ (Kp.laid hp) (rh.laid hp) (Rv.newT rh hp r1)⟩⟩
  · cases e
theorem len_of {pins : List (Addr × Obj)} {s : Shared} {σ : L2.St} {H : Hp} {a : Addr} {vs : List V} (I : Inv X pins σ H s) (h : SqL X.K H a vs ∨ SqT X.K H a vs) : vs.length ≤ line := by
  rw [line_eq]
  rcases h with h | h
  · obtain ⟨_, _, _, z⟩ := I.list h; exact z
  · obtain ⟨_, _, _, z⟩ := I.tuple h; exact z
theorem b_list : CallR X (.type "list") (rOL T X.K bList) := by
  intro pins s σ H xs us Q I r h
  obtain ⟨ρ, ex, hp, vs, w, rh, rv, e, q⟩ := h
  unfold bList at e
  split at e
  · cases rv with
    | cons a b =>
      cases b
      obtain ⟨p, vs', rfl, s1, r1⟩ := a.asSeq rh e
      exact call_list_of pins s σ H _ _ Q I r ⟨_, _, rfl, s1, fun p hp => q ρ H _ _ _ (Kp.refl _ _) rh hp rfl (len_of I s1) r1⟩
  · cases e

/-! ### isinstance -/
theorem isi_run {t : String} {pins : List (Addr × Obj)} {s : Shared} {σ : L2.St} {x : V} {us : List Value} {Q : VK} {a w : PV} {hp : VH} (I : Inv X pins σ H s) (r : Vals [x, .ty t] us) (rh : Rh T X.K ρ ex H hp) (ra : Rv X.K ρ ex H a x) (e : isiO t a = some w)
    (q : ∀ z, Rv X.K ρ ex H w z → Q z H) : wpAny (model X.prog X.w) X.A (call (.builtin "isinstance") us) (EP X pins σ Q) X.xe s := by
  have go : ∀ {tx : String} {b : Bool}, TyX X.K H x (.type tx) → kitB tx t = some b → w = .bl b → wpAny (model X.prog X.w) X.A (call (.builtin "isinstance") us) (EP X pins σ Q) X.xe s := fun {tx b} ty kb ew => by
    subst ew
    refine call_isi pins s σ H _ _ Q I r ⟨x, .ty t, .type tx, .type t, b, rfl, ?_, ty, kit_ty kb, q _ (.bl _)⟩
    first | exact .ty t | exact .ty | constructor
  unfold isiO at e
  split at e
  · cases ra with
    | str ra =>
      split at e
      · rename_i et; subst et; cases e; exact go (.base (.str _)) (by decide +kernel) rfl
      · split at e
        · rename_i et; subst et; cases e; exact go (.base (.str _)) (by decide +kernel) rfl
        · cases e
  · cases ra with
    | tup ra _ =>
      rename_i ad vs0 _
      have ty : TyX X.K H (.ref ad) (.type "tuple") := by
        rcases ra with ⟨ra | ⟨o, ra⟩, _⟩ | ⟨o, its, n, ra, rc, _⟩
        · exact .base (.tup ra)
        · exact .fTuple ra
        · exact .kTuple ra rc
      split at e
      · rename_i et; subst et; cases e; exact go ty (by decide +kernel) rfl
      · split at e
        · rename_i et; subst et; cases e; exact go ty (by decide +kernel) rfl
        · cases e
  · cases ra
    split at e
    · rename_i et; subst et; cases e; exact go (.base (.int _)) (by decide +kernel) rfl
    · split at e
      · rename_i et; subst et; cases e; exact go (.base (.int _)) (by decide +kernel) rfl
      · cases e
  · cases e
def rIsi1 (T : Tab) (K : PySem.W.Frag) (t : String) : List V → Hp → VK → Prop := fun xs H Q => ∃ ρ ex h x u w, xs = [x, .ty t] ∧ Rh T K ρ ex H h ∧ Rv K ρ ex H u x ∧ isiO t u = some w ∧ ∀ z, Rv K ρ ex H w z → Q z H
theorem b_isi (t : String) : CallR X (.builtin "isinstance") (rIsi1 T X.K t) := by
  intro pins s σ H xs us Q I r h
  obtain ⟨ρ, ex, hp, x, u, w, rfl, rh, ru, e, q⟩ := h
  exact isi_run I r rh ru e q
theorem e_isi {t : String} {tn : Str} {p p2 pos : Pos} {e : Expr} {m : EM} (hg : Gl X "isinstance") (hm : X.mg "isinstance" = none) (hgt : Gl X tn) (hmt : X.mg tn = none) (hvt : bootBuiltins tn = some (.type t)) (hn : tn ≠ "__name__") (hd : (tn == ("__debug__" : Str)) = false) (he : PE X e (rdE T X.K W m))
    (hs : starEach [e, .Name tn p2] X.env = (false, eval e X.env) :: starEach [.Name tn p2] X.env) :
    PE X (.Call (.Name "isinstance" p) [e, .Name tn p2] [] pos) (rdE T X.K W (mIsi t m)) :=
  imE (pe_callB (b_isi (T := T) t) hg hm (by decide +kernel) (pa_cons he (pa_cons (pe_bltn (v := .ty t) hgt hmt hvt rfl hn hd) pa_nil (by rfl)) hs) (by decide) (by decide +kernel) hs (by rfl)) fun σ H Q h => by
    obtain ⟨ρ, ex, sl, hp, rs, rh, q⟩ := h
    refine ⟨ρ, ex, sl, hp, rs, rh, q.bnd.imp fun u h1 ρ1 H1 k1 rh1 q1 x rx => ?_⟩
    obtain ⟨w, e, q3⟩ := q1.retO
    exact ⟨ρ1, ex, h1, x, u, w, rfl, rh1, rx, e, fun z rz => q3 ρ1 H1 (Kp.refl _ _) rh1 z rz⟩
end
end Y

set_option maxHeartbeats 1000000
namespace Y
open PySem PySem.Spec PyProof.Rows L2
section
variable {X : Cx} {T : Tab} {K : PySem.W.Frag} {W : WX} {ρ : Pl} {ex : List Addr} {H : Hp} {h : VH}
/-! ### an object that stands in a place is changed -/
theorem Kp.write {n : Nat} {a : Addr} {o : HO} (e : ρ[n]? = some (some a)) : Kp ρ H ρ (upd H a o) where
  up := fun _ _ z => z
  keep := fun b u eb nb => by
    have z : b ≠ a := fun z => nb ⟨n, by rw [z]; exact e⟩
    rw [upd_ne z]
    exact eb
  new := fun _ z => .inl z
theorem Rh.write {n : Nat} {a : Addr} {o : HO} {ob : VO} (r : Rh T K ρ ex H h) (e : ρ[n]? = some (some a)) (ro : Ro T K ρ ex (upd H a o) ob (some a)) : Rh T K ρ ex (upd H a o) (vset h n ob) := by
  have k : Kp ρ H ρ (upd H a o) := Kp.write e
  refine ⟨by unfold vset; rw [List.length_set]; exact r.len, r.inj, fun b hb => ⟨?_, (r.exs b hb).2⟩, fun m u p e1 e2 => ?_⟩
  · have nb : b ≠ a := fun z => (r.exs b hb).2 ⟨n, by rw [z]; exact e⟩
    rw [upd_ne nb]
    exact (r.exs b hb).1
  · unfold vset at e1
    by_cases hm : n = m
    · subst hm
      have hn : n < h.length := by rw [← r.len]; exact (List.getElem?_eq_some_iff.mp e).1
      rw [List.getElem?_set_self hn] at e1
      rw [e] at e2
      cases e1
      cases e2
      exact ro
    · rw [List.getElem?_set_ne hm] at e1
      refine (r.ob m u p e1 e2).mono k noex fun b eb => ?_
      subst eb
      exact upd_ne fun z => hm (r.inj n m a e (by rw [← z]; exact e2))
theorem Rh.lstAt {n : Nat} {l : List PV} {a : Addr} (rh : Rh T K ρ ex H h) (e : h[n]? = some (.lst l)) (er : ρ[n]? = some (some a)) : ∃ vs, H a = some (.lst vs) ∧ Rvs K ρ ex H l vs := by
  obtain ⟨b, vs, e1, e2, r⟩ := rh.ob _ _ _ e er
  cases e1
  exact ⟨vs, e2, r⟩
theorem Rh.dctAt {n : Nat} {l : List (PV × PV)} {a : Addr} (rh : Rh T K ρ ex H h) (e : h[n]? = some (.dct l)) (er : ρ[n]? = some (some a)) : ∃ vs, H a = some (.dK vs) ∧ Rks K ρ ex H l vs := by
  obtain ⟨b, vs, e1, e2, r⟩ := rh.ob _ _ _ e er
  cases e1
  exact ⟨vs, e2, r⟩
theorem Rh.wlst {n : Nat} {l : List PV} {vs : List V} {a : Addr} (rh : Rh T K ρ ex H h) (er : ρ[n]? = some (some a)) (r : Rvs K ρ ex H l vs) : Rh T K ρ ex (upd H a (.lst vs)) (vset h n (.lst l)) :=
  rh.write er ⟨a, vs, rfl, upd_same, Rvs.mono (Kp.write er) noex _ _ r⟩
theorem Rh.wdct {n : Nat} {l : List (PV × PV)} {vs : List (Key × V)} {a : Addr} (rh : Rh T K ρ ex H h) (er : ρ[n]? = some (some a)) (r : Rks K ρ ex H l vs) : Rh T K ρ ex (upd H a (.dK vs)) (vset h n (.dct l)) :=
  rh.write er ⟨a, vs, rfl, upd_same, Rks.mono (Kp.write er) noex _ _ r⟩
/-- the same dict, written again, is the same heap -/
theorem upd_id {H : Hp} {a : Addr} {o : HO} (e : H a = some o) : upd H a o = H := by
  funext b
  unfold upd
  split
  · rename_i z; rw [z, e]
  · rfl
/-! ### dicts -/
theorem Rks.put {k d : PV} {k' : Key} {v : V} (rk : KeyR k k') (rv : Rv K ρ ex H d v) {kvs : List (PV × PV)} {vs : List (Key × V)} (r : Rks K ρ ex H kvs vs) : Rks K ρ ex H (kput kvs k d) (putK vs k' v) := by
  have hany : (vs.any fun kv => decide (kv.1 = k')) = (kget kvs k).isSome := by rw [valV_any, kget_some rk r]
  have repl : ∀ {kvs : List (PV × PV)} {vs : List (Key × V)}, Rks K ρ ex H kvs vs → Rks K ρ ex H (kvs.map fun p => if p.1 = k then (p.1, d) else p) (vs.map fun kv => if kv.1 = k' then (kv.1, v) else kv) := by
    intro kvs
    induction kvs with
    | nil => intro vs r; cases r; exact .nil
    | cons p ps ih =>
      intro vs r
      obtain ⟨j, e⟩ := p
      cases r with
      | cons rj a q =>
        rename_i j' w ws
        have hd := keyR_dec rj rk
        simp only [List.map_cons]
        by_cases z : j = k
        · have z' : j' = k' := of_decide_eq_true (hd.trans (decide_eq_true z))
          rw [if_pos z, if_pos z']
          exact .cons rj rv (ih q)
        · have z' : ¬ j' = k' := of_decide_eq_false (hd.trans (decide_eq_false z))
          rw [if_neg z, if_neg z']
          exact .cons rj a (ih q)
  have app : ∀ {kvs : List (PV × PV)} {vs : List (Key × V)}, Rks K ρ ex H kvs vs → Rks K ρ ex H (kvs ++ [(k, d)]) (vs ++ [(k', v)]) := by
    intro kvs
    induction kvs with
    | nil => intro vs r; cases r; exact .cons rk rv .nil
    | cons p ps ih =>
      intro vs r
      cases r with
      | cons rj a q => exact .cons rj a (ih q)
  unfold kput putK
  rw [hany]
  split
  · exact repl r
  · exact app r
theorem Rks.drop {k : PV} {k' : Key} (rk : KeyR k k') : ∀ {kvs : List (PV × PV)} {vs : List (Key × V)}, Rks K ρ ex H kvs vs → Rks K ρ ex H (kdrop kvs k) (dropK vs k')
  | [], _, r => by cases r; exact .nil
  | (j, e) :: ps, _, r => by
    cases r with
    | cons rj a q =>
      rename_i j' w ws
      have hd := keyR_dec rj rk
      have ih := Rks.drop rk q
      unfold kdrop dropK at ih ⊢
      simp only [List.filter_cons]
      by_cases z : j = k
      · have z' : j' = k' := of_decide_eq_true (hd.trans (decide_eq_true z))
        simp only [z, z', ne_eq, not_true, decide_false, Bool.false_eq_true, if_false]
        exact ih
      · have z' : ¬ j' = k' := of_decide_eq_false (hd.trans (decide_eq_false z))
        simp only [z, z', ne_eq, not_false_eq_true, decide_true, if_true]
        exact .cons rj a ih
/-! ### methods of built-ins -/
def rMt (T : Tab) (K : PySem.W.Frag) (B : Bm) (k : String) : V → List V → Hp → VK → Prop := fun x xs H Q => ∃ ρ ex h u us w h', Rh T K ρ ex H h ∧ Rv K ρ ex H u x ∧ Rvs K ρ ex H us xs ∧ kind u h = k ∧ B u us h = some (w, h') ∧
  ∀ ρ' H' z, Kp ρ H ρ' H' → Rh T K ρ' ex H' h' → Rv K ρ' ex H' w z → Q z H'
theorem m_append : MtR X "list.append" (rMt T X.K bAppend "list") := by
  intro pins s σ H x xs v us Q I rx rs h
  obtain ⟨ρ, ex, hp, u, vs, w, h', rh, ru, rv, ek, e, q⟩ := h
  unfold bAppend at e
  split at e
  · split at e
    · rename_i n d _ l el
      split at e
      · rename_i hl
        cases e
        cases ru with
        | ref er =>
          rename_i a
          obtain ⟨ls, ea, rl⟩ := rh.lstAt el er
          cases rv with
          | cons r1 r2 =>
            cases r2
            rename_i y
            refine mt_append pins s σ H _ _ v us Q I rx rs ⟨a, ls, y, rfl, rfl, ea, ?_, ?_⟩
            · rw [← rl.length, ← line_eq]
              exact Nat.blt_eq.mp hl
            · exact q ρ _ _ (Kp.write er) (rh.wlst er (rl.snoc r1)) .non
      · cases e
    · cases e
  · cases e
theorem kget_opt {k : PV} {k' : Key} {d : PV} {y : V} (rk : KeyR k k') {kvs : List (PV × PV)} {vs : List (Key × V)} (r : Rks K ρ ex H kvs vs) (rd : Rv K ρ ex H d y) : Rv K ρ ex H ((kget kvs k).getD d) ((valV vs k').getD y) := by
  have h := kget_val rk r
  cases e : kget kvs k with
  | none => rw [h.2 e]; exact rd
  | some v => obtain ⟨z, ez, rz⟩ := h.1 v e; rw [ez]; exact rz
theorem m_get (hu : X.A.units + 1 < cLine) : MtR X "dict.get" (rMt T X.K bGet "dict") := by
  intro pins s σ H x xs v us Q I rx rs h
  obtain ⟨ρ, ex, hp, u, vs, w, h', rh, ru, rv, ek, e, q⟩ := h
  unfold bGet at e
  split at e
  · rename_i n
    split at e
    · rename_i kvs el
      cases ru with
      | ref er =>
        rename_i a
        obtain ⟨ks, ea, rk⟩ := rh.dctAt el er
        cases (show v = Value.ref a from rx)
        split at e
        · split at e
          · rename_i k hk
            cases e
            cases rv with
            | cons r1 r2 =>
              cases r2
              obtain ⟨k', rk', rfl⟩ := keyR_of hk r1
              obtain ⟨u1, rfl, ry⟩ := vals1 rs
              exact d_get1 hu I (DGet.k ea) ry fun w' s' I' rw' => ⟨_, H, I', rw', q ρ H _ (Kp.refl _ _) rh (kget_opt rk' rk .non)⟩
          · cases e
        · split at e
          · rename_i k d hk
            cases e
            cases rv with
            | cons r1 r2 =>
              cases r2 with
              | cons r2 r3 =>
                cases r3
                obtain ⟨k', rk', rfl⟩ := keyR_of hk r1
                obtain ⟨u1, u2, rfl, ry, rd⟩ := vals2 rs
                exact d_get2 hu I (DGet.k ea) ry rd fun w' s' I' rw' => ⟨_, H, I', rw', q ρ H _ (Kp.refl _ _) rh (kget_opt rk' rk r2)⟩
          · cases e
        · cases e
    · cases e
  · cases e
theorem m_setdefault : MtR X "dict.setdefault" (rMt T X.K bSetdefault "dict") := by
  intro pins s σ H x xs v us Q I rx rs h
  obtain ⟨ρ, ex, hp, u, vs, w, h', rh, ru, rv, ek, e, q⟩ := h
  unfold bSetdefault at e
  split at e
  · split at e
    · rename_i n k d _ kvs el
      split at e
      · rename_i hc
        have hc := Bool.and_eq_true_iff.mp hc
        cases ru with
        | ref er =>
          rename_i a
          obtain ⟨ks, ea, rk⟩ := rh.dctAt el er
          cases (show v = Value.ref a from rx)
          cases rv with
          | cons r1 r2 =>
            cases r2 with
            | cons r2 r3 =>
              cases r3
              obtain ⟨k', rk', rfl⟩ := keyR_of hc.1 r1
              obtain ⟨u1, u2, rfl, ry, rd⟩ := vals2 rs
              have hl : ks.length < sizeLine := by rw [← rk.length, ← line_eq]; exact Nat.blt_eq.mp hc.2
              have hv := kget_val rk' rk
              refine d_setd I ea ry rd hl (fun z hz w' s' I' rw' => ?_) fun hz w' s' I' rw' => ?_
              · cases ek : kget kvs k with
                | none => rw [hv.2 ek] at hz; cases hz
                | some y =>
                  rw [ek] at e
                  cases e
                  obtain ⟨z', ez, rz⟩ := hv.1 _ ek
                  rw [hz] at ez
                  cases ez
                  exact ⟨_, H, I', rw', q ρ H _ (Kp.refl _ _) rh rz⟩
              · cases ek : kget kvs k with
                | some y =>
                  obtain ⟨z', ez, rz⟩ := hv.1 _ ek
                  rw [hz] at ez
                  cases ez
                | none =>
                  rw [ek] at e
                  cases e
                  exact ⟨_, _, I', rw', q ρ _ _ (Kp.write er) (rh.wdct er (Rks.put rk' r2 rk)) (r2.mono (Kp.write er) noex)⟩
      · cases e
    · cases e
  · cases e
theorem joinT_eq : ∀ (sep : List Nat) (ts : List (List Nat)), joinT sep ts = TL.joinL sep ts
  | _, [] => rfl
  | _, [_] => rfl
  | s, p :: q :: r => by
    show p ++ (s ++ joinT s (q :: r)) = p ++ (s ++ TL.joinL s (q :: r))
    rw [joinT_eq s (q :: r)]
theorem joinT_len : ∀ (sep : List Nat) (ts : List (List Nat)), (joinT sep ts).length ≤ (ts.map (·.length)).sum + ts.length * sep.length
  | _, [] => Nat.zero_le _
  | _, [p] => by simp [joinT]
  | s, p :: q :: r => by
    have ih := joinT_len s (q :: r)
    show (p ++ (s ++ joinT s (q :: r))).length ≤ _
    rw [List.length_append, List.length_append, List.map_cons, List.sum_cons, List.length_cons, Nat.add_mul]
    omega
theorem joinT_ok : ∀ {sep : List Nat} {ts : List (List Nat)}, chOk sep → (∀ t ∈ ts, chOk t) → chOk (joinT sep ts)
  | _, [], _, _ => fun _ h => by cases h
  | _, [p], _, h => h p List.mem_cons_self
  | s, p :: q :: r, hs, h => (h p List.mem_cons_self).append (hs.append (joinT_ok hs fun t ht => h t (List.mem_cons_of_mem _ ht)))
theorem m_join : MtR X "str.join" (rMt T X.K bJoin "str") := by
  intro pins s σ H x xs v us Q I rx rs h
  obtain ⟨ρ, ex, hp, u, vs, w, h', rh, ru, rv, ek, e, q⟩ := h
  unfold bJoin at e
  split at e
  · split at e
    · rename_i ps ep
      split at e
      · rename_i ts et
        split at e
        · rename_i hl
          cases e
          cases ru with
          | str r0 =>
            cases rv with
            | cons r1 r2 =>
              cases r2
              obtain ⟨p, zs, rfl, s1, r1⟩ := r1.asSeq rh ep
              obtain ⟨e1, ok⟩ := strsOf_vals et r1
              have em : zs = (ts.map fun s => (⟨s.toArray⟩ : Str)).map V.str := by rw [e1, List.map_map]; rfl
              rw [em] at s1
              refine mt_join pins s σ H _ _ v us Q I rx rs ⟨_, p, ts.map fun s => (⟨s.toArray⟩ : Str), rfl, rfl, s1, ?_, ?_⟩
              · rw [List.map_map, List.length_map, r0.length]
                have : (ts.map ((fun x : Str => x.length) ∘ fun s => (⟨s.toArray⟩ : Str))) = ts.map (·.length) := by
                  apply List.map_congr_left
                  intro t _
                  show t.toArray.size = t.length
                  simp
                rw [this]
                exact hl
              · refine q ρ H _ (Kp.refl _ _) rh (.str ⟨?_, Nat.le_trans (joinT_len _ _) hl, joinT_ok r0.ok fun t ht => (ok t ht).2⟩)
                rw [TL.join_eq]
                have := TL.tl_join ‹Str› (ts.map fun s => (⟨s.toArray⟩ : Str))
                rw [joinT_eq, ← r0.eq]
                refine Eq.trans this ?_
                rw [List.map_map]
                congr 1
                have : (TL.tl ∘ fun s : List Nat => (⟨s.toArray⟩ : Str)) = id := by funext t; rfl
                rw [this, List.map_id]
        · cases e
      · cases e
    · cases e
  · cases e
end
end Y

set_option maxHeartbeats 1000000
namespace Y
open PySem PySem.Spec PyProof.Rows L2
section
variable {X : Cx} {T : Tab} {K : PySem.W.Frag} {W : WX} {ρ : Pl} {ex : List Addr} {H : Hp} {h : VH}
theorem seqIx {n : Nat} {i : Int} {j : Nat} (e : Y.atI n i = some j) : seqIndex? i n = some j ∧ j < n ∧ -(n : Int) ≤ i ∧ i < n := ixN_seq e
theorem Rvs.erase : ∀ {ds : List PV} {vs : List V} (i : Nat), Rvs K ρ ex H ds vs → Rvs K ρ ex H (ds.eraseIdx i) (vs.eraseIdx i)
  | [], _, _, r => by cases r; exact .nil
  | _ :: _, _, 0, r => by cases r with | cons a q => exact q
  | _ :: _, _, i + 1, r => by cases r with | cons a q => exact .cons a (q.erase i)
theorem Rvs.dropLast : ∀ {ds : List PV} {vs : List V}, Rvs K ρ ex H ds vs → Rvs K ρ ex H ds.dropLast vs.dropLast
  | [], _, r => by cases r; exact .nil
  | [_], _, r => by cases r with | cons a q => cases q; exact .nil
  | _ :: _ :: _, _, r => by
    cases r with
    | cons a q =>
      cases q with
      | cons b t => exact .cons a (Rvs.dropLast (.cons b t))
theorem m_popL : MtR X "list.pop" (rMt T X.K bPop "list") := by
  intro pins s σ H x xs v us Q I rx rs h
  obtain ⟨ρ, ex, hp, u, vs, w, h', rh, ru, rv, ek, e, q⟩ := h
  unfold bPop at e
  split at e
  · rename_i n
    split at e
    · rename_i l el
      obtain ⟨⟨y, l'⟩, e1, e2⟩ := Option.map_eq_some_iff.mp e
      cases e2
      cases ru with
      | ref er =>
        rename_i a
        obtain ⟨ls, ea, rl⟩ := rh.lstAt el er
        unfold bPopL at e1
        split at e1
        · split at e1
          · rename_i y ey
            cases e1
            cases rv
            obtain ⟨z, ez, rz⟩ := rl.get ey
            refine mt_pop pins s σ H _ _ v us Q I rx rs ⟨a, ls, z, rfl, rfl, ea, by rw [← rl.length]; exact ez, ?_⟩
            exact q ρ _ _ (Kp.write er) (rh.wlst er rl.dropLast) (rz.mono (Kp.write er) noex)
          · cases e1
        · split at e1
          · rename_i i j ej
            split at e1
            · rename_i y ey
              cases e1
              cases rv with
              | cons r1 r2 =>
                cases r2
                cases r1
                obtain ⟨z, ez, rz⟩ := rl.get ey
                obtain ⟨q1, q2, q3, q4⟩ := seqIx ej
                have hz : ls.length ≤ sizeLine := by
                  obtain ⟨_, _, _, hz⟩ := I.list (.inl (.inl ea)); exact hz
                have h63 := line63
                refine mt_popAt pins s σ H _ _ v us Q I rx rs ⟨a, ls, _, j, z, rfl, rfl, ea, ?_, ?_, by rw [← rl.length]; exact q1, ez, ?_⟩
                · rw [rl.length] at q3; omega
                · rw [rl.length] at q4; omega
                · exact q ρ _ _ (Kp.write er) (rh.wlst er (rl.erase j)) (rz.mono (Kp.write er) noex)
            · cases e1
          · cases e1
        · cases e1
    · rename_i kvs el
      exfalso
      unfold kind at ek
      simp only at ek
      rw [el] at ek
      simp at ek
    · cases e
  · cases e
theorem m_popD : MtR X "dict.pop" (rMt T X.K bPop "dict") := by
  intro pins s σ H x xs v us Q I rx rs h
  obtain ⟨ρ, ex, hp, u, vs, w, h', rh, ru, rv, ek, e, q⟩ := h
  unfold bPop at e
  split at e
  · rename_i n
    split at e
    · rename_i l el
      exfalso
      unfold kind at ek
      simp only at ek
      rw [el] at ek
      simp at ek
    · rename_i kvs el
      obtain ⟨⟨y, l'⟩, e1, e2⟩ := Option.map_eq_some_iff.mp e
      cases e2
      cases ru with
      | ref er =>
        rename_i a
        obtain ⟨ks, ea, rk⟩ := rh.dctAt el er
        cases (show v = Value.ref a from rx)
        unfold bPopD at e1
        split at e1
        · split at e1
          · rename_i k hk
            split at e1
            · rename_i z ez
              cases e1
              cases rv with
              | cons r1 r2 =>
                cases r2
                obtain ⟨k', rk', rfl⟩ := keyR_of hk r1
                obtain ⟨u1, rfl, ry⟩ := vals1 rs
                obtain ⟨x', ex', rx'⟩ := (kget_val rk' rk).1 _ ez
                exact d_pop I ea ry ex' (.inl rfl) fun w' s' I' rw' => ⟨_, _, I', rw', q ρ _ _ (Kp.write er) (rh.wdct er (Rks.drop rk' rk)) (rx'.mono (Kp.write er) noex)⟩
            · cases e1
          · cases e1
        · split at e1
          · rename_i k d hk
            cases rv with
            | cons r1 r2 =>
              cases r2 with
              | cons r2 r3 =>
                cases r3
                obtain ⟨k', rk', rfl⟩ := keyR_of hk r1
                obtain ⟨u1, u2, rfl, ry, rd⟩ := vals2 rs
                have hv := kget_val rk' rk
                split at e1
                · rename_i z ez
                  cases e1
                  obtain ⟨x', ex', rx'⟩ := hv.1 _ ez
                  exact d_pop I ea ry ex' (.inr ⟨u2, rfl⟩) fun w' s' I' rw' => ⟨_, _, I', rw', q ρ _ _ (Kp.write er) (rh.wdct er (Rks.drop rk' rk)) (rx'.mono (Kp.write er) noex)⟩
                · rename_i ez
                  cases e1
                  refine d_popD I ea ry (hv.2 ez) fun s' I' => ⟨_, H, I', rd, ?_⟩
                  have e3 : vset hp n (.dct kvs) = hp := by
                    unfold vset
                    have hn := (List.getElem?_eq_some_iff.mp el).1
                    have he := (List.getElem?_eq_some_iff.mp el).2
                    rw [← he]
                    exact List.set_getElem_self hn
                  rw [e3] at q
                  exact q ρ H _ (Kp.refl _ _) rh r2
          · cases e1
        · cases e1
    · cases e
  · cases e
/-! ### fields -/
theorem Rfs.look {fs : List (Nat × PV)} {gs : List (Str × V)} {f : Nat} {x : Str} (nd : T.fnm.Nodup) (hf : T.fnm[f]? = some x) (r : Rfs T K ρ ex H fs gs) : (∀ v, fget fs f = some v → ∃ w, gs.lookup x = some w ∧ Rv K ρ ex H v w) ∧ (fget fs f = none → gs.lookup x = none) := by
  induction r with
  | nil => exact ⟨fun _ e => (by cases e), fun _ => rfl⟩
  | cons e1 r1 q ih =>
    rename_i g y d w ds ws
    unfold fget at ih ⊢
    by_cases z : f = g
    · subst z
      have e2 : y = x := by rw [e1] at hf; exact Option.some.inj hf
      subst e2
      rw [List.lookup_cons_self, List.lookup_cons_self]
      exact ⟨fun v ev => (by cases ev; exact ⟨w, rfl, r1⟩), fun ev => (by cases ev)⟩
    · have z2 : ¬ x = y := fun e => z (by
        subst e
        exact nodup_ix nd hf e1)
      have b1 : (f == g) = false := beq_eq_false_iff_ne.mpr z
      have b2 : (x == y) = false := beq_eq_false_iff_ne.mpr z2
      rw [List.lookup_cons, List.lookup_cons, b1, b2]
      exact ih
theorem Rfs.none {fs : List (Nat × PV)} {gs : List (Str × V)} {m : Str} (hm : ∀ p ∈ fs, T.fnm[p.1]? ≠ some m) (r : Rfs T K ρ ex H fs gs) : gs.lookup m = none := by
  induction r with
  | nil => rfl
  | cons e1 r1 q ih =>
    rename_i g y d w ds ws
    have h1 : ¬ m = y := fun e => hm (g, d) List.mem_cons_self (by rw [e]; exact e1)
    rw [List.lookup_cons, beq_eq_false_iff_ne.mpr h1]
    exact ih fun p hp => hm p (List.mem_cons_of_mem _ hp)
theorem Rfs.put {fs : List (Nat × PV)} {gs : List (Str × V)} {f : Nat} {x : Str} {v : PV} {w : V} (nd : T.fnm.Nodup) (hf : T.fnm[f]? = some x) (rv : Rv K ρ ex H v w) (r : Rfs T K ρ ex H fs gs) : Rfs T K ρ ex H (fput f v fs) (putF x w gs) := by
  induction r with
  | nil => exact .cons hf rv .nil
  | cons e1 r1 q ih =>
    rename_i g y d w' ds ws
    by_cases z : g = f
    · subst z
      have e2 : y = x := by rw [e1] at hf; exact Option.some.inj hf
      subst e2
      show Rfs T K ρ ex H (if g = g then (g, v) :: ds else _) (if y = y then (y, w) :: ws else _)
      rw [if_pos rfl, if_pos rfl]
      exact .cons hf rv q
    · have z2 : ¬ y = x := fun e => z (by
        subst e
        exact nodup_ix nd e1 hf)
      show Rfs T K ρ ex H (if g = f then _ else (g, d) :: fput f v ds) (if y = x then _ else (y, w') :: putF x w ws)
      rw [if_neg z, if_neg z2]
      exact .cons e1 r1 ih
theorem fput_ok {c : Nat} {f : Nat} {v : PV} (hf : T.ok c f = true) : ∀ {fs : List (Nat × PV)}, (∀ p ∈ fs, T.ok c p.1 = true) → ∀ p ∈ fput f v fs, T.ok c p.1 = true
  | [], _, p, hp => by
    have e : p = (f, v) := by simpa [fput] using hp
    rw [e]; exact hf
  | (g, u) :: r, h, p, hp => by
    unfold fput at hp
    split at hp
    · rcases List.mem_cons.mp hp with e | hp
      · rw [e]; exact h (g, u) List.mem_cons_self
      · exact h p (List.mem_cons_of_mem _ hp)
    · rcases List.mem_cons.mp hp with e | hp
      · rw [e]; exact h (g, u) List.mem_cons_self
      · exact fput_ok hf (fun q hq => h q (List.mem_cons_of_mem _ hq)) p hp
theorem Rh.insAt {n c : Nat} {fs : List (Nat × PV)} {a : Addr} (rh : Rh T K ρ ex H h) (e : h[n]? = some (.ins c fs)) (er : ρ[n]? = some (some a)) : ∃ C dx gs, H a = some (.ins C dx gs) ∧ T.cls[c]? = some C ∧ (∀ p ∈ fs, T.ok c p.1 = true) ∧ Rfs T K ρ ex H fs gs := by
  obtain ⟨b, C, dx, gs, e1, e2, e3, e4, r⟩ := rh.ob _ _ _ e er
  cases e1
  exact ⟨C, dx, gs, e2, e3, e4, r⟩
theorem atO_out {ok : Nat → Nat → Bool} {f : Nat} {u v : PV} (e : atO ok f u h = some v) : ∃ n c fs, u = .ref n ∧ h[n]? = some (.ins c fs) ∧ ok c f = true ∧ fget fs f = some v := by
  unfold atO at e
  split at e
  · split at e
    · split at e
      · rename_i el hk
        exact ⟨_, _, _, rfl, el, hk, e⟩
      · cases e
    · cases e
  · cases e
theorem e_at {e : Expr} {x : Str} {f : Nat} {pos : Pos} {m : EM} (tok : T.Ok X.K) (hf : T.fnm[f]? = some x) (he : PE X e (rdE T X.K W m)) (hb : attributeBase e x X.env (eval e X.env) = eval e X.env) : PE X (.Attribute e x pos) (rdE T X.K W (mOp1 (atO T.ok f) m)) :=
  imE (pe_fld he hb) fun σ H Q h => by
    obtain ⟨ρ, ex, sl, hp, rs, rh, q⟩ := h
    refine ⟨ρ, ex, sl, hp, rs, rh, q.bnd.imp fun u h1 ρ1 H1 k1 rh1 q1 y ry => ?_⟩
    obtain ⟨v, ev, q3⟩ := q1.retO
    obtain ⟨n, c, fs, rfl, el, hk, eg⟩ := atO_out ev
    cases ry with
    | ref er =>
      rename_i a
      obtain ⟨C, dx, gs, ea, ec, eo, rf⟩ := rh1.insAt el er
      obtain ⟨w, ew, rw'⟩ := (rf.look tok.nd hf).1 _ eg
      exact ⟨a, C, dx, gs, w, rfl, ea, tok.cl c C ec, tok.no c C f x ec hk hf, ew, q3 ρ1 H1 (Kp.refl _ _) rh1 w rw'⟩
/-! ### own methods, new instances -/
def tMethS (C : Addr) (m : Str) (sp : Sp) (E : L2.St → XK) (ta : TE) (t : TA) : TE := fun σ H Q => ta σ H fun x H1 => ∃ a dx fs, x = .ref a ∧ H1 a = some (.ins C dx fs) ∧ fs.lookup m = none ∧ t σ H1 fun vs H2 => sp (x :: vs) H2 Q (E σ)
section
variable {CX : CXT} {k : Nat} {f C : Addr} {fd : FuncData} {ps : List Str} {sp : Sp} {E : L2.St → XK} {x m : Str} {p pos apos : Pos} {e o : Expr} {es : List Expr} {ta : TE} {t : TA}
theorem pe_methS {pl : Sem Bool} (he : PE X o ta) (c : Cls X.K C) (hm : Meth X.K C m f) (F : FnOk X.prog X.w X.K X.mg X.base CX k f fd ps sp) (hr : Room k X.A) (hb : Binds X.K fd ps []) (hx : ∀ σ, PassesAt CX X σ (E σ)) (ha : PA X (e :: es) t)
    (hst : starEach (e :: es) X.env = (false, eval e X.env) :: starEach es X.env) (hpl : (backTo pos (starEach es X.env)).any (·.1) = false)
    (ht : eval (.Call (.Attribute o m apos) (e :: es) [] pos) X.env = (do
      let ov ← eval o X.env
      standAt apos.atName
      let (f, first) ← holding [ov] (getMethod ov m pl)
      callWith pos f first (backTo pos (starEach (e :: es) X.env)) (backToKw pos (keywordEach [] X.env)))) :
    PE X (.Call (.Attribute o m apos) (e :: es) [] pos) (tMethS C m sp E ta t) := by
  refine ⟨fun pins s σ H Q I h => ?_⟩
  refine PySem.W.methodCall_KW (pl := pl) (thn (he.run pins s σ H _ I h) fun u s1 ⟨x, H1, I1, rx, a, dx, fs, ex, ea, l, q⟩ => ?_) ht
  subst ex
  obtain rfl : u = Value.ref a := rx
  refine getmeth_ok I1 ea c hm l ?_
  refine PySem.W.callWith_K (first := [.ref a]) (h₀ := X.base) I.ok.mod.kin hm.kp (thn (ha.run pos pins s1 σ H1 _ I1 q) fun us s2 ⟨vs, H2, I2, r, q2⟩ => ⟨I2.kIn, ?_⟩) hst hpl
  exact run_fnS (us := .ref a :: us) (vs := .ref a :: vs) F hr hb (hx σ) I2 (.cons rfl r) q2
theorem pe_methS0 {pl : Sem Bool} (he : PE X o ta) (c : Cls X.K C) (hm : Meth X.K C m f) (F : FnOk X.prog X.w X.K X.mg X.base CX k f fd ps sp) (hr : Room k X.A) (hb : Binds X.K fd ps []) (hx : ∀ σ, PassesAt CX X σ (E σ))
    (ht : eval (.Call (.Attribute o m apos) [] [] pos) X.env = (do
      let ov ← eval o X.env
      standAt apos.atName
      let (f, first) ← holding [ov] (getMethod ov m pl)
      callWith pos f first (backTo pos (starEach [] X.env)) (backToKw pos (keywordEach [] X.env)))) :
    PE X (.Call (.Attribute o m apos) [] [] pos) (tMethS C m sp E ta L2.tNil) := by
  refine ⟨fun pins s σ H Q I h => ?_⟩
  refine PySem.W.methodCall_KW (pl := pl) (thn (he.run pins s σ H _ I h) fun u s1 ⟨x, H1, I1, rx, a, dx, fs, ex, ea, l, q⟩ => ?_) ht
  subst ex
  obtain rfl : u = Value.ref a := rx
  refine getmeth_ok I1 ea c hm l ?_
  exact PySem.W.callWith_K0 (first := [.ref a]) I1.kIn hm.kp (run_fnS (us := [.ref a]) (vs := [.ref a]) F hr hb (hx σ) I1 (.cons rfl .nil) q)
theorem run_makeS {E : XK} {pins : List (Addr × Obj)} {σ : L2.St} {H : Hp} {s : Shared} {Q : VK} {us : List Value} {vs : List V} (M : Mk X.K C f) (F : FnOk X.prog X.w X.K X.mg X.base CX k f fd ps sp) (hr : Room (k + 1) X.A) (hb : Binds X.K fd ps [])
    (hx : PassesAt CX X σ E) (I : Inv X pins σ H s) (r : Vals vs us)
    (h : ∀ x dx, H x = none → H dx = none → dx ≠ x → sp (.ref x :: vs) (upd (upd H dx (.own x)) x (.ins C dx [])) (fun v H2 => v = .non ∧ Q (.ref x) H2) E) :
    wpAny (model X.prog X.w) X.A (call (.ref C) us) (EP X pins σ Q) X.xe s := by
  have hq := h (s.heap.objs.size + 1) s.heap.objs.size (I.hok.fresh (Nat.le_succ _)) (I.hok.fresh (Nat.le_refl _)) (Nat.ne_of_lt (Nat.lt_succ_self _))
  have I2 := Inv.made (C := C) I
  have r2 : Vals (V.ref (s.heap.objs.size + 1) :: vs) (Value.ref (s.heap.objs.size + 1) :: us) := .cons rfl r
  have hl : ((Value.ref (s.heap.objs.size + 1) :: us) ++ ([] : List Value)).length = ps.length := by
    have e := r2.length
    rw [F.len _ _ _ _ hq] at e
    rw [List.append_nil]
    exact e.symm
  have hb2 := hb _ (Value.ref (s.heap.objs.size + 1) :: us) I2.kIn hl
  rw [List.append_nil] at hb2
  refine wpAny_call (make_map (f := f) I.kIn M.makes M.init (beq_iff_eq.mp M.fn) (codeAny_mono (F.run _ X.stack _ _ ⟨Value.ref (s.heap.objs.size + 1) :: us, []⟩ (Value.ref (s.heap.objs.size + 1) :: us) _ _ E (hr.make C us [])
    (I2.env0.make C us []) hb2 r2 hq) fun r s' hq' => ?_))
  cases r with
  | error e => exact hx pins _ _ e s' I2 hq'
  | ok fl =>
    cases fl with
    | ret u =>
      obtain ⟨v, H', I3, rv, ev, q3⟩ := I2.after hq'
      subst ev
      exact ⟨rv, ⟨V.ref (s.heap.objs.size + 1), H', I3, rfl, q3⟩⟩
    | next => exact False.elim hq'
    | brk => exact False.elim hq'
    | cont => exact False.elim hq'
def tMakeS (C : Addr) (sp : Sp) (E : L2.St → XK) (t : TA) : TE := fun σ H Q => t σ H fun vs H1 => ∀ x dx, H1 x = none → H1 dx = none → dx ≠ x →
  sp (.ref x :: vs) (upd (upd H1 dx (.own x)) x (.ins C dx [])) (fun v H2 => v = .non ∧ Q (.ref x) H2) (E σ)
theorem pe_makeS (M : Mk X.K C f) (F : FnOk X.prog X.w X.K X.mg X.base CX k f fd ps sp) (hr : Room (k + 1) X.A) (hg : Gl X x) (hm : X.mg x = some (.ref C)) (hb : Binds X.K fd ps []) (hx : ∀ σ, PassesAt CX X σ (E σ))
    (ha : PA X (e :: es) t) (hdb : (x == ("__debug__" : Str)) = false) (he : starEach (e :: es) X.env = (false, eval e X.env) :: starEach es X.env) (hpl : (backTo pos (starEach es X.env)).any (·.1) = false) :
    PE X (.Call (.Name x p) (e :: es) [] pos) (tMakeS C sp E t) := by
  refine ⟨fun pins s σ H Q I h => ?_⟩
  refine wpAny_Call_Name_kw (ld_glob I hg hm ?_ hdb)
  refine PySem.W.callWith_K (h₀ := X.base) I.ok.mod.kin M.kp (thn (ha.run pos pins s σ H _ I h) fun us s1 ⟨vs, H1, I1, r, q⟩ => ⟨I1.kIn, ?_⟩) he hpl
  exact run_makeS M F hr hb (hx σ) I1 r q
end
/-- a class that can be made: its number, its __init__ -/
structure KOk (X : Cx) (T : Tab) (L : Nat) (x : Str) (c : Nat) (F : Fn) : Prop where
  ex : ∃ C f fd ps, T.cls[c]? = some C ∧ Mk X.K C f ∧ FnOk X.prog X.w X.K X.mg X.base (L2.CX X.prog X.w) L f fd ps (spF T X.K F) ∧ X.mg x = some (.ref C) ∧ Binds X.K fd ps []
theorem rd_make {F : Fn} {c : Nat} {C : Addr} {m : AM} {σ : L2.St} {H : Hp} {Q : VK} (hc : T.cls[c]? = some C) (h : rdE T K W (mMake c F m) σ H Q) : tMakeS C (spF T K F) (WE W) (rdA T K W m) σ H Q := by
  obtain ⟨ρ, ex, sl, hp, rs, rh, q⟩ := h
  refine ⟨ρ, ex, sl, hp, rs, rh, q.bnd.imp fun us h1 ρ1 H1 k1 rh1 q1 xs rxs x dx hx hdx ne => ?_⟩
  have n1 : (upd H1 dx (.own x)) x = none := by rw [upd_ne (Ne.symm ne)]; exact hx
  have kd : Kp ρ1 H1 ρ1 (upd H1 dx (.own x)) := Kp.laid hdx
  have rd := rh1.laid (o := .own x) hdx
  have kx : Kp ρ1 (upd H1 dx (.own x)) (ρ1 ++ [some x]) (upd (upd H1 dx (.own x)) x (.ins C dx [])) := Kp.reg n1
  have rx := rd.reg (o := .ins C dx []) (ob := .ins c []) n1 ⟨x, C, dx, [], rfl, upd_same, hc, fun _ h => (by cases h), .nil⟩
  have kk := kd.trans kx
  have e1 : (ρ1 ++ [some x])[h1.length]? = some (some x) := by
    rw [← rh1.len, List.getElem?_append_right (Nat.le_refl _), Nat.sub_self]; rfl
  refine ⟨ρ1 ++ [some x], ex, h1 ++ [.ins c []], .ref h1.length :: us, rx, .cons (.ref e1) (Rvs.mono kk noex _ _ rxs), ?_⟩
  have q2 := (q1.later kk).bnd
  refine (q2.other (W' := fun cls d _ H' => WE W σ cls d H') (σ' := []) fun _ _ _ w => w).imp fun v h2 ρ2 H2 k2 rh2 q3 z rz => ?_
  cases v with
  | non =>
    cases rz
    exact ⟨rfl, q3 ρ2 H2 (Kp.refl _ _) rh2 _ (.ref (k2.up _ _ e1))⟩
  | _ => exact q3.elim
theorem e_make {x : Str} {p pos : Pos} {e : Expr} {es : List Expr} {L c : Nat} {F : Fn} {m : AM} (G : KOk X T L x c F) (hr : Room (L + 1) X.A) (hg : Gl X x) (tk : Takes X W) (ha : PA X (e :: es) (rdA T X.K W m)) (hdb : (x == ("__debug__" : Str)) = false)
    (he : starEach (e :: es) X.env = (false, eval e X.env) :: starEach es X.env) (hpl : (backTo pos (starEach es X.env)).any (·.1) = false) : PE X (.Call (.Name x p) (e :: es) [] pos) (rdE T X.K W (mMake c F m)) := by
  obtain ⟨C, f, fd, ps, hc, M, FO, hm, hb⟩ := G.ex
  exact imE (pe_makeS (E := WE W) M FO hr hg hm hb (fun σ => passAt tk σ) ha hdb he hpl) fun _ _ _ h => rd_make hc h
/-- an own method: of the class c -/
structure MOk (X : Cx) (T : Tab) (L : Nat) (c : Nat) (m : Str) (F : Fn) : Prop where
  ex : ∃ C f fd ps, T.cls[c]? = some C ∧ Meth X.K C m f ∧ FnOk X.prog X.w X.K X.mg X.base (L2.CX X.prog X.w) L f fd ps (spF T X.K F) ∧ Binds X.K fd ps []
  no : ∀ f, T.ok c f = true → T.fnm[f]? ≠ some m
theorem kind_ty {u : PV} {x : V} {k : String} (rh : Rh T K ρ ex H h) (r : Rv K ρ ex H u x) (e : kind u h = k) (hk : k ≠ "") : tyV K k x H := by
  cases u with
  | str _ => cases r; exact e.symm
  | lst _ => cases r with | lst a _ _ => exact .inl ⟨e.symm, _, .inl (.inl a)⟩
  | ref n =>
    cases r with
    | ref er =>
      unfold kind at e
      simp only at e
      split at e
      · rename_i l el
        obtain ⟨vs, ea, _⟩ := rh.lstAt el er
        exact .inl ⟨e.symm, _, .inl (.inl ea)⟩
      · rename_i l el
        obtain ⟨vs, ea, _⟩ := rh.dctAt el er
        exact .inr (.inr (.inl ⟨e.symm, .inl ⟨_, ea⟩⟩))
      · exact absurd e.symm hk
  | _ => exact absurd (show k = "" from e.symm) hk
theorem clsOf_out {u : PV} {c : Nat} (e : clsOf u h = some c) : ∃ n fs, u = .ref n ∧ h[n]? = some (.ins c fs) := by
  unfold clsOf at e
  split at e
  · split at e
    · rename_i el
      cases e
      exact ⟨_, _, rfl, el⟩
    · cases e
  · cases e
section
variable {L : Nat} {C : Nat → Option Fn} {ks : List String} {B : Bm} {o e : Expr} {es : List Expr} {m : Str} {apos pos : Pos} {mo : EM} {ma : AM}
/-- o.m(..): the rule is chosen by the receiver -/
theorem e_methR {e0 : Expr} {ta : TA} (hA : ∀ σ H Q, rdA T X.K W ma σ H Q → ta σ H Q)
    (hM : ∀ c F, C c = some F → ∃ Ca, T.cls[c]? = some Ca ∧ PE X e0 (tMethS Ca m (spF T X.K F) (WE W) (rdE T X.K W mo) ta)) (hno : ∀ c F, C c = some F → ∀ f, T.ok c f = true → T.fnm[f]? ≠ some m)
    (hB : ∀ k ∈ ks, k ≠ "" ∧ PE X e0 (tBM X.K k (rMt T X.K B k) (rdE T X.K W mo) ta)) : PE X e0 (rdE T X.K W (mMeth C ks B mo ma)) := by
  refine ⟨fun pins s σ H Q I h => ?_⟩
  obtain ⟨ρ, ex, sl, hp, rs, rh, q⟩ := h
  unfold mMeth at q
  cases er : mo sl hp with
  | bad => rw [er] at q; exact q.elim
  | exc c fs h1 => rw [er] at q; exact q.elim
  | ok u h1 =>
    rw [er] at q
    have q : Fin T X.K W ρ ex σ H (match clsOf u h1 with
        | some c => match C c with
          | some F => (ma sl h1).bnd fun vs h2 => F (u :: vs) h2
          | none => .bad
        | none => if kind u h1 ∈ ks then (ma sl h1).bnd fun vs h2 => retH (if kind u h2 = kind u h1 then B u vs h2 else none) else .bad) (fun v _ ρ' H' => ∀ x, Rv X.K ρ' ex H' v x → Q x H') := q
    have recv : ∀ {k : VK}, (∀ ρ1 H1 x, Kp ρ H ρ1 H1 → Rh T X.K ρ1 ex H1 h1 → Rv X.K ρ1 ex H1 u x → k x H1) → rdE T X.K W mo σ H k := fun {k} f => by
      refine ⟨ρ, ex, sl, hp, rs, rh, ?_⟩
      rw [er]
      exact fun ρ1 H1 k1 rh1 x rx => f ρ1 H1 x k1 rh1 rx
    cases ec : clsOf u h1 with
    | some c =>
      rw [ec] at q
      cases eC : C c with
      | none =>
        simp only [eC] at q
        exact q.elim
      | some F =>
        simp only [eC] at q
        obtain ⟨n, fs, rfl, el⟩ := clsOf_out ec
        obtain ⟨Ca, hc, pe⟩ := hM c F eC
        refine pe.run pins s σ H Q I (recv fun ρ1 H1 x k1 rh1 rx => ?_)
        cases rx with
        | ref er' =>
          rename_i a
          obtain ⟨C', dx, gs, ea, ec', eo, rf⟩ := rh1.insAt el er'
          rw [hc] at ec'
          cases ec'
          refine ⟨a, dx, gs, rfl, ea, rf.none (fun p hp => hno c F eC p.1 (eo p hp)), hA _ _ _ ?_⟩
          refine ⟨ρ1, ex, sl, h1, rs.mono k1 noex, rh1, (Fin.later q k1).bnd.imp fun us h2 ρ2 H2 k2 rh2 q2 xs rxs => ?_⟩
          exact ⟨ρ2, ex, h2, _, rh2, .cons (.ref (k2.up _ _ er')) rxs, q2.other fun _ _ _ w => w⟩
    | none =>
      rw [ec] at q
      simp only at q
      by_cases hk : kind u h1 ∈ ks
      · rw [if_pos hk] at q
        obtain ⟨ne, pe⟩ := hB _ hk
        refine pe.run pins s σ H Q I (recv fun ρ1 H1 x k1 rh1 rx => ⟨kind_ty rh1 rx rfl ne, hA _ _ _ ⟨ρ1, ex, sl, h1, rs.mono k1 noex, rh1, (Fin.later q k1).bnd.imp fun us h2 ρ2 H2 k2 rh2 q2 xs rxs => ?_⟩⟩)
        by_cases hk2 : kind u h2 = kind u h1
        · rw [if_pos hk2] at q2
          cases eB : B u us h2 with
          | none => rw [eB] at q2; exact q2.elim
          | some p =>
            obtain ⟨w, h'⟩ := p
            rw [eB] at q2
            exact ⟨ρ2, ex, h2, u, us, w, h', rh2, rx.mono k2 noex, rxs, hk2, eB, fun ρ' H' z kp rh' rz => q2 ρ' H' kp rh' z rz⟩
        · rw [if_neg hk2] at q2; exact q2.elim
      · rw [if_neg hk] at q; exact q.elim
/-- a built-in's method of a kind -/
def BOk (X : Cx) (T : Tab) (m : Str) (B : Bm) (k : String) : Prop := k ≠ "" ∧ ∃ id, PlainAttrs k ∧ Slot k m id ∧ typeOf (.builtin id) = pure (.type "method_descriptor") ∧ MtR X id (rMt T X.K B k)
theorem e_meth {pl : Sem Bool} (hM : ∀ c F, C c = some F → MOk X T L c m F) (hr : Room L X.A) (tok : T.Ok X.K) (tk : Takes X W) (hB : ∀ k ∈ ks, BOk X T m B k) (ho : PE X o (rdE T X.K W mo)) (ha : PA X (e :: es) (rdA T X.K W ma))
    (hst : starEach (e :: es) X.env = (false, eval e X.env) :: starEach es X.env) (hpl : (backTo pos (starEach es X.env)).any (·.1) = false)
    (ht : eval (.Call (.Attribute o m apos) (e :: es) [] pos) X.env = (do
      let ov ← eval o X.env
      standAt apos.atName
      let (f, first) ← holding [ov] (getMethod ov m pl)
      callWith pos f first (backTo pos (starEach (e :: es) X.env)) (backToKw pos (keywordEach [] X.env))))
    (hbase : attributeBase o m X.env (eval o X.env) = eval o X.env)
    (hfew : ((backTo pos (starEach (e :: es) X.env)).all (fun x => !x.1) && (backToKw pos (keywordEach [] X.env)).all (fun x => x.1.isSome)
      && decide ((e :: es).length + ([] : List Keyword).length + (if ([] : List Keyword).isEmpty then 0 else 1) < 30)) = true)
    (hline : (apos.endLine == pos.line) = true) : PE X (.Call (.Attribute o m apos) (e :: es) [] pos) (rdE T X.K W (mMeth C ks B mo ma)) :=
  e_methR (m := m) (fun _ _ _ h => h) (fun c F eC => by
      obtain ⟨Ca, f, fd, ps, hc, hm, FO, hb⟩ := (hM c F eC).ex
      exact ⟨Ca, hc, pe_methS (E := WE W) ho (tok.cl c Ca hc) hm FO hr hb (fun σ => passAt tk σ) ha hst hpl ht⟩) (fun c F eC => (hM c F eC).no) fun k hk => by
    obtain ⟨ne, id, pa, sl, ty, mt⟩ := hB k hk
    exact ⟨ne, pe_bm pa sl ty mt ho ha hbase hfew hline hst hpl⟩
theorem e_meth0 {pl : Sem Bool} (hM : ∀ c F, C c = some F → MOk X T L c m F) (hr : Room L X.A) (tok : T.Ok X.K) (tk : Takes X W) (hB : ∀ k ∈ ks, BOk X T m B k) (ho : PE X o (rdE T X.K W mo))
    (ht : eval (.Call (.Attribute o m apos) [] [] pos) X.env = (do
      let ov ← eval o X.env
      standAt apos.atName
      let (f, first) ← holding [ov] (getMethod ov m pl)
      callWith pos f first (backTo pos (starEach [] X.env)) (backToKw pos (keywordEach [] X.env))))
    (hbase : attributeBase o m X.env (eval o X.env) = eval o X.env) (hline : (apos.endLine == pos.line) = true) : PE X (.Call (.Attribute o m apos) [] [] pos) (rdE T X.K W (mMeth C ks B mo mNil)) :=
  e_methR (m := m) (ta := L2.tNil) (fun σ H Q h => by
      obtain ⟨ρ, ex, sl, hp, rs, rh, q⟩ := h
      exact q ρ H (Kp.refl _ _) rh [] .nil) (fun c F eC => by
      obtain ⟨Ca, f, fd, ps, hc, hm, FO, hb⟩ := (hM c F eC).ex
      exact ⟨Ca, hc, pe_methS0 (E := WE W) ho (tok.cl c Ca hc) hm FO hr hb (fun σ => passAt tk σ) ht⟩) (fun c F eC => (hM c F eC).no) fun k hk => by
    obtain ⟨ne, id, pa, sl, ty, mt⟩ := hB k hk
    exact ⟨ne, pe_bm0 pa sl ty mt ho hbase hline⟩
end
end
end Y

set_option maxHeartbeats 1000000
namespace Y
open PySem PySem.Spec PyProof.Rows L2
section
variable {X : Cx} {T : Tab} {K : PySem.W.Frag} {W : WX} {ρ : Pl} {ex : List Addr} {H : Hp} {h : VH}
/-! ### targets -/
/-- only these slots differ -/
def Only (own : List Nat) (σ σ' : L2.St) : Prop := σ'.length = σ.length ∧ ∀ j, j ∉ own → σ'[j]? = σ[j]?
theorem Only.refl (own : List Nat) (σ : L2.St) : Only own σ σ := ⟨rfl, fun _ _ => rfl⟩
theorem Only.trans {own : List Nat} {σ σ1 σ2 : L2.St} (a : Only own σ σ1) (b : Only own σ1 σ2) : Only own σ σ2 := ⟨b.1.trans a.1, fun j h => (b.2 j h).trans (a.2 j h)⟩
theorem Only.set {own : List Nat} {σ : L2.St} {i : Nat} {v : Option V} (h : i ∈ own) : Only own σ (σ.set i v) :=
  ⟨List.length_set, fun j hj => List.getElem?_set_ne fun e => hj (by rw [← e]; exact h)⟩
theorem wipe_get (σ : L2.St) (j : Nat) : ∀ vs : List Nat, (L2.wipe σ vs)[j]? = if j ∈ vs then (if j < σ.length then some none else none) else σ[j]?
  | [] => by simp [L2.wipe]
  | v :: vs => by
    unfold L2.wipe
    by_cases e : v = j
    · subst e
      rw [if_pos List.mem_cons_self]
      by_cases hl : v < σ.length
      · rw [List.getElem?_set_self (by rw [L2.wipe_length]; exact hl), if_pos hl]
      · rw [List.getElem?_eq_none (by rw [List.length_set, L2.wipe_length]; omega), if_neg hl]
    · rw [List.getElem?_set_ne e, wipe_get σ j vs]
      by_cases hm : j ∈ vs
      · rw [if_pos hm, if_pos (List.mem_cons_of_mem _ hm)]
      · rw [if_neg hm, if_neg (fun z => (List.mem_cons.mp z).elim (fun q => e q.symm) hm)]
theorem Only.wipe {own : List Nat} {σ σ' : L2.St} (h : Only own (L2.wipe σ own) σ') : L2.wipe σ' own = L2.wipe σ own := by
  refine List.ext_getElem? fun j => ?_
  rw [wipe_get, wipe_get]
  by_cases hm : j ∈ own
  · rw [if_pos hm, if_pos hm, h.1, L2.wipe_length]
  · rw [if_neg hm, if_neg hm, h.2 j hm, wipe_get, if_neg hm]

def rdG (T : Tab) (K : PySem.W.Frag) (own : List Nat) (g : GM) : TG := fun x σ H Q => ∃ ρ ex sl h v sl' h', Rst K ρ ex H sl σ ∧ Rh T K ρ ex H h ∧ Rv K ρ ex H v x ∧ g v sl h = some (sl', h') ∧
  ∀ ρ' H' σ', Kp ρ H ρ' H' → Rh T K ρ' ex H' h' → Rst K ρ' ex H' sl' σ' → Only own σ σ' → Q σ' H'
def rdGs (T : Tab) (K : PySem.W.Frag) (own : List Nat) (g : GMs) : TGs := fun xs σ H Q => ∃ ρ ex sl h vs sl' h', Rst K ρ ex H sl σ ∧ Rh T K ρ ex H h ∧ Rvs K ρ ex H vs xs ∧ g vs sl h = some (sl', h') ∧
  ∀ ρ' H' σ', Kp ρ H ρ' H' → Rh T K ρ' ex H' h' → Rst K ρ' ex H' sl' σ' → Only own σ σ' → Q σ' H'
theorem imG {e : Expr} {t t' : TG} (h : PG X e t) (f : ∀ v σ H Q, t' v σ H Q → t v σ H Q) : PG X e t' := ⟨fun pins s σ H v u Q I r q => h.run pins s σ H v u Q I r (f v σ H Q q)⟩
theorem imGs {e : List Expr} {t t' : TGs} (h : PGs X e t) (f : ∀ v σ H Q, t' v σ H Q → t v σ H Q) : PGs X e t' := ⟨fun pins s σ H v u Q I r q => h.run pins s σ H v u Q I r (f v σ H Q q)⟩
theorem g_name {i : Nat} {x : Str} {pos : Pos} {own : List Nat} (hN : X.N.Nodup) (hi : X.N[i]? = some x) (hx : Loc X.env.scope x) (hf : X.fn x = true ∨ X.env.scope.names.lookup x = some .local) (ho : i ∈ own) : PG X (.Name x pos) (rdG T K own (tName i)) :=
  imG (pg_name hN hi hx hf) fun x σ H Q h => by
    obtain ⟨ρ, ex, sl, hp, v, sl', h', rs, rh, rv, e, q⟩ := h
    cases e
    exact q ρ H _ (Kp.refl _ _) rh (rs.set i rv) (.set ho)
theorem gs_nil {own : List Nat} : PGs X [] (rdGs T K own tNil) := imGs pgs_nil fun xs σ H Q h => by
  obtain ⟨ρ, ex, sl, hp, vs, sl', h', rs, rh, rv, e, q⟩ := h
  cases rv with
  | nil => cases e; exact ⟨rfl, q ρ H _ (Kp.refl _ _) rh rs (.refl _ _)⟩
  | cons _ _ => cases e
theorem gs_cons {own : List Nat} {e : Expr} {es : List Expr} {g : GM} {gs : GMs} (h1 : PG X e (rdG T K own g)) (h2 : PGs X es (rdGs T K own gs)) (hs : (assignEach (e :: es) X.env).map (·.2) = assign e X.env :: (assignEach es X.env).map (·.2)) : PGs X (e :: es) (rdGs T K own (tCons g gs)) :=
  imGs (pgs_cons h1 h2 hs) fun xs σ H Q h => by
    obtain ⟨ρ, ex, sl, hp, vs, sl', h', rs, rh, rv, e, q⟩ := h
    cases rv with
    | nil => cases e
    | cons r1 r2 =>
      unfold tCons at e
      simp only at e
      split at e
      · rename_i sl1 h1 e1
        refine ⟨_, _, rfl, ρ, ex, sl, hp, _, sl1, h1, rs, rh, r1, e1, fun ρ1 H1 σ1 k1 rh1 rs1 o1 => ?_⟩
        exact ⟨ρ1, ex, sl1, h1, _, sl', h', rs1, rh1, Rvs.mono k1 noex _ _ r2, e, fun ρ' H' σ' k2 rh2 rs2 o2 => q ρ' H' σ' (k1.trans k2) rh2 rs2 (o1.trans o2)⟩
      · cases e
theorem g_tup {own : List Nat} {es : List Expr} {k : Nat} {pos : Pos} {gs : GMs} (hc : X.calm = true) (h : PGs X es (rdGs T X.K own gs)) (hst : (assignEach es X.env).findIdx? (·.1) = none)
    (hlen : ∀ vs sl h' r, gs vs sl h' = some r → vs.length = (assignEach es X.env).length) : PG X (.Tuple es k pos) (rdG T X.K own (tTup gs)) :=
  imG (pg_tup hc h rfl hst) fun x σ H Q h => by
    obtain ⟨ρ, ex, sl, hp, v, sl', h', rs, rh, rv, e, q⟩ := h
    unfold tTup at e
    split at e
    · obtain ⟨a, xs, rfl, s1, r1⟩ := rv.tupT
      refine ⟨a, xs, rfl, s1, by rw [← r1.length]; exact hlen _ _ _ _ e, ?_⟩
      exact ⟨ρ, ex, sl, hp, _, sl', h', rs, rh, r1, e, q⟩
    · cases e
theorem set_any (hu : X.A.units + 1 < cLine) : PSet X (fun o i v H Q => ∃ ρ ex h uo ui uv h', Rh T X.K ρ ex H h ∧ Rv X.K ρ ex H uo o ∧ Rv X.K ρ ex H ui i ∧ Rv X.K ρ ex H uv v ∧ setIx uo ui uv h = some h' ∧ ∀ ρ' H', Kp ρ H ρ' H' → Rh T X.K ρ' ex H' h' → Q H') := by
  intro pins s σ H o i v ov iv u Q I ro ri rv h
  obtain ⟨ρ, ex, hp, uo, ui, uv, h', rh, r1, r2, r3, e, q⟩ := h
  unfold setIx at e
  split at e
  · split at e
    · rename_i n l el
      cases r1 with
      | ref er =>
        rename_i a
        obtain ⟨ls, ea, rl⟩ := rh.lstAt el er
        split at e
        · obtain ⟨j, ej, e2⟩ := Option.map_eq_some_iff.mp e
          subst e2
          cases r2
          refine set_list pins s σ H _ _ v ov iv u Q I ro ri rv ⟨a, ls, _, j, rfl, rfl, ea, ?_, ?_⟩
          · show Y.atI ls.length _ = _
            rw [← rl.length]; exact ej
          · exact q ρ _ (Kp.write er) (rh.wlst er (rl.set j r3))
        · cases e
    · rename_i n kvs el
      split at e
      · rename_i hc
        cases e
        have hc := Bool.and_eq_true_iff.mp hc
        cases r1 with
        | ref er =>
          rename_i a
          obtain ⟨ks, ea, rk⟩ := rh.dctAt el er
          cases (show ov = Value.ref a from ro)
          obtain ⟨k', rk', rfl⟩ := keyR_of hc.1 r2
          have hl : ks.length < sizeLine := by rw [← rk.length, ← line_eq]; exact Nat.blt_eq.mp hc.2
          exact d_setItem hu I (DPut.k ea hl) ri rv fun s' I' => ⟨_, I', q ρ _ (Kp.write er) (rh.wdct er (Rks.put rk' r3 rk))⟩
      · cases e
    · cases e
  · cases e
theorem R.opt_ok {α : Type} {r : R α} {a : α} {h : VH} (e : r.opt = some (a, h)) : r = .ok a h := by
  cases r with
  | ok b g => cases e; rfl
  | exc _ _ _ => cases e
  | bad => cases e
theorem g_sub {own : List Nat} {o i : Expr} {pos : Pos} {mo mi : EM} (hu : X.A.units + 1 < cLine) (ho : PE X o (rdE T X.K W mo)) (hi : PE X i (rdE T X.K W mi))
    (ha : ∀ v, assign (.Subscript o i pos) X.env v = (do
      let ov ← holding [v] (eval o X.env)
      let iv ← holding [v, ov] (eval i X.env)
      standAt pos
      holding [v, ov, iv] (setItem ov iv v)
      release [v, ov, iv] [])) : PG X (.Subscript o i pos) (rdG T X.K own (tSub mo mi)) :=
  imG (pg_sub ho hi (set_any (T := T) hu) ha) fun x σ H Q h => by
    obtain ⟨ρ, ex, sl, hp, v, sl', h', rs, rh, rv, e, q⟩ := h
    unfold tSub at e
    split at e
    · rename_i u1 h1 e1
      split at e
      · rename_i u2 h2 e2
        split at e
        · rename_i h3 e3
          cases e
          refine ⟨ρ, ex, sl, hp, rs, rh, ?_⟩
          rw [R.opt_ok e1]
          intro ρ1 H1 k1 rh1 x1 rx1
          refine ⟨ρ1, ex, sl, h1, rs.mono k1 noex, rh1, ?_⟩
          rw [R.opt_ok e2]
          intro ρ2 H2 k2 rh2 x2 rx2
          refine ⟨ρ2, ex, h2, u1, u2, v, _, rh2, rx1.mono k2 noex, rx2, rv.mono (k1.trans k2) noex, e3, fun ρ' H' k3 rh3 => ?_⟩
          exact q ρ' H' σ ((k1.trans k2).trans k3) rh3 (rs.mono ((k1.trans k2).trans k3) noex) (.refl _ _)
        · cases e
      · cases e
    · cases e

/-! ### what is walked -/
/-- J walks vs, from now on -/
def Wk (T : Tab) (K : PySem.W.Frag) (ρ : Pl) (ex : List Addr) (H : Hp) (J : It) (vs : List PV) : Prop := ∀ ρ1 H1 ex1, Kp ρ H ρ1 H1 → (∀ a ∈ ex1, a ∈ ex ∨ H a = none) → ∀ i : Nat, (vs.length ≤ i → J.stop i H1) ∧ ∀ d, vs[i]? = some d → J.go i H1 ∧
  ∀ x H2, J.yld i H1 x H2 → Kp ρ1 H1 ρ1 H2 ∧ (∀ D o, H1 D = some o → H2 D = some o) ∧ (∀ h, Rh T K ρ1 ex1 H1 h → Rh T K ρ1 ex1 H2 h) ∧ ∀ h, Rh T K ρ1 ex1 H1 h → Rv K ρ1 ex1 H2 d x
def rdI (T : Tab) (K : PySem.W.Frag) (W : WX) (m : IM) : TI := fun σ H R => ∃ ρ ex sl h, Rst K ρ ex H sl σ ∧ Rh T K ρ ex H h ∧ Fin T K W ρ ex σ H (m sl h) fun vs _ ρ' H' => ∀ J, Wk T K ρ' ex H' J vs → R J H'
theorem imI {tg e : Expr} {t t' : TI} (h : PI X tg e t) (f : ∀ σ H R, t' σ H R → t σ H R) : PI X tg e t' := ⟨fun pins s σ H R I q => h.run pins s σ H R I (f σ H R q)⟩
theorem wk_list {a : Addr} {vs : List V} {l : List PV} (e : H a = some (.lst vs)) (im : Im ρ ex a) (r : Rvs K ρ ex H l vs) : Wk T K ρ ex H (Itl K a) l := by
  intro ρ1 H1 ex1 k hx i
  have e1 := k.im hx im e
  have r1 := Rvs.mono k hx _ _ r
  have sq : SqL K H1 a vs := .inl (.inl e1.1)
  refine ⟨fun hi => ⟨vs, sq, by rw [← r.length]; exact hi⟩, fun d hd => ?_⟩
  obtain ⟨x, ex', rx⟩ := r1.get hd
  refine ⟨⟨vs, x, sq, ex'⟩, fun y H2 hy => ?_⟩
  obtain ⟨e2, hy⟩ := hy
  subst e2
  have := hy vs sq
  rw [ex'] at this
  cases this
  exact ⟨Kp.refl _ _, fun _ _ z => z, fun _ z => z, fun _ _ => rx⟩
theorem wk_scr {a : Addr} {l : List Int} (e : (Rd H a (.lst (l.map V.int)) ∧ Im ρ ex a) ∨ WrL K a (l.map V.int)) : Wk T K ρ ex H (Itl K a) (l.map PV.int) := by
  intro ρ1 H1 ex1 k hx i
  have sq : SqL K H1 a (l.map V.int) := by
    rcases e with ⟨e, im⟩ | e
    · exact .inl (k.rd hx im e).1
    · exact .inr e
  refine ⟨fun hi => ⟨_, sq, by rw [List.length_map] at hi ⊢; exact hi⟩, fun d hd => ?_⟩
  rw [List.getElem?_map] at hd
  obtain ⟨z, hz, rfl⟩ := Option.map_eq_some_iff.mp hd
  have ez : (l.map V.int)[i]? = some (.int z) := by rw [List.getElem?_map, hz]; rfl
  refine ⟨⟨_, _, sq, ez⟩, fun y H2 hy => ?_⟩
  obtain ⟨e2, hy⟩ := hy
  subst e2
  have := hy _ sq
  rw [ez] at this
  cases this
  exact ⟨Kp.refl _ _, fun _ _ z => z, fun _ z => z, fun _ _ => .int _⟩
theorem wk_tup {a : Addr} {vs : List V} {l : List PV} (e : (Rd H a (.tup vs) ∧ Im ρ ex a) ∨ WrT K a vs) (r : Rvs K ρ ex H l vs) : Wk T K ρ ex H (Itt K a) l := by
  intro ρ1 H1 ex1 k hx i
  have sq : SqT K H1 a vs := by
    rcases e with ⟨e, im⟩ | e
    · exact .inl (k.rd hx im e).1
    · exact .inr e
  have r1 := Rvs.mono k hx _ _ r
  refine ⟨fun hi => ⟨vs, sq, by rw [← r.length]; exact hi⟩, fun d hd => ?_⟩
  obtain ⟨x, ex', rx⟩ := r1.get hd
  refine ⟨⟨vs, x, sq, ex'⟩, fun y H2 hy => ?_⟩
  obtain ⟨e2, hy⟩ := hy
  subst e2
  have := hy vs sq
  rw [ex'] at this
  cases this
  exact ⟨Kp.refl _ _, fun _ _ z => z, fun _ z => z, fun _ _ => rx⟩
theorem wk_range {lo : Int} {n : Nat} : Wk T K ρ ex H (Itr lo n) (rangeL lo n) := by
  intro ρ1 H1 ex1 k hx i
  have el : (rangeL lo n).length = n := by simp [rangeL]
  refine ⟨fun hi => by rw [el] at hi; exact hi, fun d hd => ?_⟩
  have hi : i < n := by have := (List.getElem?_eq_some_iff.mp hd).1; omega
  have ed : d = .int (lo + (i : Int)) := by
    unfold rangeL at hd
    rw [List.getElem?_map, List.getElem?_range hi] at hd
    exact (Option.some.inj hd).symm
  refine ⟨hi, fun y H2 hy => ?_⟩
  obtain ⟨e2, e3⟩ := hy
  subst e2 e3 ed
  exact ⟨Kp.refl _ _, fun _ _ z => z, fun _ z => z, fun _ _ => .int _⟩

theorem wk_str {s : List Nat} {z : Str} (r : StrR s z) : Wk T K ρ ex H (Its z) (s.map fun c => PV.str [c]) := by
  intro ρ1 H1 ex1 k hx i
  have hl : z.cps.size = s.length := by rw [← r.eq]; simp
  have hg : z.cps[i]? = s[i]? := by rw [← r.eq]; simp
  refine ⟨fun hi => by rw [List.length_map] at hi; show z.cps.size ≤ i; omega, fun d hd => ?_⟩
  rw [List.getElem?_map] at hd
  obtain ⟨c, hc, rfl⟩ := Option.map_eq_some_iff.mp hd
  refine ⟨?_, fun y H2 hy => ?_⟩
  · show i < z.cps.size
    have := (List.getElem?_eq_some_iff.mp hc).1
    omega
  · obtain ⟨e2, c', e3, e4⟩ := hy
    subst e2 e4
    rw [hg, hc] at e3
    cases e3
    exact ⟨Kp.refl _ _, fun _ _ z => z, fun _ z => z, fun _ _ => .str (one_str r (List.mem_of_getElem? hc))⟩
theorem i_iter {tg e : Expr} {m : EM} (h : PE X e (rdE T X.K W m)) : PI X tg e (rdI T X.K W (mIter m)) := by
  refine ⟨fun pins s σ H R I q => ?_⟩
  obtain ⟨ρ, ex, sl, hp, rs, rh, q⟩ := q
  unfold mIter at q
  cases er : m sl hp with
  | bad => rw [er] at q; exact q.elim
  | exc c fs h1 =>
    rw [er] at q
    refine (pi_list (tg := tg) h).run pins s σ H R I ⟨ρ, ex, sl, hp, rs, rh, ?_⟩
    rw [er]
    exact q
  | ok u h1 =>
    rw [er] at q
    have recv : ∀ {k : VK}, (∀ ρ1 H1 x, Kp ρ H ρ1 H1 → Rh T X.K ρ1 ex H1 h1 → Rv X.K ρ1 ex H1 u x → k x H1) → rdE T X.K W m σ H k := fun {k} f => by
      refine ⟨ρ, ex, sl, hp, rs, rh, ?_⟩
      rw [er]
      exact fun ρ1 H1 k1 rh1 x rx => f ρ1 H1 x k1 rh1 rx
    cases u with
    | lst l =>
      refine (pi_list (tg := tg) h).run pins s σ H R I (recv fun ρ1 H1 x k1 rh1 rx => ?_)
      cases rx with
      | lst a im r => exact ⟨_, rfl, ⟨_, .inl (.inl a)⟩, q ρ1 H1 k1 rh1 _ (wk_list a im r)⟩
    | scr l =>
      refine (pi_list (tg := tg) h).run pins s σ H R I (recv fun ρ1 H1 x k1 rh1 rx => ?_)
      cases rx with
      | scr a => exact ⟨_, rfl, ⟨_, a.elim (fun z => .inl z.1) .inr⟩, q ρ1 H1 k1 rh1 _ (wk_scr a)⟩
    | tup l =>
      refine (pi_tup (tg := tg) h).run pins s σ H R I (recv fun ρ1 H1 x k1 rh1 rx => ?_)
      cases rx with
      | tup a r => exact ⟨_, rfl, ⟨_, a.elim (fun z => .inl z.1) .inr⟩, q ρ1 H1 k1 rh1 _ (wk_tup a r)⟩
    | str l =>
      refine (pi_str (tg := tg) h).run pins s σ H R I (recv fun ρ1 H1 x k1 rh1 rx => ?_)
      cases rx with
      | str r => exact ⟨_, rfl, q ρ1 H1 k1 rh1 _ (wk_str r)⟩
    | _ => exact q.elim
theorem rng_ok {i : Int} (h : rngOk i = true) : -(2 ^ 62) ≤ i ∧ i < 2 ^ 62 := by
  have := rngOk_out h
  omega
theorem i_range1 {tg a : Expr} {p pos : Pos} {m : AM} (hg : Gl X "range") (hm : X.mg "range" = none) (ha : PA X [a] (rdA T X.K W m)) (hs : starEach [a] X.env = [(false, eval a X.env)]) (hl : ∀ sl h vs h', m sl h = .ok vs h' → vs.length = 1) :
    PI X tg (.Call (.Name "range" p) [a] [] pos) (rdI T X.K W (mRange m)) := imI (pi_range1 hg hm ha hs) fun σ H R q => by
  obtain ⟨ρ, ex, sl, hp, rs, rh, q⟩ := q
  refine ⟨ρ, ex, sl, hp, rs, rh, ?_⟩
  have hl := hl sl hp
  unfold mRange at q
  cases er : m sl hp with
  | bad => rw [er] at q; exact q.elim
  | exc c fs h1 => rw [er] at q; exact q
  | ok us h1 =>
    rw [er] at q
    have hl := hl us h1 er
    intro ρ1 H1 k1 rh1 xs rxs
    replace q : Fin T X.K W ρ ex σ H (match us with
      | [.int j] => if rngOk j then .ok (rangeL 0 j.toNat) h1 else .bad
      | [.int i, .int j] => if rngOk i && rngOk j then .ok (rangeL i (j - i).toNat) h1 else .bad
      | _ => Y.R.bad) _ := q
    split at q
    · rename_i j
      split at q
      · rename_i hj
        cases rxs with
        | cons r1 r2 =>
          cases r2
          cases r1
          obtain ⟨b1, b2⟩ := rng_ok hj
          exact ⟨j, rfl, b1, b2, q ρ1 H1 k1 rh1 _ wk_range⟩
      · exact q.elim
    · simp at hl
    · exact q.elim
theorem i_range2 {tg a b : Expr} {p pos : Pos} {m : AM} (hg : Gl X "range") (hm : X.mg "range" = none) (ha : PA X [a, b] (rdA T X.K W m)) (hs : starEach [a, b] X.env = [(false, eval a X.env), (false, eval b X.env)]) (hs2 : starEach [b] X.env = [(false, eval b X.env)]) (hl : ∀ sl h vs h', m sl h = .ok vs h' → vs.length = 2) :
    PI X tg (.Call (.Name "range" p) [a, b] [] pos) (rdI T X.K W (mRange m)) := imI (pi_range2 hg hm ha hs hs2) fun σ H R q => by
  obtain ⟨ρ, ex, sl, hp, rs, rh, q⟩ := q
  refine ⟨ρ, ex, sl, hp, rs, rh, ?_⟩
  have hl := hl sl hp
  unfold mRange at q
  cases er : m sl hp with
  | bad => rw [er] at q; exact q.elim
  | exc c fs h1 => rw [er] at q; exact q
  | ok us h1 =>
    rw [er] at q
    have hl := hl us h1 er
    intro ρ1 H1 k1 rh1 xs rxs
    replace q : Fin T X.K W ρ ex σ H (match us with
      | [.int j] => if rngOk j then .ok (rangeL 0 j.toNat) h1 else .bad
      | [.int i, .int j] => if rngOk i && rngOk j then .ok (rangeL i (j - i).toNat) h1 else .bad
      | _ => Y.R.bad) _ := q
    split at q
    · simp at hl
    · rename_i i j
      split at q
      · rename_i hj
        have hj := Bool.and_eq_true_iff.mp hj
        cases rxs with
        | cons r1 r2 =>
          cases r2 with
          | cons r2 r3 =>
            cases r3
            cases r1
            cases r2
            obtain ⟨b1, b2⟩ := rng_ok hj.1
            obtain ⟨b3, b4⟩ := rng_ok hj.2
            exact ⟨i, j, rfl, ⟨b1, b2, b3, b4⟩, q ρ1 H1 k1 rh1 _ wk_range⟩
      · exact q.elim
    · exact q.elim

/-! ### comprehensions -/
def hide (H : Hp) (D : Addr) : Hp := fun b => if b = D then none else H b
theorem hide_ne {H : Hp} {D b : Addr} (h : b ≠ D) : hide H D b = H b := if_neg h
theorem hide_same {H : Hp} {D : Addr} : hide H D D = none := if_pos rfl
theorem hide_upd {H : Hp} {D : Addr} {o : HO} (e : H D = some o) : upd (hide H D) D o = H := by
  funext b
  by_cases h : b = D
  · subst h; rw [upd_same, e]
  · rw [upd_ne h, hide_ne h]
theorem rd_hide {D a : Addr} {u : HO} (h : a ≠ D) (r : Rd H a u) : Rd (hide H D) a u := by
  rcases r with r | ⟨o, r⟩
  · exact .inl (by rw [hide_ne h]; exact r)
  · exact .inr ⟨o, by rw [hide_ne h]; exact r⟩
theorem im_hide {D a : Addr} (im : Im ρ (D :: ex) a) : Im ρ ex a ∧ a ≠ D := ⟨⟨im.1, fun z => im.2 (List.mem_cons_of_mem _ z)⟩, fun z => im.2 (by rw [z]; exact List.mem_cons_self)⟩
mutual
theorem Rv.hide {D : Addr} : ∀ (d : PV) (v : V), Rv K ρ (D :: ex) H d v → Rv K ρ ex (Y.hide H D) d v
  | .non, _, h => by cases h; exact .non
  | .bl _, _, h => by cases h; exact .bl _
  | .int _, _, h => by cases h; exact .int _
  | .str _, _, h => by cases h with | str e => exact .str e
  | .tup l, _, h => by
    cases h with
    | tup e r =>
      refine .tup ?_ (Rvs.hide l _ r)
      rcases e with ⟨e, i⟩ | e
      · exact .inl ⟨rd_hide (im_hide i).2 e, (im_hide i).1⟩
      · exact .inr e
  | .lst l, _, h => by
    cases h with
    | lst e i r => exact .lst (by rw [hide_ne (im_hide i).2]; exact e) (im_hide i).1 (Rvs.hide l _ r)
  | .scr l, _, h => by
    cases h with
    | scr e =>
      refine .scr ?_
      rcases e with ⟨e, i⟩ | e
      · exact .inl ⟨rd_hide (im_hide i).2 e, (im_hide i).1⟩
      · exact .inr e
  | .dct l, _, h => by
    cases h with
    | dct e i r => exact .dct (rd_hide (im_hide i).2 e) (im_hide i).1 (Rks.hide l _ r)
  | .ref n, _, h => by cases h with | ref e => exact .ref e
  | .exn _ _, _, h => by cases h
theorem Rvs.hide {D : Addr} : ∀ (ds : List PV) (vs : List V), Rvs K ρ (D :: ex) H ds vs → Rvs K ρ ex (Y.hide H D) ds vs
  | [], _, h => by cases h; exact .nil
  | d :: ds, _, h => by cases h with | cons a r => exact .cons (Rv.hide d _ a) (Rvs.hide ds _ r)
theorem Rks.hide {D : Addr} : ∀ (ds : List (PV × PV)) (vs : List (Key × V)), Rks K ρ (D :: ex) H ds vs → Rks K ρ ex (Y.hide H D) ds vs
  | [], _, h => by cases h; exact .nil
  | (_, d) :: ds, _, h => by cases h with | cons e a r => exact .cons e (Rv.hide d _ a) (Rks.hide ds _ r)
end
theorem Rfs.hide {D : Addr} : ∀ {fs : List (Nat × PV)} {gs : List (Str × V)}, Rfs T K ρ (D :: ex) H fs gs → Rfs T K ρ ex (Y.hide H D) fs gs
  | _, _, .nil => .nil
  | _, _, .cons e r q => .cons e (Rv.hide _ _ r) q.hide
theorem Rh.hide {D : Addr} (r : Rh T K ρ (D :: ex) H h) (hx : D ∉ ex) : Rh T K ρ ex (Y.hide H D) h := by
  have nD : ∀ {n : Nat} {a : Addr}, ρ[n]? = some (some a) → a ≠ D := fun {n a} e z => (r.exs D List.mem_cons_self).2 ⟨n, by rw [← z]; exact e⟩
  refine ⟨r.len, r.inj, fun a ha => ⟨?_, (r.exs a (List.mem_cons_of_mem _ ha)).2⟩, fun n o p e1 e2 => ?_⟩
  · rw [hide_ne (fun z => hx (by rw [← z]; exact ha))]
    exact (r.exs a (List.mem_cons_of_mem _ ha)).1
  · have q := r.ob n o p e1 e2
    cases o with
    | gone => exact q
    | lst l =>
      obtain ⟨a, vs, h1, h2, h3⟩ := q
      subst h1
      exact ⟨a, vs, rfl, by rw [hide_ne (nD e2)]; exact h2, Rvs.hide _ _ h3⟩
    | dct l =>
      obtain ⟨a, vs, h1, h2, h3⟩ := q
      subst h1
      exact ⟨a, vs, rfl, by rw [hide_ne (nD e2)]; exact h2, Rks.hide _ _ h3⟩
    | ldct l =>
      obtain ⟨a, o, vs, h1, h2, h3⟩ := q
      subst h1
      exact ⟨a, o, vs, rfl, by rw [hide_ne (nD e2)]; exact h2, Rks.hide _ _ h3⟩
    | ins c fs =>
      obtain ⟨a, C, dx, gs, h1, h2, h3, h4, h5⟩ := q
      subst h1
      exact ⟨a, C, dx, gs, rfl, by rw [hide_ne (nD e2)]; exact h2, h3, h4, h5.hide⟩
theorem Kp.hide {ρ' : Pl} {H' : Hp} {D : Addr} (k : Kp ρ H ρ' H') (hD : H D = none) : Kp ρ H ρ' (Y.hide H' D) :=
  ⟨k.up, fun a o e n => by rw [hide_ne (ne_of_none e hD)]; exact k.keep a o e n, k.new⟩
def W0 : WX := fun _ _ _ _ => False
theorem takesW0 {X : Cx} : Takes X W0 := takes0
theorem Fin.calm {α : Type} {r : R α} {k : α → VH → Pl → Hp → Prop} {σ : L2.St} (f : Fin T K W ρ ex σ H r.calm k) : ∃ a h', r = .ok a h' ∧ Fin T K W0 ρ ex σ H r k := by
  cases r with
  | ok a h' => exact ⟨a, h', rfl, f⟩
  | exc _ _ _ => exact f.elim
  | bad => exact f.elim
theorem Rh.lay {D : Addr} {o : HO} (r : Rh T K ρ ex H h) (hD : H D = none) : Rh T K ρ (D :: ex) (upd H D o) h := by
  have f := r.fresh hD
  have rl := r.laid (o := o) hD
  refine ⟨rl.len, rl.inj, fun a ha => ?_, fun n u p e1 e2 => (r.ob n u p e1 e2).mono (Kp.laid hD) (fun a ha => (List.mem_cons.mp ha).elim (fun z => .inr (by rw [z]; exact hD)) .inl) fun a ea => ?_⟩
  · rcases List.mem_cons.mp ha with z | z
    · subst z; exact ⟨(by rw [upd_same]; exact fun z => by cases z), f.1⟩
    · exact rl.exs a z
  · subst ea
    obtain ⟨w, eu⟩ := r.has ⟨n, e2⟩
    exact upd_ne (ne_of_none eu hD)
theorem upd_hide {D : Addr} {o : HO} : upd (Y.hide H D) D o = upd H D o := by
  funext b
  by_cases h : b = D
  · subst h; rw [upd_same, upd_same]
  · rw [upd_ne h, upd_ne h, hide_ne h]
theorem laidx {D : Addr} : ∀ a ∈ D :: ex, a ∈ ex ∨ Y.hide H D a = none := fun a ha => (List.mem_cons.mp ha).elim (fun z => .inr (by rw [z]; exact hide_same)) .inl
theorem Rvs.over {D : Addr} {o : HO} {l : List PV} {vs : List V} (r : Rvs K ρ (D :: ex) H l vs) : Rvs K ρ (D :: ex) (upd H D o) l vs := by
  rw [← upd_hide]
  exact Rvs.mono (Kp.laid hide_same) laidx _ _ (Rvs.hide _ _ r)
theorem Rks.over {D : Addr} {o : HO} {l : List (PV × PV)} {vs : List (Key × V)} (r : Rks K ρ (D :: ex) H l vs) : Rks K ρ (D :: ex) (upd H D o) l vs := by
  rw [← upd_hide]
  exact Rks.mono (Kp.laid hide_same) laidx _ _ (Rks.hide _ _ r)
theorem Rv.over {D : Addr} {o : HO} {l : PV} {vs : V} (r : Rv K ρ (D :: ex) H l vs) : Rv K ρ (D :: ex) (upd H D o) l vs := by
  rw [← upd_hide]
  exact Rv.mono (Kp.laid hide_same) laidx _ _ (Rv.hide _ _ r)
theorem Rh.over {D : Addr} {o : HO} (r : Rh T K ρ (D :: ex) H h) (hx : D ∉ ex) : Rh T K ρ (D :: ex) (upd H D o) h := by
  rw [← upd_hide]
  exact (r.hide hx).lay hide_same
theorem Kp.over {ρ' : Pl} {H' : Hp} {D : Addr} {o : HO} (k : Kp ρ H ρ' H') (hD : H D = none) : Kp ρ H ρ' (upd H' D o) :=
  ⟨k.up, fun a u e n => by rw [upd_ne (ne_of_none e hD)]; exact k.keep a u e n, k.new⟩
/-- a turn's outcome, whatever waits behind: the rest of the loop -/
theorem rd_lc {it : IM} {tg : GM} {t : TM} {e : EM} {own : List Nat} {σ : L2.St} {H : Hp} {Q : VK} (h : rdL T K W (mLc it tg t e own) σ H Q) : tLc (rdI T K W it) (rdG T K own tg) (rdT T K W0 t) (rdE T K W0 e) own σ H Q := by
  obtain ⟨ρ, ex, sl, hp, rs, rh, q⟩ := h
  refine ⟨ρ, ex, sl, hp, rs, rh, q.bnd.imp fun vs h1 ρ1 H1 k1 rh1 q1 J wk D hD => ?_⟩
  have rs1 := rs.mono k1 noex
  have nDx : D ∉ ex := fun z => (rh1.exs D z).1 hD
  -- the word: behind i turns
  refine ⟨fun i m H2 => m = vs.length - i ∧ i ≤ vs.length ∧ ∃ ρ2 acc accV h2, Kp ρ1 H1 ρ2 H2 ∧ Rh T K ρ2 (D :: ex) H2 h2 ∧ H2 D = some (.lst accV) ∧ accV.length ≤ line ∧ Rvs K ρ2 (D :: ex) H2 acc accV ∧
      Fin T K W ρ1 ex σ H1 (lcLoop tg t e (Y.wipe sl own) (vs.drop i) acc h2) (fun l _ ρ' H' => ∀ p xs H3, H' p = none → H3 = upd H' p (.lst xs) → xs.length ≤ line → Rvs K ρ' ex H' l xs → Q (.ref p) H3), ⟨vs.length, ?_⟩, ?_⟩
  · have f := rh1.fresh hD
    refine ⟨by simp, Nat.zero_le _, ρ1, [], [], h1, Kp.laid hD, ?_, upd_same, Nat.zero_le _, .nil, q1⟩
    exact rh1.lay hD
  · rintro i m H2 ⟨em, hi, ρ2, acc, accV, h2, k2, rh2, hD2, hl2, racc, fin⟩
    have hx2 : ∀ a ∈ D :: ex, a ∈ ex ∨ H1 a = none := fun a ha => (List.mem_cons.mp ha).elim (fun z => .inr (by rw [z]; exact hD)) .inl
    obtain ⟨wstop, wgo⟩ := wk ρ2 H2 (D :: ex) k2 hx2 i
    by_cases hlt : i < vs.length
    · obtain ⟨go, yld⟩ := wgo vs[i] (List.getElem?_eq_getElem hlt)
      have ed : vs.drop i = vs[i] :: vs.drop (i + 1) := List.drop_eq_getElem_cons hlt
      rw [ed] at fin
      unfold lcLoop at fin
      refine .inr ⟨go, fun H' => ∃ ρ2 acc accV h2, Kp ρ1 H1 ρ2 H' ∧ Rh T K ρ2 (D :: ex) H' h2 ∧ H' D = some (.lst accV) ∧ accV.length ≤ line ∧ Rvs K ρ2 (D :: ex) H' acc accV ∧
        Fin T K W ρ1 ex σ H1 (lcLoop tg t e (Y.wipe sl own) (vs.drop (i + 1)) acc h2) (fun l _ ρ' H' => ∀ p xs H3, H' p = none → H3 = upd H' p (.lst xs) → xs.length ≤ line → Rvs K ρ' ex H' l xs → Q (.ref p) H3),
        fun H' hn => ⟨vs.length - (i + 1), by omega, rfl, by omega, hn⟩, fun x H3 hy => ?_⟩
      obtain ⟨k3, d3, r3, v3⟩ := yld x H3 hy
      have rh3 := r3 h2 rh2
      have rx := v3 h2 rh2
      have racc3 := Rvs.mono k3 noex _ _ racc
      have hD3 := d3 D _ hD2
      have k13 := k2.trans k3
      have rsw : Rst K ρ2 (D :: ex) H3 (Y.wipe sl own) (L2.wipe σ own) := (rs1.mono k13 hx2).wipe own
      cases eg : tg vs[i] (Y.wipe sl own) h2 with
      | none => simp only [eg] at fin; exact fin.elim
      | some p =>
        obtain ⟨sl4, h4⟩ := p
        simp only [eg] at fin
        refine ⟨ρ2, D :: ex, Y.wipe sl own, h2, _, sl4, h4, rsw, rh3, rx, eg, fun ρ4 H4 σ4 k4 rh4 rs4 o4 => ⟨o4.wipe, ?_⟩⟩
        have k14 := k13.trans k4
        have hx4 : ∀ a ∈ D :: ex, a ∈ ex ∨ H1 a = none := hx2
        have nD4 := (rh4.exs D List.mem_cons_self).2
        have hD4 := k4.keep D _ hD3 (rh3.exs D List.mem_cons_self).2
        have racc4 := Rvs.mono k4 noex _ _ racc3
        refine ⟨ρ4, D :: ex, sl4, h4, rs4, rh4, ?_⟩
        cases et : t sl4 h4 with
        | bad => rw [et] at fin; exact fin.elim
        | exc c fs h5 => rw [et] at fin; exact fin.elim
        | ok b h5 =>
          rw [et] at fin
          intro ρ5 H5 k5 rh5
          have hD5 := k5.keep D _ hD4 nD4
          have racc5 := Rvs.mono k5 noex _ _ racc4
          have nD5 := (rh5.exs D List.mem_cons_self).2
          have fin : Fin T K W ρ1 ex σ H1 (if b = true then ((e sl4 h5).calm).bnd fun y h3 => if Nat.blt acc.length line then lcLoop tg t e (Y.wipe sl own) (vs.drop (i + 1)) (acc ++ [y]) h3 else .bad
            else lcLoop tg t e (Y.wipe sl own) (vs.drop (i + 1)) acc h5) _ := fin
          cases b with
          | false =>
            rw [if_neg (by decide)] at fin
            simp only [Bool.false_eq_true, if_false]
            exact ⟨ρ5, acc, accV, h5, k14.trans k5, rh5, hD5, hl2, racc5, fin⟩
          | true =>
            rw [if_pos rfl] at fin
            simp only [if_true]
            refine ⟨ρ5, D :: ex, sl4, h5, rs4.mono k5 noex, rh5, ?_⟩
            cases ee : e sl4 h5 with
            | bad => rw [ee] at fin; exact fin.elim
            | exc c fs h6 => rw [ee] at fin; exact fin.elim
            | ok y h6 =>
              rw [ee] at fin
              intro ρ6 H6 k6 rh6 yv ry
              have hD6 := k6.keep D _ hD5 nD5
              have racc6 := Rvs.mono k6 noex _ _ racc5
              have fin : Fin T K W ρ1 ex σ H1 (if Nat.blt acc.length line then lcLoop tg t e (Y.wipe sl own) (vs.drop (i + 1)) (acc ++ [y]) h6 else .bad) _ := fin
              split at fin
              · rename_i hb
                have hb : acc.length < line := Nat.blt_eq.mp hb
                have el := racc.length
                refine ⟨accV, hD6, by rw [← line_eq, ← el]; exact hb, ρ6, acc ++ [y], accV ++ [yv], h6, ((k14.trans k5).trans k6).over hD, rh6.over nDx, upd_same, ?_, (racc6.snoc ry).over, ?_⟩
                · rw [List.length_append, ← el]; exact hb
                · exact fin
              · exact fin.elim
    · have ei : i = vs.length := by omega
      have ed : vs.drop i = [] := List.drop_eq_nil_of_le (by omega)
      rw [ed] at fin
      refine .inl ⟨wstop (by omega), ?_⟩
      have fin : ∀ ρ' H', Kp ρ1 H1 ρ' H' → Rh T K ρ' ex H' h2 → ∀ p xs H3, H' p = none → H3 = upd H' p (.lst xs) → xs.length ≤ line → Rvs K ρ' ex H' acc xs → Q (.ref p) H3 := fin
      exact fin ρ2 (Y.hide H2 D) (k2.hide hD) (rh2.hide nDx) D accV H2 hide_same (hide_upd hD2).symm hl2 (Rvs.hide _ _ racc)
end
end Y

set_option maxHeartbeats 1000000
namespace Y
open PySem PySem.Spec PyProof.Rows L2
/-! ### what a def's body may lean on -/
structure Ctx (X : Cx) (T : Tab) (W : WX) (L : Nat) : Prop where
  hc : X.calm = true
  hN : X.N.Nodup
  room : Room L X.A
  tk : Takes X W
  tok : T.Ok X.K
  hp : PassesOwn (model X.prog X.w) X.A X.env X.xe
section
variable {X : Cx} {T : Tab} {W : WX} {L : Nat}
theorem Ctx.hu (c : Ctx X T W L) : X.A.units + 65 < cLine := by have := c.room.un; omega
theorem Ctx.blk (c : Ctx X T W L) {s : Shared} {H : Hp} {sc : Scope} {e : Env} {fp : List Addr} : Ctx (X.blk s H sc e fp) T W0 L :=
  ⟨c.hc, c.hN, c.room, takesW0, c.tok, PassesOwn.never⟩
/-- a def that can be called: its name, what it does, how deep -/
structure Cal (P : Program) (w : World) (K : PySem.W.Frag) (mg : Str → Option Value) (base : Heap) (T : Tab) (k : Nat) (x : Str) (F : Fn) : Prop where
  ex : ∃ f fd ps, FnOk P w K mg base (L2.CX P w) k f fd ps (spF T K F) ∧ mg x = some (.ref f) ∧ PySem.W.keepIn K (.ref f) = true ∧ Binds K fd ps []
/-! #### expressions -/
theorem v (i : Nat) {x : Str} {pos : Pos} (hN : X.N[i]? = some x := by rfl) (hv : Vis X.env.scope x := by first | exact Or.inl rfl | exact Or.inr (Or.inl rfl) | exact Or.inr (Or.inr rfl)) (hd : (x == ("__debug__" : Str)) = false := by decide)
    (hcd : (x == ("__classdict__" : Str)) = false := by decide) : PE X (.Name x pos) (rdE T X.K W (mVar i)) := e_var hN hv hd hcd
/-- a value of the top -/
def Glb (K : PySem.W.Frag) (mg : Str → Option Value) (x : Str) (v : PV) : Prop := ∃ u z, mg x = some u ∧ RelV z u ∧ ∀ ρ ex H, Rv K ρ ex H v z
theorem glb {x : Str} {v : PV} {pos : Pos} (g : Glb X.K X.mg x v) (hg : Gl X x := by rfl) (hd : (x == ("__debug__" : Str)) = false := by decide) : PE X (.Name x pos) (rdE T X.K W (mC v)) := by
  refine ⟨fun pins s σ H Q I h => ?_⟩
  obtain ⟨u, z, hm, r, rv⟩ := g
  obtain ⟨ρ, ex, sl, hp, rs, rh, q⟩ := h
  exact (pe_glob hg hm r hd).run pins s σ H Q I (q ρ H (Kp.refl _ _) rh z (rv ρ ex H))
theorem bin (op : Operator) {a b : Expr} {ma mb : EM} {pos : Pos} (ha : PE X a (rdE T X.K W ma)) (hb : PE X b (rdE T X.K W mb)) : PE X (.BinOp a op b pos) (rdE T X.K W (mOp2 (binO op) ma mb)) := e_op2 (o_bin op) ha hb
def negO (x : PV) (_ : VH) : Option PV := match x with
  | .int i => some (.int (-i))
  | _ => none
theorem neg {a : Expr} {ma : EM} {pos : Pos} (ha : PE X a (rdE T X.K W ma)) : PE X (.UnaryOp .USub a pos) (rdE T X.K W (mOp1 negO ma)) := by
  refine imE (pe_un un_neg ha) fun σ H Q h => ?_
  obtain ⟨ρ, ex, sl, hp, rs, rh, q⟩ := h
  refine ⟨ρ, ex, sl, hp, rs, rh, q.bnd.imp fun u h1 ρ1 H1 k1 rh1 q1 x rx => ?_⟩
  obtain ⟨w, e, q3⟩ := q1.retO
  cases u with
  | int i => cases rx; cases e; exact ⟨i, rfl, q3 ρ1 H1 (Kp.refl _ _) rh1 _ (.int _)⟩
  | _ => cases e
theorem cmp (c : Ctx X T W L) (op : CmpOp) {a b : Expr} {ma mb : EM} {pos : Pos} (ha : PE X a (rdE T X.K W ma)) (hb : PE X b (rdE T X.K W mb)) (hm : behindInMarks op b = false := by first | exact nomark _ | rfl) : PE X (.Compare a [op] [b] pos) (rdE T X.K W (mOp2 (cmpV op) ma mb)) := e_cmp (o_cmp op c.hu) ha hb hm
theorem tcmp (c : Ctx X T W L) (op : CmpOp) {a b : Expr} {ma mb : EM} {pos : Pos} (ha : PE X a (rdE T X.K W ma)) (hb : PE X b (rdE T X.K W mb)) (hm : behindInMarks op b = false := by first | exact nomark _ | rfl) : PT X (.Compare a [op] [b] pos) (rdT T X.K W (mTest (mOp2 (cmpV op) ma mb))) := t_cmp (o_cmp op c.hu) ha hb hm
theorem ix (c : Ctx X T W L) {a b : Expr} {ma mb : EM} {pos : Pos} (ha : PE X a (rdE T X.K W ma)) (hb : PE X b (rdE T X.K W mb)) (hs : PlainIx b := by intro _ _; rfl) : PE X (.Subscript a b pos) (rdE T X.K W (mOp2 ixO ma mb)) :=
  e_ix (o_ix (Nat.lt_of_le_of_lt (Nat.add_le_add_left (by decide) _) c.hu)) ha hb hs
theorem sl {e : Expr} {lo hi : Option Expr} {p2 pos : Pos} {m : EM} {l u : OM} (he : PE X e (rdE T X.K W m)) (hl : PO X lo (rdO T X.K W l)) (hu : PO X hi (rdO T X.K W u)) : PE X (.Subscript e (.Slice lo hi none p2) pos) (rdE T X.K W (mSl m l u)) := e_sl o_sl he hl hu
/-! #### arguments -/
theorem ac {e : Expr} {es : List Expr} {m : EM} {r : AM} (ha : PE X e (rdE T X.K W m)) (hr : PA X es (rdA T X.K W r)) (hs : starEach (e :: es) X.env = (false, eval e X.env) :: starEach es X.env := by rfl) : PA X (e :: es) (rdA T X.K W (mCons m r)) := e_cons ha hr hs
theorem an : PA X [] (rdA T X.K W mNil) := e_nil
theorem tup {es : List Expr} {n : Nat} {pos : Pos} {m : AM} (h : PA X es (rdA T X.K W m)) : PE X (.Tuple es n pos) (rdE T X.K W (mTup m)) := e_tup h
theorem lstF {es : List Expr} {pos : Pos} {m : AM} (h : PA X es (rdA T X.K W m)) : PE X (.List es pos) (rdE T X.K W (mFz (mNewL m))) := e_fz (e_lst h)
theorem lstR {es : List Expr} {pos : Pos} {m : AM} (h : PA X es (rdA T X.K W m)) : PE X (.List es pos) (rdE T X.K W (mReg (mNewL m))) := e_reg (e_lst h)
/-! #### calls -/
theorem call (c : Ctx X T W L) {x : Str} {p pos : Pos} {e : Expr} {es : List Expr} {k : Nat} {F : Fn} {m : AM} (G : Cal X.prog X.w X.K X.mg X.base T k x F) (ha : PA X (e :: es) (rdA T X.K W m)) (hk : k ≤ L := by decide) (hg : Gl X x := by rfl)
    (hdb : (x == ("__debug__" : Str)) = false := by decide) (he : starEach (e :: es) X.env = (false, eval e X.env) :: starEach es X.env := by rfl) (hpl : (backTo pos (starEach es X.env)).any (·.1) = false := by rfl) : PE X (.Call (.Name x p) (e :: es) [] pos) (rdE T X.K W (mCall F m)) := by
  obtain ⟨f, fd, ps, FO, hm, hkp, hb⟩ := G.ex
  exact e_call FO (c.room.mono hk) hg hm hkp hb c.tk ha hdb he hpl
theorem bi {x : Str} {p pos : Pos} {e : Expr} {es : List Expr} {F : List PV → VH → Option PV} {m : AM} {id : String} (hr : CallR X (.builtin id) (rOA T X.K F)) (hv : bootBuiltins x = some (.builtin id)) (hm : X.mg x = none) (ha : PA X (e :: es) (rdA T X.K W m)) (hg : Gl X x := by rfl) (hn : x ≠ "__name__" := by decide)
    (hdb : (x == ("__debug__" : Str)) = false := by decide) (he : starEach (e :: es) X.env = (false, eval e X.env) :: starEach es X.env := by rfl) (hpl : (backTo pos (starEach es X.env)).any (·.1) = false := by rfl) : PE X (.Call (.Name x p) (e :: es) [] pos) (rdE T X.K W (mBi F m)) :=
  imE (pe_callB hr hg hm hv ha hn hdb he hpl) fun _ _ _ h => rd_bi h
end
end Y

set_option maxHeartbeats 1000000
namespace Y
open PySem PySem.Spec PyProof.Rows L2
section
variable {X : Cx} {T : Tab} {W : WX} {L : Nat}
/-- T(..), T a built-in type -/
theorem ty {x : Str} {p pos : Pos} {e : Expr} {es : List Expr} {F : List PV → VH → Option PV} {m : AM} {id : String} (hr : CallR X (.type id) (rOA T X.K F)) (hv : bootBuiltins x = some (.type id)) (hm : X.mg x = none) (ha : PA X (e :: es) (rdA T X.K W m)) (hg : Gl X x := by rfl) (hn : x ≠ "__name__" := by decide)
    (hdb : (x == ("__debug__" : Str)) = false := by decide) (he : starEach (e :: es) X.env = (false, eval e X.env) :: starEach es X.env := by rfl) (hpl : (backTo pos (starEach es X.env)).any (·.1) = false := by rfl) : PE X (.Call (.Name x p) (e :: es) [] pos) (rdE T X.K W (mBi F m)) :=
  imE (pe_callTy hr hg hm hv ha hn hdb he hpl) fun _ _ _ h => rd_bi h
theorem tyL {x : Str} {p pos : Pos} {e : Expr} {es : List Expr} {F : List PV → VH → Option (List PV)} {m : AM} {id : String} (hr : CallR X (.type id) (rOL T X.K F)) (hv : bootBuiltins x = some (.type id)) (hm : X.mg x = none) (ha : PA X (e :: es) (rdA T X.K W m)) (hg : Gl X x := by rfl) (hn : x ≠ "__name__" := by decide)
    (hdb : (x == ("__debug__" : Str)) = false := by decide) (he : starEach (e :: es) X.env = (false, eval e X.env) :: starEach es X.env := by rfl) (hpl : (backTo pos (starEach es X.env)).any (·.1) = false := by rfl) : PE X (.Call (.Name x p) (e :: es) [] pos) (rdL T X.K W (mBiL F m)) :=
  imE (pe_callTy hr hg hm hv ha hn hdb he hpl) fun _ _ _ h => rd_bil h
section
variable {p pos : Pos} {e : Expr} {es : List Expr} {m : AM}
theorem biLen (hm : X.mg "len" = none) (ha : PA X (e :: es) (rdA T X.K W m)) (hg : Gl X "len" := by rfl) (he : starEach (e :: es) X.env = (false, eval e X.env) :: starEach es X.env := by rfl) (hpl : (backTo pos (starEach es X.env)).any (·.1) = false := by rfl) : PE X (.Call (.Name "len" p) (e :: es) [] pos) (rdE T X.K W (mBi bLen m)) :=
  bi b_len PySem.boot_len hm ha hg (by decide) (by decide) he hpl
theorem biOrd (hm : X.mg "ord" = none) (ha : PA X (e :: es) (rdA T X.K W m)) (hg : Gl X "ord" := by rfl) (he : starEach (e :: es) X.env = (false, eval e X.env) :: starEach es X.env := by rfl) (hpl : (backTo pos (starEach es X.env)).any (·.1) = false := by rfl) : PE X (.Call (.Name "ord" p) (e :: es) [] pos) (rdE T X.K W (mBi bOrd m)) :=
  bi b_ord (by decide +kernel) hm ha hg (by decide) (by decide) he hpl
theorem biAbs (hm : X.mg "abs" = none) (ha : PA X (e :: es) (rdA T X.K W m)) (hg : Gl X "abs" := by rfl) (he : starEach (e :: es) X.env = (false, eval e X.env) :: starEach es X.env := by rfl) (hpl : (backTo pos (starEach es X.env)).any (·.1) = false := by rfl) : PE X (.Call (.Name "abs" p) (e :: es) [] pos) (rdE T X.K W (mBi bAbs m)) :=
  bi b_abs (by decide +kernel) hm ha hg (by decide) (by decide) he hpl
theorem biSum (c : Ctx X T W L) (hm : X.mg "sum" = none) (ha : PA X (e :: es) (rdA T X.K W m)) (hg : Gl X "sum" := by rfl) (he : starEach (e :: es) X.env = (false, eval e X.env) :: starEach es X.env := by rfl) (hpl : (backTo pos (starEach es X.env)).any (·.1) = false := by rfl) : PE X (.Call (.Name "sum" p) (e :: es) [] pos) (rdE T X.K W (mBi bSum m)) :=
  bi (b_sum c.hc) (by decide +kernel) hm ha hg (by decide) (by decide) he hpl
theorem biAny (c : Ctx X T W L) (hm : X.mg "any" = none) (ha : PA X (e :: es) (rdA T X.K W m)) (hg : Gl X "any" := by rfl) (he : starEach (e :: es) X.env = (false, eval e X.env) :: starEach es X.env := by rfl) (hpl : (backTo pos (starEach es X.env)).any (·.1) = false := by rfl) : PE X (.Call (.Name "any" p) (e :: es) [] pos) (rdE T X.K W (mBi bAny m)) :=
  bi (b_any c.hc) (by decide +kernel) hm ha hg (by decide) (by decide) he hpl
theorem biAll (c : Ctx X T W L) (hm : X.mg "all" = none) (ha : PA X (e :: es) (rdA T X.K W m)) (hg : Gl X "all" := by rfl) (he : starEach (e :: es) X.env = (false, eval e X.env) :: starEach es X.env := by rfl) (hpl : (backTo pos (starEach es X.env)).any (·.1) = false := by rfl) : PE X (.Call (.Name "all" p) (e :: es) [] pos) (rdE T X.K W (mBi bAll m)) :=
  bi (b_all c.hc) (by decide +kernel) hm ha hg (by decide) (by decide) he hpl
theorem biInt (hm : X.mg "int" = none) (ha : PA X (e :: es) (rdA T X.K W m)) (hg : Gl X "int" := by rfl) (he : starEach (e :: es) X.env = (false, eval e X.env) :: starEach es X.env := by rfl) (hpl : (backTo pos (starEach es X.env)).any (·.1) = false := by rfl) : PE X (.Call (.Name "int" p) (e :: es) [] pos) (rdE T X.K W (mBi bInt m)) :=
  ty b_int (by decide +kernel) hm ha hg (by decide) (by decide) he hpl
theorem biStr (hm : X.mg "str" = none) (ha : PA X (e :: es) (rdA T X.K W m)) (hg : Gl X "str" := by rfl) (he : starEach (e :: es) X.env = (false, eval e X.env) :: starEach es X.env := by rfl) (hpl : (backTo pos (starEach es X.env)).any (·.1) = false := by rfl) : PE X (.Call (.Name "str" p) (e :: es) [] pos) (rdE T X.K W (mBi bStr m)) :=
  ty b_str (by decide +kernel) hm ha hg (by decide) (by decide) he hpl
theorem biTuple (hm : X.mg "tuple" = none) (ha : PA X (e :: es) (rdA T X.K W m)) (hg : Gl X "tuple" := by rfl) (he : starEach (e :: es) X.env = (false, eval e X.env) :: starEach es X.env := by rfl) (hpl : (backTo pos (starEach es X.env)).any (·.1) = false := by rfl) : PE X (.Call (.Name "tuple" p) (e :: es) [] pos) (rdE T X.K W (mBi bTuple m)) :=
  ty b_tuple (by decide +kernel) hm ha hg (by decide) (by decide) he hpl
theorem biListF (hm : X.mg "list" = none) (ha : PA X (e :: es) (rdA T X.K W m)) (hg : Gl X "list" := by rfl) (he : starEach (e :: es) X.env = (false, eval e X.env) :: starEach es X.env := by rfl) (hpl : (backTo pos (starEach es X.env)).any (·.1) = false := by rfl) : PE X (.Call (.Name "list" p) (e :: es) [] pos) (rdE T X.K W (mFz (mBiL bList m))) :=
  e_fz (tyL b_list (by decide +kernel) hm ha hg (by decide) (by decide) he hpl)
theorem biListR (hm : X.mg "list" = none) (ha : PA X (e :: es) (rdA T X.K W m)) (hg : Gl X "list" := by rfl) (he : starEach (e :: es) X.env = (false, eval e X.env) :: starEach es X.env := by rfl) (hpl : (backTo pos (starEach es X.env)).any (·.1) = false := by rfl) : PE X (.Call (.Name "list" p) (e :: es) [] pos) (rdE T X.K W (mReg (mBiL bList m))) :=
  e_reg (tyL b_list (by decide +kernel) hm ha hg (by decide) (by decide) he hpl)
end
theorem isiS {p p2 pos : Pos} {e : Expr} {m : EM} (hm : X.mg "isinstance" = none) (hmt : X.mg "str" = none) (he : PE X e (rdE T X.K W m)) (hg : Gl X "isinstance" := by rfl) (hgt : Gl X "str" := by rfl)
    (hs : starEach [e, .Name "str" p2] X.env = (false, eval e X.env) :: starEach [.Name "str" p2] X.env := by rfl) : PE X (.Call (.Name "isinstance" p) [e, .Name "str" p2] [] pos) (rdE T X.K W (mIsi "str" m)) :=
  e_isi (t := "str") hg hm hgt hmt (by decide +kernel) (by decide) (by decide) he hs
theorem isiT {p p2 pos : Pos} {e : Expr} {m : EM} (hm : X.mg "isinstance" = none) (hmt : X.mg "tuple" = none) (he : PE X e (rdE T X.K W m)) (hg : Gl X "isinstance" := by rfl) (hgt : Gl X "tuple" := by rfl)
    (hs : starEach [e, .Name "tuple" p2] X.env = (false, eval e X.env) :: starEach [.Name "tuple" p2] X.env := by rfl) : PE X (.Call (.Name "isinstance" p) [e, .Name "tuple" p2] [] pos) (rdE T X.K W (mIsi "tuple" m)) :=
  e_isi (t := "tuple") hg hm hgt hmt (by decide +kernel) (by decide) (by decide) he hs
/-! #### methods of built-ins -/
theorem bok_append : BOk X T "append" bAppend "list" := ⟨by decide, _, PySem.F.plainAttrs_list, PySem.F.slot_list_append, PySem.F.type_list_append, m_append⟩
theorem bok_popL : BOk X T "pop" bPop "list" := ⟨by decide, _, PySem.F.plainAttrs_list, PySem.F.slot_list_pop, PySem.F.type_list_pop, m_popL⟩
theorem bok_popD (c : Ctx X T W L) : BOk X T "pop" bPop "dict" := ⟨by decide, _, PySem.F.plainAttrs_dict, PySem.F.slot_dict_pop, PySem.F.type_dict_pop, m_popD⟩
theorem bok_get (c : Ctx X T W L) : BOk X T "get" bGet "dict" := ⟨by decide, _, PySem.F.plainAttrs_dict, PySem.F.slot_dict_get, PySem.F.type_dict_get, m_get (by have := c.hu; omega)⟩
theorem bok_setdefault : BOk X T "setdefault" bSetdefault "dict" := ⟨by decide, _, PySem.F.plainAttrs_dict, PySem.F.slot_dict_setdefault, PySem.F.type_dict_setdefault, m_setdefault⟩
theorem bok_join : BOk X T "join" bJoin "str" := ⟨by decide, _, PySem.F.plainAttrs_str, PySem.F.slot_str_join, PySem.F.type_str_join, m_join⟩
abbrev noC : Nat → Option Fn := fun _ => none
/-- o.m(..), m a built-in's alone -/
theorem bm1 (c : Ctx X T W L) {m : Str} {B : Bm} {ks : List String} {o : Expr} {apos pos : Pos} {e : Expr} {es : List Expr} {mo : EM} {ma : AM} (hB : ∀ k ∈ ks, BOk X T m B k) (ho : PE X o (rdE T X.K W mo)) (ha : PA X (e :: es) (rdA T X.K W ma)) (pl : Sem Bool)
    (ht : eval (.Call (.Attribute o m apos) (e :: es) [] pos) X.env = (do
      let ov ← eval o X.env
      standAt apos.atName
      let (f, first) ← holding [ov] (getMethod ov m pl)
      callWith pos f first (backTo pos (starEach (e :: es) X.env)) (backToKw pos (keywordEach [] X.env))) := by rfl)
    (hst : starEach (e :: es) X.env = (false, eval e X.env) :: starEach es X.env := by rfl) (hpl : (backTo pos (starEach es X.env)).any (·.1) = false := by rfl)
    (hbase : attributeBase o m X.env (eval o X.env) = eval o X.env := by rfl)
    (hfew : ((backTo pos (starEach (e :: es) X.env)).all (fun x => !x.1) && (backToKw pos (keywordEach [] X.env)).all (fun x => x.1.isSome)
      && decide ((e :: es).length + ([] : List Keyword).length + (if ([] : List Keyword).isEmpty then 0 else 1) < 30)) = true := by rfl)
    (hline : (apos.endLine == pos.line) = true := by rfl) : PE X (.Call (.Attribute o m apos) (e :: es) [] pos) (rdE T X.K W (mMeth noC ks B mo ma)) :=
  e_meth (L := L) (fun _ _ z => nomatch z) c.room c.tok c.tk hB ho ha hst hpl ht hbase hfew hline
/-! #### what is walked, comprehensions -/
theorem it {tg e : Expr} {m : EM} (h : PE X e (rdE T X.K W m)) : PI X tg e (rdI T X.K W (mIter m)) := i_iter h
theorem len1 {m : EM} {sl : Sl} {h h' : VH} {vs : List PV} (e : mCons m mNil sl h = .ok vs h') : vs.length = 1 := by
  unfold mCons at e
  cases e1 : m sl h with
  | ok a h1 => rw [e1] at e; cases e; rfl
  | exc _ _ _ => rw [e1] at e; cases e
  | bad => rw [e1] at e; cases e
theorem len2 {m n : EM} {sl : Sl} {h h' : VH} {vs : List PV} (e : mCons m (mCons n mNil) sl h = .ok vs h') : vs.length = 2 := by
  unfold mCons at e
  cases e1 : m sl h with
  | ok a h1 =>
    rw [e1] at e
    cases e2 : n sl h1 with
    | ok b h2 =>
      have e : ((n sl h1).bnd fun x h1 => (mNil sl h1).bnd fun xs h2 => Y.R.ok (x :: xs) h2).bnd (fun xs h2 => Y.R.ok (a :: xs) h2) = Y.R.ok vs h' := e
      rw [e2] at e
      cases e
      rfl
    | exc _ _ _ =>
      have e : ((n sl h1).bnd fun x h1 => (mNil sl h1).bnd fun xs h2 => Y.R.ok (x :: xs) h2).bnd (fun xs h2 => Y.R.ok (a :: xs) h2) = Y.R.ok vs h' := e
      rw [e2] at e; cases e
    | bad =>
      have e : ((n sl h1).bnd fun x h1 => (mNil sl h1).bnd fun xs h2 => Y.R.ok (x :: xs) h2).bnd (fun xs h2 => Y.R.ok (a :: xs) h2) = Y.R.ok vs h' := e
      rw [e2] at e; cases e
  | exc _ _ _ => rw [e1] at e; cases e
  | bad => rw [e1] at e; cases e
theorem rng1 {tg a : Expr} {p pos : Pos} {m : EM} (hm : X.mg "range" = none) (ha : PE X a (rdE T X.K W m)) (hg : Gl X "range" := by rfl) (hs : starEach [a] X.env = [(false, eval a X.env)] := by rfl) : PI X tg (.Call (.Name "range" p) [a] [] pos) (rdI T X.K W (mRange (mCons m mNil))) :=
  i_range1 hg hm (ac ha an hs) hs fun _ _ _ _ e => len1 e
theorem rng2 {tg a b : Expr} {p pos : Pos} {m n : EM} (hm : X.mg "range" = none) (ha : PE X a (rdE T X.K W m)) (hb : PE X b (rdE T X.K W n)) (hg : Gl X "range" := by rfl) (hs : starEach [a, b] X.env = [(false, eval a X.env), (false, eval b X.env)] := by rfl)
    (hs2 : starEach [b] X.env = [(false, eval b X.env)] := by rfl) : PI X tg (.Call (.Name "range" p) [a, b] [] pos) (rdI T X.K W (mRange (mCons m (mCons n mNil)))) :=
  i_range2 hg hm (ac ha (ac hb an hs2) (hs.trans (by rw [hs2]))) hs hs2 fun _ _ _ _ e => len2 e
theorem yes : PTs X [] (rdT T X.K W mYes) := ⟨fun pins s σ H Q I h => pts_nil.run pins s σ H Q I (by
  obtain ⟨ρ, ex, sl, hp, rs, rh, q⟩ := h
  exact q ρ H (Kp.refl _ _) rh)⟩
theorem lc (c : Ctx X T W L) {elt tg iter : Expr} {ifs : List Expr} {scope : Scope} {own : List (Str × Nat)} {pos : Pos} {i : IM} {g : GM} {t : TM} {m : EM} (hi : PI X tg iter (rdI T X.K W i)) (ok : blkC X.N X.env.scope scope own = true)
    (hg : ∀ (s : Shared) (H : Hp) (C : Addr) (cl : List (Str × Addr)) (fp : List Addr), PG (X.blk s H scope (compEnvC scope cl C X.env) fp) tg (rdG T X.K (own.map (·.2)) g))
    (ht : ∀ (s : Shared) (H : Hp) (C : Addr) (cl : List (Str × Addr)) (fp : List Addr), PTs (X.blk s H scope (compEnvC scope cl C X.env) fp) ifs (rdT T X.K W0 t))
    (he : ∀ (s : Shared) (H : Hp) (C : Addr) (cl : List (Str × Addr)) (fp : List Addr), PE (X.blk s H scope (compEnvC scope cl C X.env) fp) elt (rdE T X.K W0 m)) (hs : ∀ x, foldedSetIterable iter X.env x = pure x := by intro _; rfl) :
    PE X (.ListComp elt [⟨tg, iter, ifs, 0⟩] scope pos) (rdL T X.K W (mLc i g t m (own.map (·.2)))) :=
  imE (pe_lc c.hc c.hN hi (blkOk_by ok) hg ht he hs) fun _ _ _ h => rd_lc h
theorem rd_regL {m : AM} {σ : L2.St} {H : Hp} {Q : VK} (h : rdE T X.K W (mReg m) σ H Q) : rdL T X.K W m σ H Q := by
  obtain ⟨ρ, ex, sl, hp, rs, rh, q⟩ := h
  refine ⟨ρ, ex, sl, hp, rs, rh, q.bnd.imp fun us h1 ρ1 H1 k1 rh1 q1 p xs H2 hp e hl rxs => ?_⟩
  subst e
  have k : Kp ρ1 H1 (ρ1 ++ [some p]) (upd H1 p (.lst xs)) := Kp.reg hp
  have e1 : (ρ1 ++ [some p])[h1.length]? = some (some p) := by
    rw [← rh1.len, List.getElem?_append_right (Nat.le_refl _), Nat.sub_self]; rfl
  exact q1 _ _ k (rh1.reg hp ⟨p, xs, rfl, upd_same, Rvs.mono k noex _ _ rxs⟩) _ (.ref e1)
theorem rd_fzL {m : AM} {σ : L2.St} {H : Hp} {Q : VK} (h : rdE T X.K W (mFz m) σ H Q) : rdL T X.K W m σ H Q := by
  obtain ⟨ρ, ex, sl, hp, rs, rh, q⟩ := h
  refine ⟨ρ, ex, sl, hp, rs, rh, q.bnd.imp fun us h1 ρ1 H1 k1 rh1 q1 p xs H2 hp e hl rxs => ?_⟩
  subst e
  have k : Kp ρ1 H1 ρ1 (upd H1 p (.lst xs)) := Kp.laid hp
  exact q1 ρ1 _ k (rh1.laid hp) _ (.lst upd_same (rh1.fresh hp) (Rvs.mono k noex _ _ rxs))
/-! #### tests -/
theorem tr {e : Expr} {m : EM} (h : PE X e (rdE T X.K W m)) (he : ∀ whole, isTrue e X.env whole = (do let v ← whole; standAt e.pos; holding [v] (truthy v)) := by intro _; rfl) : PT X e (rdT T X.K W (mTruth m)) := t_truth h he
theorem nt {a : Expr} {m : TM} {pos : Pos} (h : PT X a (rdT T X.K W m)) : PT X (.UnaryOp .Not a pos) (rdT T X.K W (mNot m)) := t_not h
theorem ta1 {a : Expr} {t : TM} {pos : Pos} (h : PT X a (rdT T X.K W t)) : PW X (.BoolOp .And [a] pos) (rdT T X.K W t) := pw_and1 h
theorem to1 {a : Expr} {t : TM} {pos : Pos} (h : PT X a (rdT T X.K W t)) : PW X (.BoolOp .Or [a] pos) (rdT T X.K W t) := pw_or1 h
theorem ta {a b : Expr} {rest : List Expr} {t u : TM} {pos : Pos} (ha : PT X a (rdT T X.K W t)) (hb : PW X (.BoolOp .And (b :: rest) pos) (rdT T X.K W u)) : PW X (.BoolOp .And (a :: b :: rest) pos) (rdT T X.K W (mAnd t u)) := imW (pw_and ha hb) fun _ _ _ h => rd_and h
theorem to {a b : Expr} {rest : List Expr} {t u : TM} {pos : Pos} (ha : PT X a (rdT T X.K W t)) (hb : PW X (.BoolOp .Or (b :: rest) pos) (rdT T X.K W u)) : PW X (.BoolOp .Or (a :: b :: rest) pos) (rdT T X.K W (mOr t u)) := imW (pw_or ha hb) fun _ _ _ h => rd_or h
theorem ife {c a b : Expr} {mc : TM} {ma mb : EM} {pos : Pos} (hc : PT X c (rdT T X.K W mc)) (ha : PE X a (rdE T X.K W ma)) (hb : PE X b (rdE T X.K W mb)) : PE X (.IfExp c a b pos) (rdE T X.K W (mIf mc ma mb)) := e_if hc ha hb
theorem if1 {c : Expr} {t : TM} (h : PT X c (rdT T X.K W t)) : PTs X [c] (rdT T X.K W t) := pts_one h
/-! #### targets -/
abbrev allS : List Nat := List.range 64
theorem gn (c : Ctx X T W L) (i : Nat) {x : Str} {pos : Pos} {own : List Nat} (hi : X.N[i]? = some x := by rfl) (hx : Loc X.env.scope x := by first | exact Or.inl rfl | exact Or.inr rfl)
    (hf : X.fn x = true ∨ X.env.scope.names.lookup x = some .local := by first | exact .inl rfl | exact .inr rfl) (ho : i ∈ own := by decide) : PG X (.Name x pos) (rdG T X.K own (tName i)) := g_name c.hN hi hx hf ho
theorem gnil {own : List Nat} : PGs X [] (rdGs T X.K own tNil) := gs_nil
theorem gcons {own : List Nat} {e : Expr} {es : List Expr} {g : GM} {gs : GMs} (h1 : PG X e (rdG T X.K own g)) (h2 : PGs X es (rdGs T X.K own gs)) (hs : (assignEach (e :: es) X.env).map (·.2) = assign e X.env :: (assignEach es X.env).map (·.2) := by rfl) : PGs X (e :: es) (rdGs T X.K own (tCons g gs)) := gs_cons h1 h2 hs
theorem gtup (c : Ctx X T W L) {own : List Nat} {es : List Expr} {k : Nat} {pos : Pos} {gs : GMs} (h : PGs X es (rdGs T X.K own gs)) (hst : (assignEach es X.env).findIdx? (·.1) = none := by rfl)
    (hlen : ∀ vs sl h' r, gs vs sl h' = some r → vs.length = (assignEach es X.env).length) : PG X (.Tuple es k pos) (rdG T X.K own (tTup gs)) := g_tup c.hc h hst hlen
theorem tcons_len {g : GM} {gs : GMs} {n : Nat} (h : ∀ vs sl h' r, gs vs sl h' = some r → vs.length = n) : ∀ vs sl h' r, tCons g gs vs sl h' = some r → vs.length = n + 1 := by
  intro vs sl h' r e
  unfold tCons at e
  split at e
  · split at e
    · rw [List.length_cons, h _ _ _ _ e]
    · cases e
  · cases e
theorem tnil_len : ∀ vs sl h' r, tNil vs sl h' = some r → vs.length = 0 := by
  intro vs sl h' r e
  unfold tNil at e
  split at e
  · rfl
  · cases e
theorem gsub (c : Ctx X T W L) {own : List Nat} {o i : Expr} {pos : Pos} {mo mi : EM} (ho : PE X o (rdE T X.K W mo)) (hi : PE X i (rdE T X.K W mi))
    (ha : ∀ v, assign (.Subscript o i pos) X.env v = (do
      let ov ← holding [v] (eval o X.env)
      let iv ← holding [v, ov] (eval i X.env)
      standAt pos
      holding [v, ov, iv] (setItem ov iv v)
      release [v, ov, iv] []) := by intro _; rfl) : PG X (.Subscript o i pos) (rdG T X.K own (tSub mo mi)) := g_sub (Nat.lt_of_le_of_lt (Nat.add_le_add_left (by decide) _) c.hu) ho hi ha
end
end Y

set_option maxHeartbeats 1000000
namespace Y
open PySem PySem.Spec PyProof.Rows L2
section
variable (T : Tab) (K : PySem.W.Frag) (W : WX) (ρ : Pl) (ex : List Addr) (H : Hp) (D : Ends)
/-- what a statement's end is worth -/
def FinS (r : RS) : Prop := match r with
  | .nx sl h => ∀ ρ' H' σ', Kp ρ H ρ' H' → Rh T K ρ' ex H' h → Rst K ρ' ex H' sl σ' → D.nx σ' H'
  | .ret v h => ∀ ρ' H' x, Kp ρ H ρ' H' → Rh T K ρ' ex H' h → Rv K ρ' ex H' v x → D.rt x H'
  | .brk sl h => ∀ ρ' H' σ', Kp ρ H ρ' H' → Rh T K ρ' ex H' h → Rst K ρ' ex H' sl σ' → D.bk σ' H'
  | .cnt sl h => ∀ ρ' H' σ', Kp ρ H ρ' H' → Rh T K ρ' ex H' h → Rst K ρ' ex H' sl σ' → D.ct σ' H'
  | .exc c fs sl h => ∀ ρ' H' σ' cls d, Kp ρ H ρ' H' → Rh T K ρ' ex H' h → Rst K ρ' ex H' sl σ' → Rx T K ρ' ex H' c fs cls d → W cls d σ' H'
  | .bad => False
end
def rdS (T : Tab) (K : PySem.W.Frag) (W : WX) (m : SM) : TS := fun D σ H => ∃ ρ ex sl h, Rst K ρ ex H sl σ ∧ Rh T K ρ ex H h ∧ FinS T K W ρ ex H D (m sl h)
section
variable {T : Tab} {K : PySem.W.Frag} {W : WX} {ρ ρ1 : Pl} {ex : List Addr} {H H1 : Hp} {D D' : Ends} {σ : L2.St} {sl : Sl} {h : VH}
theorem FinS.later {r : RS} (f : FinS T K W ρ ex H D r) (k : Kp ρ H ρ1 H1) : FinS T K W ρ1 ex H1 D r := by
  cases r with
  | nx sl h => exact fun ρ' H' σ' kp rh rs => f ρ' H' σ' (k.trans kp) rh rs
  | ret v h => exact fun ρ' H' σ' kp rh rs => f ρ' H' σ' (k.trans kp) rh rs
  | brk sl h => exact fun ρ' H' σ' kp rh rs => f ρ' H' σ' (k.trans kp) rh rs
  | cnt sl h => exact fun ρ' H' σ' kp rh rs => f ρ' H' σ' (k.trans kp) rh rs
  | exc c fs sl h => exact fun ρ' H' σ' cls d kp rh rs rx => f ρ' H' σ' cls d (k.trans kp) rh rs rx
  | bad => exact f
theorem FinS.thn {α : Type} {r : R α} {f : α → VH → RS} (rs : Rst K ρ ex H sl σ) (q : FinS T K W ρ ex H D (r.thn sl f)) : Fin T K W ρ ex σ H r fun a h1 ρ1 H1 => FinS T K W ρ1 ex H1 D (f a h1) := by
  cases r with
  | ok a h1 => exact fun ρ' H' kp rh => FinS.later q kp
  | exc c fs h1 => exact fun ρ' H' cls d kp rh rx => q ρ' H' σ cls d kp rh (rs.mono kp noex) rx
  | bad => exact q
/-- an end with other wishes -/
theorem FinS.other {W' : WX} {r : RS} (q : FinS T K W ρ ex H D r) (hn : ∀ sl h, r = .nx sl h → ∀ ρ' H' σ', Kp ρ H ρ' H' → Rh T K ρ' ex H' h → Rst K ρ' ex H' sl σ' → D.nx σ' H' → D'.nx σ' H') (hr : ∀ v H', D.rt v H' → D'.rt v H')
    (hb : ∀ σ' H', D.bk σ' H' → D'.bk σ' H') (hc : ∀ σ' H', D.ct σ' H' → D'.ct σ' H') (he : ∀ cls d σ' H', W cls d σ' H' → W' cls d σ' H') : FinS T K W' ρ ex H D' r := by
  cases r with
  | nx sl h => exact fun ρ' H' σ' kp rh rs => hn _ _ rfl _ _ _ kp rh rs (q ρ' H' σ' kp rh rs)
  | ret v h => exact fun ρ' H' σ' kp rh rs => hr _ _ (q ρ' H' σ' kp rh rs)
  | brk sl h => exact fun ρ' H' σ' kp rh rs => hb _ _ (q ρ' H' σ' kp rh rs)
  | cnt sl h => exact fun ρ' H' σ' kp rh rs => hc _ _ (q ρ' H' σ' kp rh rs)
  | exc c fs sl h => exact fun ρ' H' σ' cls d kp rh rs rx => he _ _ _ _ (q ρ' H' σ' cls d kp rh rs rx)
  | bad => exact q
end
section
variable {X : Cx} {T : Tab} {K : PySem.W.Frag} {W : WX} {L : Nat}
theorem imS {st : Stmt} {t t' : TS} (h : PS X st t) (f : ∀ D σ H, t' D σ H → t D σ H) : PS X st t' := ⟨fun pins s σ H D I q => h.run pins s σ H D I (f D σ H q)⟩
theorem imSs {st : List Stmt} {t t' : TS} (h : PSs X st t) (f : ∀ D σ H, t' D σ H → t D σ H) : PSs X st t' := ⟨fun pins s σ H D I q => h.run pins s σ H D I (f D σ H q)⟩
theorem nil : PSs X [] (rdS T X.K W sSkip) := imSs pss_nil fun D σ H h => by
  obtain ⟨ρ, ex, sl, hp, rs, rh, q⟩ := h
  exact q ρ H σ (Kp.refl _ _) rh rs
theorem cons {st : Stmt} {rest : List Stmt} {a b : SM} (h1 : PS X st (rdS T X.K W a)) (h2 : PSs X rest (rdS T X.K W b)) : PSs X (st :: rest) (rdS T X.K W (sSeq a b)) := imSs (pss_cons h1 h2) fun D σ H h => by
  obtain ⟨ρ, ex, sl, hp, rs, rh, q⟩ := h
  refine ⟨ρ, ex, sl, hp, rs, rh, ?_⟩
  unfold sSeq at q
  cases e : a sl hp with
  | nx sl' h' =>
    rw [e] at q
    exact fun ρ' H' σ' kp rh' rs' => ⟨ρ', ex, sl', h', rs', rh', FinS.later q kp⟩
  | ret v h' => rw [e] at q; exact q
  | brk sl' h' => rw [e] at q; exact q
  | cnt sl' h' => rw [e] at q; exact q
  | exc c fs sl' h' => rw [e] at q; exact q
  | bad => rw [e] at q; exact q
theorem one {st : Stmt} {a : SM} (h1 : PS X st (rdS T X.K W a)) : PSs X [st] (rdS T X.K W a) := imSs (pss_one h1) fun _ _ _ h => h
theorem rd_asg {m : EM} {t : GM} {own : List Nat} {D : Ends} {σ : L2.St} {H : Hp} (h : rdS T K W (sAsg m t) D σ H) : tAsg (rdE T K W m) (rdG T K own t) D σ H := by
  obtain ⟨ρ, ex, sl, hp, rs, rh, q⟩ := h
  refine ⟨ρ, ex, sl, hp, rs, rh, (q.thn rs).imp fun v h1 ρ1 H1 k1 rh1 q1 x rx => ?_⟩
  cases e : t v sl h1 with
  | none => simp only [e] at q1; exact q1.elim
  | some p =>
    obtain ⟨sl', h'⟩ := p
    simp only [e] at q1
    exact ⟨ρ1, ex, sl, h1, v, sl', h', rs.mono k1 noex, rh1, rx, e, fun ρ' H' σ' kp rh' rs' _ => q1 ρ' H' σ' kp rh' rs'⟩
theorem rd_name {i : Nat} {x : V} {σ : L2.St} {H : Hp} {Q : L2.St → Hp → Prop} (h : rdG T K [i] (tName i) x σ H Q) : gName i x σ H Q := by
  obtain ⟨ρ, ex, sl, hp, v, sl', h', rs, rh, rv, e, q⟩ := h
  cases e
  exact q ρ H _ (Kp.refl _ _) rh (rs.set i rv) (.set (List.mem_singleton_self i))
theorem rd_set {i : Nat} {m : EM} {D : Ends} {σ : L2.St} {H : Hp} (h : rdS T K W (sAsg m (tName i)) D σ H) : tAsg (rdE T K W m) (gName i) D σ H := by
  have q := rd_asg (own := [i]) h
  obtain ⟨ρ, ex, sl, hp, rs, rh, q⟩ := q
  exact ⟨ρ, ex, sl, hp, rs, rh, q.imp fun v h1 ρ1 H1 k1 rh1 q1 x rx => rd_name (q1 x rx)⟩
/-- name = e -/
theorem sset (c : Ctx X T W L) (i : Nat) {x : Str} {e : Expr} {m : EM} {pos pos' : Pos} (he : PE X e (rdE T X.K W m)) (hi : X.N[i]? = some x := by rfl) (hx : Loc X.env.scope x := by first | exact Or.inl rfl | exact Or.inr rfl) (hs : swapsWith e (some (.Name x pos')) pos.line X.env = pure false := by rfl)
    (hf : X.fn x = true ∨ X.env.scope.names.lookup x = some .local := by first | exact .inl rfl | exact .inr rfl) : PS X (.Assign [.Name x pos'] e pos) (rdS T X.K W (sAsg m (tName i))) := imS (ps_set c.hN hi hx he hs hf) fun _ _ _ h => rd_set h
theorem asg {tg e : Expr} {m : EM} {g : GM} {pos : Pos} (he : PE X e (rdE T X.K W m)) (hg : PG X tg (rdG T X.K allS g)) (hs : swapsWithSole [tg] e pos.line X.env = pure false := by rfl) (hw : swappedStores [tg] e X.env = pure none := by rfl)
    (h1 : (assignEach [tg] X.env).map (·.2) = [assign tg X.env] := by rfl) : PS X (.Assign [tg] e pos) (rdS T X.K W (sAsg m g)) := imS (ps_asg he hg hs hw h1) fun _ _ _ h => rd_asg h
def sPar2 (i j : Nat) (m : AM) : SM := fun σ h => (m σ h).thn σ fun vs h1 => match vs with
  | [a, b] => .nx ((σ.set i (some a)).set j (some b)) h1
  | _ => .bad
def sPar3 (i j l : Nat) (m : AM) : SM := fun σ h => (m σ h).thn σ fun vs h1 => match vs with
  | [a, b, d] => .nx (((σ.set i (some a)).set j (some b)).set l (some d)) h1
  | _ => .bad
theorem par2 (c : Ctx X T W L) (i j : Nat) {x y : Str} {a b : Expr} {m : AM} {px py pt pt2 pos : Pos} {kt k2} (ha : PA X [a, b] (rdA T X.K W m)) (hi : X.N[i]? = some x := by rfl) (hj : X.N[j]? = some y := by rfl) (hij : i ≠ j := by decide)
    (hx : X.env.scope.names.lookup x = some .local := by rfl) (hy : X.env.scope.names.lookup y = some .local := by rfl) (hw : swappedStores [.Tuple [.Name x px, .Name y py] kt pt] (.Tuple [a, b] k2 pt2) X.env = pure (some [x, y]) := by rfl)
    (hs : swapsWithSole [.Tuple [.Name x px, .Name y py] kt pt] (.Tuple [a, b] k2 pt2) pos.line X.env = pure false := by rfl) : PS X (.Assign [.Tuple [.Name x px, .Name y py] kt pt] (.Tuple [a, b] k2 pt2) pos) (rdS T X.K W (sPar2 i j m)) :=
  imS (ps_par c.hc c.hN hi hj hij hx hy ha hw hs) fun D σ H h => by
    obtain ⟨ρ, ex, sl, hp, rs, rh, q⟩ := h
    refine ⟨ρ, ex, sl, hp, rs, rh, (q.thn rs).imp fun vs h1 ρ1 H1 k1 rh1 q1 xs rx => ?_⟩
    split at q1
    · cases rx with
      | cons r1 rx => cases rx with
        | cons r2 rx =>
          cases rx
          exact ⟨_, _, rfl, q1 ρ1 H1 _ (Kp.refl _ _) rh1 (((rs.mono k1 noex).set i r1).set j r2)⟩
    · exact q1.elim
theorem par3 (c : Ctx X T W L) (i j l : Nat) {x y z : Str} {a b d : Expr} {m : AM} {px py pz pt pt2 pos : Pos} {kt k2} (ha : PA X [a, b, d] (rdA T X.K W m)) (hi : X.N[i]? = some x := by rfl) (hj : X.N[j]? = some y := by rfl) (hl : X.N[l]? = some z := by rfl) (hij : i ≠ j := by decide) (hil : i ≠ l := by decide) (hjl : j ≠ l := by decide)
    (hx : X.env.scope.names.lookup x = some .local := by rfl) (hy : X.env.scope.names.lookup y = some .local := by rfl) (hz : X.env.scope.names.lookup z = some .local := by rfl) (hw : swappedStores [.Tuple [.Name x px, .Name y py, .Name z pz] kt pt] (.Tuple [a, b, d] k2 pt2) X.env = pure (some [x, y, z]) := by rfl)
    (hs : swapsWithSole [.Tuple [.Name x px, .Name y py, .Name z pz] kt pt] (.Tuple [a, b, d] k2 pt2) pos.line X.env = pure false := by rfl) : PS X (.Assign [.Tuple [.Name x px, .Name y py, .Name z pz] kt pt] (.Tuple [a, b, d] k2 pt2) pos) (rdS T X.K W (sPar3 i j l m)) :=
  imS (ps_par3 c.hc c.hN hi hj hl hij hil hjl hx hy hz ha hw hs) fun D σ H h => by
    obtain ⟨ρ, ex, sl, hp, rs, rh, q⟩ := h
    refine ⟨ρ, ex, sl, hp, rs, rh, (q.thn rs).imp fun vs h1 ρ1 H1 k1 rh1 q1 xs rx => ?_⟩
    split at q1
    · cases rx with
      | cons r1 rx => cases rx with
        | cons r2 rx => cases rx with
          | cons r3 rx =>
            cases rx
            exact ⟨_, _, _, rfl, q1 ρ1 H1 _ (Kp.refl _ _) rh1 ((((rs.mono k1 noex).set i r1).set j r2).set l r3)⟩
    · exact q1.elim
/-- name = [.. for ..] on one line -/
theorem ssetLc (c : Ctx X T W L) (k : Nat) {y : Str} {py : Pos} {elt tg iter : Expr} {ifs : List Expr} {scope : Scope} {own : List (Str × Nat)} {pos spos : Pos} {i : IM} {g : GM} {t : TM} {m : EM} (hi : PI X tg iter (rdI T X.K W i)) (ok : blkC X.N X.env.scope scope own = true)
    (hg : ∀ (s : Shared) (H : Hp) (C : Addr) (cl : List (Str × Addr)) (fp : List Addr), PG (X.blk s H scope (compEnvC scope cl C X.env) fp) tg (rdG T X.K (own.map (·.2)) g))
    (ht : ∀ (s : Shared) (H : Hp) (C : Addr) (cl : List (Str × Addr)) (fp : List Addr), PTs (X.blk s H scope (compEnvC scope cl C X.env) fp) ifs (rdT T X.K W0 t))
    (he : ∀ (s : Shared) (H : Hp) (C : Addr) (cl : List (Str × Addr)) (fp : List Addr), PE (X.blk s H scope (compEnvC scope cl C X.env) fp) elt (rdE T X.K W0 m))
    (hy : X.N[k]? = some y := by rfl) (hyl : X.env.scope.names.lookup y = some .local := by rfl) (hsw : swapsWith (.ListComp elt [⟨tg, iter, ifs, 0⟩] scope pos) (some (.Name y py)) spos.line X.env = pure true := by rfl) (hs : ∀ x, foldedSetIterable iter X.env x = pure x := by intro _; rfl) :
    PS X (.Assign [.Name y py] (.ListComp elt [⟨tg, iter, ifs, 0⟩] scope pos) spos) (rdS T X.K W (sAsg (mReg (mLc i g t m (own.map (·.2)))) (tName k))) :=
  imS (ps_setLc c.hc c.hN hy hyl hsw hi (blkOk_by ok) hg ht he hs) fun D σ H h => rd_lc (rd_regL (rd_set h))
theorem ssetLcF (c : Ctx X T W L) (k : Nat) {y : Str} {py : Pos} {elt tg iter : Expr} {ifs : List Expr} {scope : Scope} {own : List (Str × Nat)} {pos spos : Pos} {i : IM} {g : GM} {t : TM} {m : EM} (hi : PI X tg iter (rdI T X.K W i)) (ok : blkC X.N X.env.scope scope own = true)
    (hg : ∀ (s : Shared) (H : Hp) (C : Addr) (cl : List (Str × Addr)) (fp : List Addr), PG (X.blk s H scope (compEnvC scope cl C X.env) fp) tg (rdG T X.K (own.map (·.2)) g))
    (ht : ∀ (s : Shared) (H : Hp) (C : Addr) (cl : List (Str × Addr)) (fp : List Addr), PTs (X.blk s H scope (compEnvC scope cl C X.env) fp) ifs (rdT T X.K W0 t))
    (he : ∀ (s : Shared) (H : Hp) (C : Addr) (cl : List (Str × Addr)) (fp : List Addr), PE (X.blk s H scope (compEnvC scope cl C X.env) fp) elt (rdE T X.K W0 m))
    (hy : X.N[k]? = some y := by rfl) (hyl : X.env.scope.names.lookup y = some .local := by rfl) (hsw : swapsWith (.ListComp elt [⟨tg, iter, ifs, 0⟩] scope pos) (some (.Name y py)) spos.line X.env = pure true := by rfl) (hs : ∀ x, foldedSetIterable iter X.env x = pure x := by intro _; rfl) :
    PS X (.Assign [.Name y py] (.ListComp elt [⟨tg, iter, ifs, 0⟩] scope pos) spos) (rdS T X.K W (sAsg (mFz (mLc i g t m (own.map (·.2)))) (tName k))) :=
  imS (ps_setLc c.hc c.hN hy hyl hsw hi (blkOk_by ok) hg ht he hs) fun D σ H h => rd_lc (rd_fzL (rd_set h))
/-! #### op= -/
def augO (op : Operator) (x y : PV) (_ : VH) : Option PV := match op, x, y with
  | .Add, .int a, .int b => some (.int (a + b))
  | .Sub, .int a, .int b => some (.int (a - b))
  | .FloorDiv, .int a, .int b => if divOk b then some (.int (a / b)) else none
  | .Add, .str a, .str b => if a.length + b.length ≤ line then some (.str (a ++ b)) else none
  | _, _, _ => none
theorem o_aug (op : Operator) : PIp X op (rO2 T X.K (augO op)) := by
  intro pins s σ H x y v u Q I rx ry h
  obtain ⟨ρ, ex, hp, a, b, w, rh, ra, rb, e, q⟩ := h
  have same := fun z (rz : Rv X.K ρ ex H w z) => q ρ H z (Kp.refl _ _) rh rz
  unfold augO at e
  split at e
  · cases ra; cases rb; cases e
    exact ip_add pins s σ H _ _ _ _ Q I rx ry ⟨_, _, rfl, rfl, same _ (.int _)⟩
  · cases ra; cases rb; cases e
    exact ip_sub pins s σ H _ _ _ _ Q I rx ry ⟨_, _, rfl, rfl, same _ (.int _)⟩
  · cases ra; cases rb
    split at e
    · rename_i hc
      cases e
      obtain ⟨t, rfl⟩ := rx
      obtain ⟨t', rfl⟩ := ry
      obtain ⟨h1, h2⟩ := divOk_out hc
      refine ifloordiv_int (by omega) ?_ (.inl (PyProof.noPylong_small (by omega)))
      rw [Int.fdiv_eq_ediv_of_nonneg _ (by omega)]
      exact ⟨.int _, H, I.tok _, ⟨_, rfl⟩, same _ (.int _)⟩
    · cases e
  · cases ra with
    | str r1 =>
      cases rb with
      | str r2 =>
        split at e
        · rename_i hc
          cases e
          exact iop_add_str pins s σ H _ _ _ _ Q I rx ry ⟨_, _, rfl, rfl, by rw [r1.length, r2.length, ← line_eq]; exact hc, same _ (.str (r1.append r2 hc))⟩
        · cases e
  · cases e
theorem saug (c : Ctx X T W L) (i : Nat) (op : Operator) {x : Str} {e : Expr} {m : EM} {pos pos' : Pos} (he : PE X e (rdE T X.K W m)) (hi : X.N[i]? = some x := by rfl) (hx : Loc X.env.scope x := by first | exact Or.inl rfl | exact Or.inr rfl)
    (hf : X.fn x = true ∨ X.env.scope.names.lookup x = some .local := by first | exact .inl rfl | exact .inr rfl) : PS X (.AugAssign (.Name x pos') op e pos) (rdS T X.K W (sAug i (augO op) m)) := imS (ps_aug c.hN hi hx he (o_aug (T := T) op) hf) fun D σ H h => by
  obtain ⟨ρ, ex, sl, hp, rs, rh, q⟩ := h
  unfold sAug at q
  unfold mVar at q
  split at q
  · rename_i v e
    split at q
    · rename_i hn
      obtain ⟨y, e1, r⟩ := rs.at_ i v e hn
      rw [R.thn_ok] at q
      refine ⟨y, e1, ρ, ex, sl, hp, rs, rh, (FinS.thn rs q).imp fun u h1 ρ1 H1 k1 rh1 q1 x rx => ?_⟩
      cases eo : augO op v u h1 with
      | none => simp only [eo] at q1; exact q1.elim
      | some w =>
        simp only [eo] at q1
        exact ⟨ρ1, ex, h1, v, u, w, rh1, r.mono k1 noex, rx, eo, fun ρ' H' z kp rh' rz => q1 ρ' H' _ kp rh' (((rs.mono k1 noex).mono kp noex).set i rz)⟩
    · exact q.elim
  · exact q.elim
/-! #### flow -/
theorem ex (c : Ctx X T W L) {e : Expr} {m : EM} {pos : Pos} (he : PE X e (rdE T X.K W m)) (hs : swapsWith e none pos.line X.env = pure false := by rfl) : PS X (.Expr e pos) (rdS T X.K W (sExpr m)) := imS (ps_expr he hs) fun D σ H h => by
  obtain ⟨ρ, ex, sl, hp, rs, rh, q⟩ := h
  exact ⟨ρ, ex, sl, hp, rs, rh, (q.thn rs).imp fun v h1 ρ1 H1 k1 rh1 q1 x rx => q1 ρ1 H1 σ (Kp.refl _ _) rh1 (rs.mono k1 noex)⟩
theorem sif {t : Expr} {a b : List Stmt} {m : TM} {ma mb : SM} {pos : Pos} (ht : PT X t (rdT T X.K W m)) (ha : PSs X a (rdS T X.K W ma)) (hb : PSs X b (rdS T X.K W mb)) : PS X (.If t a b pos) (rdS T X.K W (sIf m ma mb)) := imS (ps_if ht ha hb) fun D σ H h => by
  obtain ⟨ρ, ex, sl, hp, rs, rh, q⟩ := h
  refine ⟨ρ, ex, sl, hp, rs, rh, (q.thn rs).imp fun b h1 ρ1 H1 k1 rh1 q1 => ?_⟩
  cases b with
  | true => exact ⟨ρ1, ex, sl, h1, rs.mono k1 noex, rh1, q1⟩
  | false => exact ⟨ρ1, ex, sl, h1, rs.mono k1 noex, rh1, q1⟩
theorem ret {e : Expr} {m : EM} {pos : Pos} (he : PE X e (rdE T X.K W m)) : PS X (.Return (some e) pos) (rdS T X.K W (sRet m)) := imS (ps_ret he) fun D σ H h => by
  obtain ⟨ρ, ex, sl, hp, rs, rh, q⟩ := h
  exact ⟨ρ, ex, sl, hp, rs, rh, (q.thn rs).imp fun v h1 ρ1 H1 k1 rh1 q1 x rx => q1 ρ1 H1 x (Kp.refl _ _) rh1 rx⟩
theorem retN {pos : Pos} : PS X (.Return none pos) (rdS T X.K W sRetN) := imS ps_retN fun D σ H h => by
  obtain ⟨ρ, ex, sl, hp, rs, rh, q⟩ := h
  exact q ρ H _ (Kp.refl _ _) rh .non
theorem pass {pos : Pos} : PS X (.Pass pos) (rdS T X.K W sSkip) := imS ps_pass fun D σ H h => by
  obtain ⟨ρ, ex, sl, hp, rs, rh, q⟩ := h
  exact q ρ H σ (Kp.refl _ _) rh rs
theorem brk {pos : Pos} : PS X (.Break pos) (rdS T X.K W sBrk) := imS ps_break fun D σ H h => by
  obtain ⟨ρ, ex, sl, hp, rs, rh, q⟩ := h
  exact q ρ H σ (Kp.refl _ _) rh rs
theorem cnt {pos : Pos} : PS X (.Continue pos) (rdS T X.K W sCnt) := imS ps_continue fun D σ H h => by
  obtain ⟨ρ, ex, sl, hp, rs, rh, q⟩ := h
  exact q ρ H σ (Kp.refl _ _) rh rs
/-- a turn -/
theorem FinS.turn {ρ : Pl} {ex : List Addr} {H : Hp} {D : Ends} {r : RS} {k : Sl → VH → RS} (q : FinS T K W ρ ex H D (r.again k)) :
    FinS T K W ρ ex H { D with nx := fun σ' H' => ∃ ρ' sl h, Kp ρ H ρ' H' ∧ Rh T K ρ' ex H' h ∧ Rst K ρ' ex H' sl σ' ∧ FinS T K W ρ' ex H' D (k sl h), ct := fun σ' H' => ∃ ρ' sl h, Kp ρ H ρ' H' ∧ Rh T K ρ' ex H' h ∧ Rst K ρ' ex H' sl σ' ∧ FinS T K W ρ' ex H' D (k sl h), bk := D.nx } r := by
  cases r with
  | nx sl h => exact fun ρ' H' σ' kp rh rs => ⟨ρ', sl, h, kp, rh, rs, FinS.later q kp⟩
  | ret v h => exact q
  | brk sl h => exact q
  | cnt sl h => exact fun ρ' H' σ' kp rh rs => ⟨ρ', sl, h, kp, rh, rs, FinS.later q kp⟩
  | exc c fs sl h => exact q
  | bad => exact q
theorem sfor (c : Ctx X T W L) {tg iter : Expr} {body : List Stmt} {i : IM} {g : GM} {b : SM} {pos : Pos} (hi : PI X tg iter (rdI T X.K W i)) (hg : PG X tg (rdG T X.K allS g)) (hb : PSs X body (rdS T X.K W b)) (hs : ∀ x, foldedSetIterable iter X.env x = pure x := by intro _; rfl) :
    PS X (.For tg iter body [] pos) (rdS T X.K W (sFor i g b)) := imS (ps_for c.hp c.hc hi hg hb hs) fun D σ H h => by
  obtain ⟨ρ, ex, sl, hp, rs, rh, q⟩ := h
  refine ⟨ρ, ex, sl, hp, rs, rh, (q.thn rs).imp fun vs h1 ρ1 H1 k1 rh1 q1 J wk => ?_⟩
  refine ⟨fun i m σ H2 => m = vs.length - i ∧ i ≤ vs.length ∧ ∃ ρ2 sl h2, Kp ρ1 H1 ρ2 H2 ∧ Rh T X.K ρ2 ex H2 h2 ∧ Rst X.K ρ2 ex H2 sl σ ∧ FinS T X.K W ρ2 ex H2 D (forL g b (vs.drop i) sl h2), ⟨vs.length, by simp, Nat.zero_le _, ρ1, sl, h1, Kp.refl _ _, rh1, rs.mono k1 noex, q1⟩, ?_⟩
  rintro i m σ2 H2 ⟨em, hi, ρ2, sl2, h2, k2, rh2, rs2, fin⟩
  obtain ⟨wstop, wgo⟩ := wk ρ2 H2 ex k2 noex i
  by_cases hlt : i < vs.length
  · obtain ⟨go, yld⟩ := wgo vs[i] (List.getElem?_eq_getElem hlt)
    rw [List.drop_eq_getElem_cons hlt] at fin
    unfold forL at fin
    refine .inr ⟨go, fun σ' H' => ∃ ρ' sl h, Kp ρ1 H1 ρ' H' ∧ Rh T X.K ρ' ex H' h ∧ Rst X.K ρ' ex H' sl σ' ∧ FinS T X.K W ρ' ex H' D (forL g b (vs.drop (i + 1)) sl h), fun σ' H' hn => ⟨vs.length - (i + 1), by omega, rfl, by omega, hn⟩, fun x H3 hy => ?_⟩
    obtain ⟨k3, d3, r3, v3⟩ := yld x H3 hy
    cases eg : g vs[i] sl2 h2 with
    | none => simp only [eg] at fin; exact fin.elim
    | some p =>
      obtain ⟨sl4, h4⟩ := p
      simp only [eg] at fin
      refine ⟨ρ2, ex, sl2, h2, _, sl4, h4, rs2.mono k3 noex, r3 h2 rh2, v3 h2 rh2, eg, fun ρ4 H4 σ4 k4 rh4 rs4 _ => ?_⟩
      have k14 := (k2.trans k3).trans k4
      refine ⟨ρ4, ex, sl4, h4, rs4, rh4, ?_⟩
      refine (FinS.turn (FinS.later fin (k3.trans k4))).other (fun sl h _ ρ' H' σ' kp rh' rs' hn => ?_) (fun _ _ z => z) (fun _ _ z => z) (fun σ' H' hn => ?_) (fun _ _ _ _ z => z)
      all_goals
        obtain ⟨ρ5, sl5, h5, k5, rh5, rs5, f5⟩ := hn
        exact ⟨ρ5, sl5, h5, k14.trans k5, rh5, rs5, f5⟩
  · rw [List.drop_eq_nil_of_le (by omega)] at fin
    exact .inl ⟨wstop (by omega), fin ρ2 H2 σ2 (Kp.refl _ _) rh2 rs2⟩
theorem swh (c : Ctx X T W L) {test : Expr} {body : List Stmt} {t : TM} {b : SM} {pos : Pos} (ht : PT X test (rdT T X.K W t)) (hb : PSs X body (rdS T X.K W b)) : PS X (.While test body [] pos) (rdS T X.K W (sWhile t b)) := imS (ps_while c.hp ht hb) fun D σ H h => by
  obtain ⟨ρ, ex, sl, hp, rs, rh, q⟩ := h
  refine ⟨fun m σ H => ∃ ρ ex sl h, Rst X.K ρ ex H sl σ ∧ Rh T X.K ρ ex H h ∧ FinS T X.K W ρ ex H D (whN t b m sl h), ?_, ?_⟩
  · unfold sWhile at q
    split at q
    · exact ⟨_, ρ, ex, sl, hp, rs, rh, q⟩
    · exact q.elim
  · rintro m σ2 H2 ⟨ρ, ex, sl, h2, rs, rh, q⟩
    cases m with
    | zero => exact q.elim
    | succ n =>
      unfold whN at q
      refine ⟨ρ, ex, sl, h2, rs, rh, (FinS.thn rs q).imp fun d h1 ρ1 H1 k1 rh1 q1 => ?_⟩
      cases d with
      | false =>
        rw [if_neg (by decide)] at q1
        exact q1 ρ1 H1 σ2 (Kp.refl _ _) rh1 (rs.mono k1 noex)
      | true =>
        rw [if_pos rfl] at q1
        rw [if_pos rfl]
        refine ⟨fun σ' H' => ∃ ρ ex sl h, Rst X.K ρ ex H' sl σ' ∧ Rh T X.K ρ ex H' h ∧ FinS T X.K W ρ ex H' D (whN t b n sl h), fun σ' H' hn => ⟨n, Nat.lt_succ_self n, hn⟩, ρ1, ex, sl, h1, rs.mono k1 noex, rh1, ?_⟩
        refine (FinS.turn q1).other (fun sl h _ ρ' H' σ' kp rh' rs' hn => ?_) (fun _ _ z => z) (fun _ _ z => z) (fun σ' H' hn => ?_) (fun _ _ _ _ z => z)
        all_goals
          obtain ⟨ρ5, sl5, h5, k5, rh5, rs5, f5⟩ := hn
          exact ⟨ρ5, ex, sl5, h5, rs5, rh5, f5⟩
end
end Y

set_option maxHeartbeats 1000000
namespace Y
open PySem PySem.Spec PyProof.Rows L2
section
variable {X : Cx} {T : Tab} {K : PySem.W.Frag} {W : WX} {L : Nat}
/-- raise X('..'), X without an __init__ -/
def sRaise0 (c : Nat) : SM := fun σ h => .exc c [] σ h
/-- an own exception's class without an __init__: its name, its number -/
structure EOk (K : PySem.W.Frag) (mg : Str → Option Value) (T : Tab) (x : Str) (c : Nat) : Prop where
  ex : ∃ C bmB B newId initId, T.exc[c]? = some C ∧ ExcBaseFacts B newId initId bmB ∧ PySem.W.excIn K C bmB newId = true ∧ mg x = some (.ref C) ∧ PySem.W.keepIn K (.ref C) = true ∧
    PySem.W.subIn K (.ref C) (.type "BaseException") = some true ∧ PySem.W.typeIn K (.ref C) = some (.type "type")
theorem raise0 (c : Ctx X T W L) {x s : Str} {n j : Nat} {p p2 pos' pos : Pos} (E : EOk X.K X.mg T x n) (hg : Gl X x := by rfl) (hdb : (x == ("__debug__" : Str)) = false := by decide) :
    PS X (.Raise (some (.Call (.Name x p) [.Constant (.str s) j p2] [] pos')) none pos) (rdS T X.K W (sRaise0 n)) := by
  obtain ⟨C, bmB, B, newId, initId, hc, F, q, gC, kC, h1, h2⟩ := E.ex
  refine imS (ps_raise c.hc c.tk (pmk_own F q gC kC (raises_own h1 h2) hg hdb)) fun D σ H h => ?_
  obtain ⟨ρ, ex, sl, hp, rs, rh, q⟩ := h
  exact q ρ H σ (.ref C) none (Kp.refl _ _) rh rs ⟨C, hc, rfl, .inl ⟨rfl, rfl⟩⟩
/-- what the clause catches, by the exceptions' numbers -/
def Caught (K : PySem.W.Frag) (T : Tab) (c : Value) (cs : Nat → Option Bool) : Prop := ∀ n C b, T.exc[n]? = some C → cs n = some b → PySem.W.exmOne K (.ref C) c = some b
theorem stry (c : Ctx X T W L) {x : Str} {cv : Value} {cs : Nat → Option Bool} {body suite : List Stmt} {b₀ : Stmt} {np pos pos' : Pos} {mb ms : SM} (hc : Names X x cv) (hcs : Caught X.K T cv cs)
    (hb : ∀ (W : WX) (pn : List (Addr × Obj)) (xe : Value → Shared → Prop), Ctx (X.tr pn xe) T W L → PSs (X.tr pn xe) body (rdS T X.K W mb))
    (hsu : ∀ (a : Addr) (pn : List (Addr × Obj)), PSs (X.suite a pn) (b₀ :: suite) (rdS T X.K W0 ms))
    (hs : X.stack = X.env :: X.outer := by rfl) (hf : X.env.frame = some X.env.locals := by rfl) :
    PS X (.Try body [.ExceptHandler (some (.Name x np)) none (b₀ :: suite) pos'] [] [] pos) (rdS T X.K W (sTry mb cs ms)) := by
  refine imS (ps_try_only (Wout := W) (tb := fun W => rdS T X.K W mb) (ts := fun _ _ _ => rdS T X.K W0 ms) hs hf hc c.tk (fun W' pn xe tk hp => hb W' pn xe ⟨c.hc, c.hN, c.room, tk, c.tok, hp⟩) (fun a oe cls d pn _ _ => hsu a _)) fun D σ H h => ?_
  obtain ⟨ρ, ex, sl, hp, rs, rh, q⟩ := h
  refine ⟨ρ, ex, sl, hp, rs, rh, ?_⟩
  unfold sTry at q
  cases e : mb sl hp with
  | nx sl' h' => rw [e] at q; exact q
  | ret v h' => rw [e] at q; exact q
  | brk sl' h' => rw [e] at q; exact q
  | cnt sl' h' => rw [e] at q; exact q
  | bad => rw [e] at q; exact q.elim
  | exc n fs sl' h' =>
    rw [e] at q
    intro ρ' H' σ' cls d kp rh' rs' rx
    obtain ⟨C, eC, ecls, rest⟩ := id rx
    cases ec : cs n with
    | none => simp only [ec] at q; exact q.elim
    | some b =>
      refine ⟨b, ?_, fun hb a _ => ?_, fun hb => ?_⟩
      · rw [ecls]; exact hcs n C b eC ec
      · subst hb
        simp only [ec] at q
        have q2 := FinS.later q kp
        refine ⟨ρ', ex, sl', h', rs', rh', ?_⟩
        revert q2
        cases ems : ms sl' h' with
        | exc c2 fs2 sl2 h2 => exact fun q2 => q2.elim
        | _ => exact fun q2 => q2
      · subst hb
        simp only [ec] at q
        exact q ρ' H' σ' cls d kp rh' rs' rx
end
/-! ### defs -/
section
variable {P : Program} {w : World} {K : PySem.W.Frag} {mg : Str → Option Value} {base : Heap} {T : Tab}
theorem rst_start {ρ : Pl} {ex : List Addr} {H : Hp} : ∀ {us : List PV} {vs : List V} {N : List Str}, Rvs K ρ ex H us vs → Rst K ρ ex H (startS N.length us) (L2.start N vs)
  | us, vs, N, r => by
    have el := r.length
    refine ⟨by unfold startS L2.start; rw [List.length_append, List.length_append, List.length_map, List.length_map, el, List.length_replicate, List.length_replicate], fun i v e n => ?_⟩
    unfold startS at e
    by_cases hi : i < us.length
    · rw [List.getElem?_append_left (by simpa using hi), List.getElem?_map] at e
      obtain ⟨d, hd, e2⟩ := Option.map_eq_some_iff.mp e
      cases e2
      obtain ⟨x, hx, rx⟩ := r.get hd
      refine ⟨x, ?_, rx⟩
      unfold L2.start
      rw [List.getElem?_append_left (by rw [List.length_map, ← el]; exact hi), List.getElem?_map, hx]
      rfl
    · rw [List.getElem?_append_right (by simpa using hi), List.getElem?_replicate] at e
      split at e <;> cases e
/-- THE RULE for a def: it does what its body does -/
theorem does {x qual : Str} {st : Stmt} {f : Addr} {fd : FuncData} {N ps : List Str} {k np n : Nat} {m : SM} (F : L2.Fun K x qual st f fd) (S : FnScope N ps (defScope st)) (tok : T.Ok K) (hnp : ps.length = np) (hn : N.length = n)
    (hbody : ∀ (cdv : Value) (A : Around) (outer : List Env) (s : Shared) (H : Hp) (E : XK), Ctx (cxOf (L2.CX P w) P w K mg base N qual (defScope st) f cdv A outer s H E) T (fun cls d _ H' => E cls d H') k →
      PSs (cxOf (L2.CX P w) P w K mg base N qual (defScope st) f cdv A outer s H E) (defBody st) (rdS T K (fun cls d _ H' => E cls d H') m)) : FnOk P w K mg base (L2.CX P w) (k + 1) f fd ps (spF T K (runDef np n m)) := by
  subst hnp hn
  refine F.okX S (fun vs H Q E h => ?_) (fun cdv A outer s H vs Q E hr h => ?_)
  · obtain ⟨ρ, ex, hp, us, rh, rv, q⟩ := h
    unfold runDef at q
    split at q
    · rename_i e; rw [← rv.length]; exact e
    · exact q.elim
  · obtain ⟨ρ, ex, hp, us, rh, rv, q⟩ := h
    refine ⟨_, hbody cdv A outer s H E ⟨rfl, S.nd, hr, takes_of rfl rfl rfl rfl, tok, passes_of rfl⟩, ρ, ex, _, hp, rst_start rv, rh, ?_⟩
    unfold runDef at q
    split at q
    · cases e : m (startS N.length us) hp with
      | nx sl' h' => simp only [e] at q; exact fun ρ' H' σ' kp rh' rs' => q ρ' H' kp rh' _ .non
      | ret v h' => simp only [e] at q; exact fun ρ' H' x kp rh' rx => q ρ' H' kp rh' x rx
      | brk sl' h' => simp only [e] at q; exact q.elim
      | cnt sl' h' => simp only [e] at q; exact q.elim
      | exc c fs sl' h' => simp only [e] at q; exact fun ρ' H' σ' cls d kp rh' rs' rx => q ρ' H' cls d kp rh' rx
      | bad => simp only [e] at q; exact q.elim
    · exact q.elim
end
end Y

set_option maxHeartbeats 1000000
namespace Y
open PySem PySem.Spec PyProof.Rows L2
section
variable {X : Cx} {T : Tab} {K : PySem.W.Frag} {W : WX} {L : Nat}
theorem reg_at {ρ : Pl} {h : VH} : ∀ {p : Addr}, ρ.length = h.length → (ρ ++ [some p])[h.length]? = some (some p) := fun e => by
  rw [← e, List.getElem?_append_right (Nat.le_refl _), Nat.sub_self]; rfl
theorem rd_dnew {σ : L2.St} {H : Hp} {Q : VK} (h : rdE T K W (mRegD mPNil) σ H Q) : tDNewK σ H Q := by
  obtain ⟨ρ, ex, sl, hp, rs, rh, q⟩ := h
  intro p hn
  exact q _ _ (Kp.reg hn) (rh.reg hn ⟨p, [], rfl, upd_same, .nil⟩) _ (.ref (reg_at rh.len))
theorem dct0 {pos : Pos} : PE X (.Dict [] [] pos) (rdE T X.K W (mRegD mPNil)) := imE pe_dnewK fun _ _ _ h => rd_dnew h
theorem rd_dnewF {σ : L2.St} {H : Hp} {Q : VK} (h : rdE T K W (mFzD mPNil) σ H Q) : tDNewK σ H Q := by
  obtain ⟨ρ, ex, sl, hp, rs, rh, q⟩ := h
  intro p hn
  exact q _ _ (Kp.laid hn) (rh.laid hn) _ (.dct (.inl upd_same) (rh.fresh hn) .nil)
theorem dct0F {pos : Pos} : PE X (.Dict [] [] pos) (rdE T X.K W (mFzD mPNil)) := imE pe_dnewK fun _ _ _ h => rd_dnewF h
structure DP (X : Cx) (T : Tab) (W : WX) (pos : Pos) (keys : List (Option Expr)) (values : List Expr) (m : DM) : Prop where
  ex : ∃ trs, PPs X pos keys values trs ∧ ∀ σ H ρ ex sl h Q, Rst X.K ρ ex H sl σ → Rh T X.K ρ ex H h → Fin T X.K W ρ ex σ H (m sl h) (fun kvs _ ρ' H' => ∀ ks, Rks X.K ρ' ex H' kvs ks → Q (ks.map fun kv => (kV kv.1, kv.2)) H') → tPairs trs σ H Q
  all : keys.all (·.isSome) = true
  len : keys.length = values.length
  few : ∀ sl h kvs h', m sl h = .ok kvs h' → kvs.length = keys.length
theorem dpn {pos : Pos} : DP X T W pos [] [] mPNil where
  ex := ⟨[], pps_nil, fun σ H ρ ex sl h Q rs rh q => q ρ H (Kp.refl _ _) rh [] .nil⟩
  all := rfl
  len := rfl
  few := fun sl h kvs h' e => by cases e; rfl
theorem dpc {pos : Pos} {k v : Expr} {ks : List (Option Expr)} {vs : List Expr} {mk mv : EM} {m : DM} (hk : PE X k (rdE T X.K W mk)) (hv : PE X v (rdE T X.K W mv)) (r : DP X T W pos ks vs m) : DP X T W pos (some k :: ks) (v :: vs) (mPCons mk mv m) where
  ex := by
    obtain ⟨trs, pp, rd⟩ := r.ex
    refine ⟨_, pps_cons hk hv pp, fun σ H ρ ex sl h Q rs rh q => ?_⟩
    refine ⟨ρ, ex, sl, h, rs, rh, q.bnd.imp fun x h1 ρ1 H1 k1 rh1 q1 x' rx => ?_⟩
    refine ⟨ρ1, ex, sl, h1, rs.mono k1 noex, rh1, q1.bnd.imp fun y h2 ρ2 H2 k2 rh2 q2 y' ry => ?_⟩
    split at q2
    · rename_i hc
      refine rd _ _ ρ2 ex sl h2 _ ((rs.mono k1 noex).mono k2 noex) rh2 (q2.bnd.imp fun kvs h3 ρ3 H3 k3 rh3 q3 ks rks => ?_)
      obtain ⟨k', rk, e⟩ := keyR_of hc rx
      subst e
      exact q3 ρ3 H3 (Kp.refl _ _) rh3 ((k', y') :: ks) (.cons rk (ry.mono k3 noex) rks)
    · exact q2.elim
  all := by rw [List.all_cons, r.all]; rfl
  len := by rw [List.length_cons, List.length_cons, r.len]
  few := fun sl h kvs h' e => by
    unfold mPCons at e
    cases e1 : mk sl h with
    | ok x h1 =>
      rw [e1] at e
      simp only [R.bnd_ok] at e
      cases e2 : mv sl h1 with
      | ok y h2 =>
        rw [e2] at e
        simp only [R.bnd_ok] at e
        split at e
        · cases e3 : m sl h2 with
          | ok l h3 => rw [e3] at e; cases e; rw [List.length_cons, List.length_cons, r.few _ _ _ _ e3]
          | exc _ _ _ => rw [e3] at e; cases e
          | bad => rw [e3] at e; cases e
        · cases e
      | exc _ _ _ => rw [e2] at e; cases e
      | bad => rw [e2] at e; cases e
    | exc _ _ _ => rw [e1] at e; cases e
    | bad => rw [e1] at e; cases e
theorem Rks.merge {ρ : Pl} {ex : List Addr} {H : Hp} : ∀ {more : List (PV × PV)} {ms : List (Key × V)} {kvs : List (PV × PV)} {ks : List (Key × V)}, Rks K ρ ex H more ms → Rks K ρ ex H kvs ks → Rks K ρ ex H (kmerge kvs more) (mergeK ks ms)
  | [], _, _, _, r, q => by cases r; exact q
  | (_, _) :: _, _, _, _, r, q => by
    cases r with
    | cons rk rv r2 =>
      have z := Rks.merge r2 (Rks.put rk rv q)
      exact z
theorem rd_disp {pos : Pos} {keys : List (Option Expr)} {values : List Expr} {m : DM} (dp : DP X T W pos keys values m) (h15 : keys.length ≤ 15) {trs : List (TE × TE)}
    (rd : ∀ σ H ρ ex sl h Q, Rst X.K ρ ex H sl σ → Rh T X.K ρ ex H h → Fin T X.K W ρ ex σ H (m sl h) (fun kvs _ ρ' H' => ∀ ks, Rks X.K ρ' ex H' kvs ks → Q (ks.map fun kv => (kV kv.1, kv.2)) H') → tPairs trs σ H Q)
    {σ : L2.St} {H : Hp} {Q : VK} (h : rdE T X.K W (mRegD (mDisp m)) σ H Q) : tDisp trs σ H Q := by
  obtain ⟨ρ, ex, sl, hp, rs, rh, q⟩ := h
  intro p hn
  have hx : ∀ a ∈ p :: ex, a ∈ ex ∨ H a = none := fun a ha => (List.mem_cons.mp ha).elim (fun z => .inr (by rw [z]; exact hn)) .inl
  have npx : p ∉ ex := fun z => (rh.exs p z).1 hn
  have kl : Kp ρ H ρ (upd H p (.dK [])) := Kp.laid hn
  refine rd _ _ ρ (p :: ex) sl hp _ (rs.mono kl hx) (rh.lay hn) ?_
  have len := dp.few sl hp
  revert q
  unfold mRegD mDisp
  cases e : m sl hp with
  | bad => exact fun q => q
  | exc c fs h1 => exact fun q => q.elim
  | ok kvs h1 =>
    intro q ρ' H' kp rh' ks rks
    have hp' := kp.keep p _ upd_same (rh.fresh hn).1
    have np := (rh'.exs p List.mem_cons_self).2
    refine ⟨hp', ks, rfl, by rw [← rks.length, len kvs h1 e]; exact h15, ?_⟩
    have k1 : Kp ρ H ρ' (Y.hide H' p) := (kl.trans kp).hide hn
    have rh1 := rh'.hide npx
    have r1 := Rks.hide _ _ rks
    have k2 : Kp ρ' (Y.hide H' p) (ρ' ++ [some p]) (upd (Y.hide H' p) p (.dK (mergeK [] ks))) := Kp.reg hide_same
    have := q (ρ' ++ [some p]) (upd (Y.hide H' p) p (.dK (mergeK [] ks))) (k1.trans k2) (rh1.reg hide_same ⟨p, _, rfl, upd_same, Rks.merge (Rks.mono k2 noex _ _ r1) .nil⟩) _ (.ref (reg_at rh1.len))
    rw [upd_hide] at this
    exact this
theorem disp {pos : Pos} {keys : List (Option Expr)} {values : List Expr} {m : DM} (dp : DP X T W pos keys values m) (h0 : keys ≠ [] := by exact List.cons_ne_nil _ _) (h15 : keys.length ≤ 15 := by decide) : PE X (.Dict keys values pos) (rdE T X.K W (mRegD (mDisp m))) := by
  obtain ⟨trs, pp, rd⟩ := dp.ex
  exact imE (pe_disp pp dp.all dp.len h0 h15) fun _ _ _ h => rd_disp dp h15 rd h
end
end Y
namespace Y
open PySem PySem.Spec PyProof.Rows L2
section
variable {X : Cx} {T : Tab} {W : WX} {L : Nat}
theorem bo1 {op : BoolOp} {a : Expr} {m : EM} {pos : Pos} (h : PE X a (rdE T X.K W m)) : PE X (.BoolOp op [a] pos) (rdE T X.K W m) := pe_one h
/-- a written text and its signs -/
structure Lit (x : Str) (l : List Nat) : Prop where
  eq : x.cps.toList = l
  len : l.length ≤ line
  ok : chOk l
theorem lit {x : Str} {l : List Nat} (h : (decide (x.cps.toList = l) && Nat.ble l.length line && l.all fun c => decide (c < 0x110000)) = true) : Lit x l := by
  have h1 := Bool.and_eq_true_iff.mp h
  have h2 := Bool.and_eq_true_iff.mp h1.1
  exact ⟨of_decide_eq_true h2.1, Nat.ble_eq.mp h2.2, fun c hc => of_decide_eq_true (List.all_eq_true.mp h1.2 c hc)⟩
theorem str {x : Str} {l : List Nat} {j : Nat} {pos : Pos} (h : Lit x l) : PE X (.Constant (.str x) j pos) (rdE T X.K W (mC (.str l))) := by
  have := h.eq
  subst this
  exact e_str h.len h.ok
theorem notv {a : Expr} {m : EM} {pos : Pos} (h : PE X a (rdE T X.K W m)) : PE X (.UnaryOp .Not a pos) (rdE T X.K W (mNotV (mTest m))) := imE (pe_not h) fun σ H Q h => by
  obtain ⟨ρ, ex, sl, hp, rs, rh, q⟩ := h
  have q2 := q.bnd
  have q3 := (rd_test (K := X.K) (T := T) (W := W) (m := m) (σ := σ) (H := H) (Q := fun b H' => Q (.bl (!b)) H') ⟨ρ, ex, sl, hp, rs, rh, q2.imp fun b h1 ρ1 H1 k1 rh1 q1 => q1 ρ1 H1 (Kp.refl _ _) rh1 _ (.bl _)⟩)
  exact q3
end
end Y

set_option maxHeartbeats 1000000
/-! the words, reckoned -/
namespace Y
section
variable {α : Type} (σ : Sl) (h : VH)
@[simp] theorem mC_e (v : PV) : mC v σ h = .ok v h := rfl
theorem mVar_e {i : Nat} {v : PV} {σ : Sl} {h : VH} (e : σ[i]? = some (some v)) (n : notExn v = true) : mVar i σ h = .ok v h := by
  unfold mVar
  rw [e]
  simp only [n, if_true]
@[simp] theorem notExn_str (s : List Nat) : notExn (.str s) = true := rfl
@[simp] theorem notExn_int (s : Int) : notExn (.int s) = true := rfl
@[simp] theorem notExn_ref (s : Nat) : notExn (.ref s) = true := rfl
@[simp] theorem notExn_tup (s : List PV) : notExn (.tup s) = true := rfl
@[simp] theorem notExn_lst (s : List PV) : notExn (.lst s) = true := rfl
@[simp] theorem notExn_bl (s : Bool) : notExn (.bl s) = true := rfl
@[simp] theorem notExn_non : notExn .non = true := rfl
@[simp] theorem notExn_scr (s : List Int) : notExn (.scr s) = true := rfl
@[simp] theorem notExn_dct (s : List (PV × PV)) : notExn (.dct s) = true := rfl
@[simp] theorem v0_str (s : List Nat) (r : Sl) : mVar 0 (some (.str s) :: r) h = .ok (.str s) h := rfl
@[simp] theorem v0_int (s : Int) (r : Sl) : mVar 0 (some (.int s) :: r) h = .ok (.int s) h := rfl
@[simp] theorem v0_ref (s : Nat) (r : Sl) : mVar 0 (some (.ref s) :: r) h = .ok (.ref s) h := rfl
@[simp] theorem v0_tup (s : List PV) (r : Sl) : mVar 0 (some (.tup s) :: r) h = .ok (.tup s) h := rfl
@[simp] theorem v0_lst (s : List PV) (r : Sl) : mVar 0 (some (.lst s) :: r) h = .ok (.lst s) h := rfl
@[simp] theorem v0_bl (s : Bool) (r : Sl) : mVar 0 (some (.bl s) :: r) h = .ok (.bl s) h := rfl
@[simp] theorem v0_non  (r : Sl) : mVar 0 (some (.non) :: r) h = .ok (.non) h := rfl
@[simp] theorem v0_scr (s : List Int) (r : Sl) : mVar 0 (some (.scr s) :: r) h = .ok (.scr s) h := rfl
@[simp] theorem v0_dct (s : List (PV × PV)) (r : Sl) : mVar 0 (some (.dct s) :: r) h = .ok (.dct s) h := rfl
theorem v0 (v : PV) (r : Sl) (n : notExn v = true) : mVar 0 (some v :: r) h = .ok v h := mVar_e rfl n
theorem vs (i : Nat) (v : Option PV) (r : Sl) : mVar (i + 1) (v :: r) h = mVar i r h := rfl
@[simp] theorem vs1 (v : Option PV) (r : Sl) : mVar 1 (v :: r) h = mVar 0 r h := rfl
@[simp] theorem vs2 (v : Option PV) (r : Sl) : mVar 2 (v :: r) h = mVar 1 r h := rfl
@[simp] theorem vs3 (v : Option PV) (r : Sl) : mVar 3 (v :: r) h = mVar 2 r h := rfl
@[simp] theorem vs4 (v : Option PV) (r : Sl) : mVar 4 (v :: r) h = mVar 3 r h := rfl
@[simp] theorem vs5 (v : Option PV) (r : Sl) : mVar 5 (v :: r) h = mVar 4 r h := rfl
@[simp] theorem vs6 (v : Option PV) (r : Sl) : mVar 6 (v :: r) h = mVar 5 r h := rfl
@[simp] theorem vs7 (v : Option PV) (r : Sl) : mVar 7 (v :: r) h = mVar 6 r h := rfl
@[simp] theorem vs8 (v : Option PV) (r : Sl) : mVar 8 (v :: r) h = mVar 7 r h := rfl
@[simp] theorem vs9 (v : Option PV) (r : Sl) : mVar 9 (v :: r) h = mVar 8 r h := rfl
@[simp] theorem vs10 (v : Option PV) (r : Sl) : mVar 10 (v :: r) h = mVar 9 r h := rfl
@[simp] theorem vs11 (v : Option PV) (r : Sl) : mVar 11 (v :: r) h = mVar 10 r h := rfl
@[simp] theorem vs12 (v : Option PV) (r : Sl) : mVar 12 (v :: r) h = mVar 11 r h := rfl
@[simp] theorem vs13 (v : Option PV) (r : Sl) : mVar 13 (v :: r) h = mVar 12 r h := rfl
@[simp] theorem vs14 (v : Option PV) (r : Sl) : mVar 14 (v :: r) h = mVar 13 r h := rfl
@[simp] theorem vs15 (v : Option PV) (r : Sl) : mVar 15 (v :: r) h = mVar 14 r h := rfl
@[simp] theorem vs16 (v : Option PV) (r : Sl) : mVar 16 (v :: r) h = mVar 15 r h := rfl
@[simp] theorem vs17 (v : Option PV) (r : Sl) : mVar 17 (v :: r) h = mVar 16 r h := rfl
@[simp] theorem vs18 (v : Option PV) (r : Sl) : mVar 18 (v :: r) h = mVar 17 r h := rfl
@[simp] theorem vs19 (v : Option PV) (r : Sl) : mVar 19 (v :: r) h = mVar 18 r h := rfl
@[simp] theorem vs20 (v : Option PV) (r : Sl) : mVar 20 (v :: r) h = mVar 19 r h := rfl
@[simp] theorem mOp1_e (f : PV → VH → Option PV) (a : EM) : mOp1 f a σ h = (a σ h).bnd fun x h1 => retO (f x h1) h1 := rfl
@[simp] theorem mOp2_e (f : PV → PV → VH → Option PV) (a b : EM) : mOp2 f a b σ h = (a σ h).bnd fun x h1 => (b σ h1).bnd fun y h2 => retO (f x y h2) h2 := rfl
@[simp] theorem mNil_e : mNil σ h = .ok [] h := rfl
@[simp] theorem mCons_e (a : EM) (r : AM) : mCons a r σ h = (a σ h).bnd fun x h1 => (r σ h1).bnd fun xs h2 => .ok (x :: xs) h2 := rfl
@[simp] theorem mCall_e (F : Fn) (as : AM) : mCall F as σ h = (as σ h).bnd F := rfl
@[simp] theorem mBi_e (F : List PV → VH → Option PV) (as : AM) : mBi F as σ h = (as σ h).bnd fun vs h1 => retO (F vs h1) h1 := rfl
@[simp] theorem mBiL_e (F : List PV → VH → Option (List PV)) (as : AM) : mBiL F as σ h = (as σ h).bnd fun vs h1 => retO (F vs h1) h1 := rfl
@[simp] theorem calm_ok (a : α) (h : VH) : (R.ok a h).calm = .ok a h := rfl
theorem mMethB_e (ks : List String) (B : Bm) (o : EM) (as : AM) : mMeth noC ks B o as σ h = ((o σ h).calm).bnd fun x h1 => match clsOf x h1 with
  | some _ => .bad
  | none => if kind x h1 ∈ ks then (as σ h1).bnd fun vs h2 => retH (if kind x h2 = kind x h1 then B x vs h2 else none) else .bad := by
  unfold mMeth
  congr 1
@[simp] theorem mIf_e (t : TM) (a b : EM) : mIf t a b σ h = (t σ h).bnd fun c h1 => if c = true then a σ h1 else b σ h1 := rfl
@[simp] theorem mTest_e (a : EM) : mTest a σ h = (a σ h).bnd fun x h1 => match x with
  | .bl b => .ok b h1
  | _ => .bad := rfl
@[simp] theorem mTruth_e (a : EM) : mTruth a σ h = (a σ h).bnd truth := rfl
@[simp] theorem mAnd_e (t u : TM) : mAnd t u σ h = (t σ h).bnd fun c h1 => if c = true then u σ h1 else .ok false h1 := rfl
@[simp] theorem mOr_e (t u : TM) : mOr t u σ h = (t σ h).bnd fun c h1 => if c = true then .ok true h1 else u σ h1 := rfl
@[simp] theorem mNot_e (t : TM) : mNot t σ h = (t σ h).bnd fun c h1 => .ok (!c) h1 := rfl
@[simp] theorem mAndV_e (a b : EM) : mAndV a b σ h = (a σ h).bnd fun x h1 => match x with
  | .bl true => b σ h1
  | .bl false => .ok (.bl false) h1
  | _ => .bad := rfl
@[simp] theorem mOrV_e (a b : EM) : mOrV a b σ h = (a σ h).bnd fun x h1 => match x with
  | .bl false => b σ h1
  | .bl true => .ok (.bl true) h1
  | _ => .bad := rfl
@[simp] theorem mNoPart_e : mNoPart σ h = .ok none h := rfl
@[simp] theorem mPart_e (a : EM) : mPart a σ h = (a σ h).bnd fun x h1 => match x with
  | .int i => .ok (some i) h1
  | _ => .bad := rfl
@[simp] theorem mSl_e (a : EM) (lo hi : OM) : mSl a lo hi σ h = (a σ h).bnd fun x h1 => (lo σ h1).bnd fun l h2 => (hi σ h2).bnd fun u h3 => retO (slO x l u h3) h3 := rfl
@[simp] theorem mTup_e (as : AM) : mTup as σ h = (as σ h).bnd fun xs h1 => if xs.length ≤ line then .ok (.tup xs) h1 else .bad := rfl
@[simp] theorem mFz_e (m : AM) : mFz m σ h = (m σ h).bnd fun xs h1 => .ok (.lst xs) h1 := rfl
@[simp] theorem mReg_e (m : AM) : mReg m σ h = (m σ h).bnd fun xs h1 => .ok (.ref h1.length) (h1 ++ [.lst xs]) := rfl
@[simp] theorem mNewL_e (as : AM) : mNewL as σ h = (as σ h).bnd fun xs h1 => if xs.length ≤ line then .ok xs h1 else .bad := rfl
@[simp] theorem mRegD_e (m : DM) : mRegD m σ h = (m σ h).bnd fun kvs h1 => .ok (.ref h1.length) (h1 ++ [.dct kvs]) := rfl
@[simp] theorem mPNil_e : mPNil σ h = .ok [] h := rfl
@[simp] theorem mPCons_e (k v : EM) (r : DM) : mPCons k v r σ h = (k σ h).bnd fun x h1 => (v σ h1).bnd fun y h2 => if keyOk x then (r σ h2).bnd fun kvs h3 => .ok ((x, y) :: kvs) h3 else .bad := rfl
@[simp] theorem mDisp_e (m : DM) : mDisp m σ h = ((m σ h).calm).bnd fun kvs h1 => .ok (kmerge [] kvs) h1 := rfl
@[simp] theorem mIter_e (a : EM) : mIter a σ h = (a σ h).bnd fun x h1 => match x with
  | .lst l => .ok l h1
  | .tup l => .ok l h1
  | .str s => .ok (s.map fun c => .str [c]) h1
  | .scr l => .ok (l.map PV.int) h1
  | _ => .bad := rfl
@[simp] theorem mRange_e (as : AM) : mRange as σ h = (as σ h).bnd fun xs h1 => match xs with
  | [.int j] => if rngOk j then .ok (rangeL 0 j.toNat) h1 else .bad
  | [.int i, .int j] => if rngOk i && rngOk j then .ok (rangeL i (j - i).toNat) h1 else .bad
  | _ => .bad := rfl
@[simp] theorem tName_e (i : Nat) (v : PV) : tName i v σ h = some (σ.set i (some v), h) := rfl
@[simp] theorem tNil_e : tNil [] σ h = some (σ, h) := rfl
@[simp] theorem tCons_e (t : GM) (u : GMs) (v : PV) (r : List PV) : tCons t u (v :: r) σ h = match t v σ h with
  | some (σ', h') => u r σ' h'
  | none => none := rfl
@[simp] theorem tTup_e (t : GMs) (l : List PV) : tTup t (.tup l) σ h = t l σ h := rfl
@[simp] theorem tSub_e (o i : EM) (v : PV) : tSub o i v σ h = match (o σ h).opt with
  | some (x, h1) => match (i σ h1).opt with
    | some (y, h2) => match setIx x y v h2 with
      | some h3 => some (σ, h3)
      | none => none
    | none => none
  | none => none := rfl
@[simp] theorem opt_ok (a : α) (h : VH) : (R.ok a h).opt = some (a, h) := rfl
@[simp] theorem mYes_e : mYes σ h = .ok true h := rfl
@[simp] theorem mLc_e (it : IM) (tg : GM) (t : TM) (e : EM) (own : List Nat) : mLc it tg t e own σ h = (it σ h).bnd fun xs h1 => lcLoop tg t e (wipe σ own) xs [] h1 := rfl
@[simp] theorem sSkip_e : sSkip σ h = .nx σ h := rfl
@[simp] theorem sAsg_e (e : EM) (t : GM) : sAsg e t σ h = (e σ h).thn σ fun v h1 => match t v σ h1 with
  | some (σ', h2) => .nx σ' h2
  | none => .bad := rfl
@[simp] theorem sAug_e (i : Nat) (f : PV → PV → VH → Option PV) (e : EM) : sAug i f e σ h = (mVar i σ h).thn σ fun x h0 => (e σ h0).thn σ fun y h1 => match f x y h1 with
  | some z => .nx (σ.set i (some z)) h1
  | none => .bad := rfl
@[simp] theorem sExpr_e (e : EM) : sExpr e σ h = (e σ h).thn σ fun _ h1 => .nx σ h1 := rfl
@[simp] theorem sIf_e (t : TM) (a b : SM) : sIf t a b σ h = (t σ h).thn σ fun c h1 => if c = true then a σ h1 else b σ h1 := rfl
@[simp] theorem sRet_e (e : EM) : sRet e σ h = (e σ h).thn σ fun v h1 => .ret v h1 := rfl
@[simp] theorem sRetN_e : sRetN σ h = .ret .non h := rfl
@[simp] theorem sBrk_e : sBrk σ h = .brk σ h := rfl
@[simp] theorem sCnt_e : sCnt σ h = .cnt σ h := rfl
@[simp] theorem sRaise0_e (c : Nat) : sRaise0 c σ h = .exc c [] σ h := rfl
@[simp] theorem sPar2_e (i j : Nat) (m : AM) : sPar2 i j m σ h = (m σ h).thn σ fun vs h1 => match vs with
  | [a, b] => .nx ((σ.set i (some a)).set j (some b)) h1
  | _ => .bad := rfl
@[simp] theorem sPar3_e (i j l : Nat) (m : AM) : sPar3 i j l m σ h = (m σ h).thn σ fun vs h1 => match vs with
  | [a, b, d] => .nx (((σ.set i (some a)).set j (some b)).set l (some d)) h1
  | _ => .bad := rfl
@[simp] theorem sFor_e (it : IM) (tg : GM) (b : SM) : sFor it tg b σ h = (it σ h).thn σ fun xs h1 => forL tg b xs σ h1 := rfl
@[simp] theorem forL_nil (tg : GM) (b : SM) : forL tg b [] σ h = .nx σ h := rfl
@[simp] theorem forL_cons (tg : GM) (b : SM) (x : PV) (r : List PV) : forL tg b (x :: r) σ h = match tg x σ h with
  | some (σ', h1) => (b σ' h1).again (forL tg b r)
  | none => .bad := rfl
@[simp] theorem again_nx (k : Sl → VH → RS) : (RS.nx σ h).again k = k σ h := rfl
@[simp] theorem again_cnt (k : Sl → VH → RS) : (RS.cnt σ h).again k = k σ h := rfl
@[simp] theorem again_brk (k : Sl → VH → RS) : (RS.brk σ h).again k = .nx σ h := rfl
@[simp] theorem again_ret (v : PV) (k : Sl → VH → RS) : (RS.ret v h).again k = .ret v h := rfl
@[simp] theorem again_exc (c : Nat) (fs : List (Nat × PV)) (k : Sl → VH → RS) : (RS.exc c fs σ h).again k = .exc c fs σ h := rfl
@[simp] theorem lc_nil (tg : GM) (t : TM) (e : EM) (acc : List PV) : lcLoop tg t e σ [] acc h = .ok acc h := rfl
@[simp] theorem sSeq_e (a b : SM) : sSeq a b σ h = match a σ h with
  | .nx σ' h' => b σ' h'
  | r => r := rfl
@[simp] theorem strLe_line : (16777216 : Nat) = line := rfl
@[simp] theorem sTry_e (a : SM) (cs : Nat → Option Bool) (b : SM) : sTry a cs b σ h = match a σ h with
  | .exc c fs σ' h' => match cs c with
    | some true => (b σ' h').calm
    | some false => .exc c fs σ' h'
    | none => .bad
  | r => r := rfl
end
theorem Seq {a b : SM} {σ σ' : Sl} {h h' : VH} {Q : RS → Prop} (e : a σ h = .nx σ' h') (k : Q (b σ' h')) : Q (sSeq a b σ h) := by
  rw [sSeq_e, e]; exact k
theorem seqE {a b : SM} {σ σ' : Sl} {h h' : VH} (e : a σ h = .nx σ' h') : sSeq a b σ h = b σ' h' := by rw [sSeq_e, e]
/-! ### while, turn by turn -/
theorem again_bad {r : RS} {k : Sl → VH → RS} (h : r.again k ≠ .bad) : ∀ {σ : Sl} {g : VH}, (r = .nx σ g ∨ r = .cnt σ g) → k σ g ≠ .bad := by
  intro σ g e
  rcases e with e | e <;> subst e <;> exact h
theorem again_eq {r : RS} {k k' : Sl → VH → RS} (h : ∀ σ g, (r = .nx σ g ∨ r = .cnt σ g) → k σ g = k' σ g) : r.again k = r.again k' := by
  cases r with
  | nx σ g => exact h σ g (.inl rfl)
  | cnt σ g => exact h σ g (.inr rfl)
  | _ => rfl
theorem whN_mono (t : TM) (b : SM) : ∀ (n m : Nat) (σ : Sl) (h : VH), whN t b n σ h ≠ .bad → n ≤ m → whN t b m σ h = whN t b n σ h
  | 0, m, σ, h, e, _ => absurd rfl e
  | n + 1, 0, σ, h, e, l => by omega
  | n + 1, m + 1, σ, h, e, l => by
    unfold whN at e ⊢
    cases et : t σ h with
    | ok c h1 =>
      rw [et] at e
      simp only [R.thn_ok] at e ⊢
      cases c with
      | true =>
        simp only [if_true] at e ⊢
        exact again_eq fun σ' g hr => whN_mono t b n m σ' g (again_bad e hr) (by omega)
      | false => rfl
    | exc c fs h1 => rfl
    | bad => rfl
open Classical in
theorem sWhile_e (t : TM) (b : SM) (σ : Sl) (h : VH) : sWhile t b σ h = (t σ h).thn σ fun c h1 => if c = true then (b σ h1).again (sWhile t b) else .nx σ h1 := by
  have key : ∀ σ h n, whN t b n σ h ≠ .bad → sWhile t b σ h = whN t b n σ h := fun σ h n hn => by
    have ex : ∃ n, whN t b n σ h ≠ .bad := ⟨n, hn⟩
    unfold sWhile
    rw [dif_pos ex]
    rcases Nat.le_total (Classical.choose ex) n with l | l
    · exact (whN_mono t b _ _ σ h (Classical.choose_spec ex) l).symm
    · exact whN_mono t b _ _ σ h hn l
  have none_ : ∀ σ h, (∀ n, whN t b n σ h = .bad) → sWhile t b σ h = .bad := fun σ h hn => by
    unfold sWhile
    rw [dif_neg fun ⟨n, z⟩ => z (hn n)]
  by_cases ex : ∃ n, whN t b n σ h ≠ .bad
  · obtain ⟨n, hn⟩ := ex
    rw [key σ h n hn]
    cases n with
    | zero => exact absurd rfl hn
    | succ n =>
      unfold whN at hn ⊢
      cases et : t σ h with
      | ok c h1 =>
        rw [et] at hn
        simp only [R.thn_ok] at hn ⊢
        cases c with
        | true =>
          simp only [if_true] at hn ⊢
          exact again_eq fun σ' g hr => (key σ' g n (again_bad hn hr)).symm
        | false => rfl
      | exc c fs h1 => rfl
      | bad => rfl
  · have all : ∀ n, whN t b n σ h = .bad := fun n => Classical.byContradiction fun z => ex ⟨n, z⟩
    rw [none_ σ h all]
    have h1 := all 1
    unfold whN at h1
    cases et : t σ h with
    | ok c h1' =>
      have alls : ∀ n, (if c = true then (b σ h1').again (whN t b n) else .nx σ h1') = RS.bad := fun n => by
        have := all (n + 1)
        unfold whN at this
        rw [et] at this
        exact this
      simp only [R.thn_ok]
      cases c with
      | false => exact (alls 0).symm
      | true =>
        simp only [if_true] at alls ⊢
        cases eb : b σ h1' with
        | nx σ' g => rw [eb] at alls; exact (none_ σ' g alls).symm
        | cnt σ' g => rw [eb] at alls; exact (none_ σ' g alls).symm
        | brk σ' g => have := alls 0; rw [eb] at this; cases this
        | ret v g => have := alls 0; rw [eb] at this; cases this
        | exc c fs σ' g => have := alls 0; rw [eb] at this; cases this
        | bad => rfl
    | exc c fs h2 => rw [et] at h1; cases h1
    | bad => rfl
/-! ### comprehensions -/
/-- each turn gives f of the item, and the heap stays -/
theorem lc_map {tg : GM} {e : EM} {σ : Sl} {h : VH} (f : PV → PV) : ∀ (xs acc : List PV), acc.length + xs.length ≤ line → (∀ x ∈ xs, ∃ σ', tg x σ h = some (σ', h) ∧ e σ' h = .ok (f x) h) → lcLoop tg mYes e σ xs acc h = .ok (acc ++ xs.map f) h
  | [], acc, _, _ => by simp
  | x :: r, acc, hl, hx => by
    obtain ⟨σ', e1, e2⟩ := hx x List.mem_cons_self
    unfold lcLoop
    rw [List.length_cons] at hl
    simp only [e1, mYes_e, calm_ok, R.bnd_ok, if_true, e2]
    rw [if_pos (Nat.blt_eq.mpr (by omega)), lc_map f r _ (by simp; omega) fun y hy => hx y (List.mem_cons_of_mem _ hy)]
    simp
/-- each turn keeps I of the heap and gives something of which P holds -/
theorem lc_inv {tg : GM} {e : EM} {σ : Sl} (I : VH → Prop) (Pp : PV → Prop) : ∀ (xs acc : List PV) (h : VH), acc.length + xs.length ≤ line → I h → (∀ x ∈ xs, ∀ h, I h → ∃ σ', tg x σ h = some (σ', h) ∧ ∃ y h', e σ' h = .ok y h' ∧ I h' ∧ Pp y) →
    ∃ ys h', lcLoop tg mYes e σ xs acc h = .ok (acc ++ ys) h' ∧ I h' ∧ (∀ y ∈ ys, Pp y) ∧ ys.length = xs.length
  | [], acc, h, _, i, _ => ⟨[], h, by simp, i, by simp, rfl⟩
  | x :: r, acc, h, hl, i, hx => by
    obtain ⟨σ', e1, y, h1, e2, i1, py⟩ := hx x List.mem_cons_self h i
    rw [List.length_cons] at hl
    obtain ⟨ys, h', e3, i', ps, l⟩ := lc_inv I Pp r (acc ++ [y]) h1 (by simp; omega) i1 fun z hz => hx z (List.mem_cons_of_mem _ hz)
    refine ⟨y :: ys, h', ?_, i', ?_, by simp [l]⟩
    · unfold lcLoop
      simp only [e1, mYes_e, calm_ok, R.bnd_ok, if_true, e2]
      rw [if_pos (Nat.blt_eq.mpr (by omega)), e3]
      simp
    · intro z hz
      rcases List.mem_cons.mp hz with q | q
      · rw [q]; exact py
      · exact ps z q
/-- a for whose turns keep an invariant -/
theorem for_inv {tg : GM} {b : SM} (I : Nat → Sl → VH → Prop) : ∀ (xs : List PV) (i : Nat) (σ : Sl) (h : VH), I i σ h → (∀ j x, xs[j]? = some x → ∀ σ h, I (i + j) σ h → ∃ σ1 h1, tg x σ h = some (σ1, h1) ∧ ∃ σ2 h2, (b σ1 h1 = .nx σ2 h2 ∨ b σ1 h1 = .cnt σ2 h2) ∧ I (i + j + 1) σ2 h2) →
    ∃ σ' h', forL tg b xs σ h = .nx σ' h' ∧ I (i + xs.length) σ' h'
  | [], i, σ, h, hi, _ => ⟨σ, h, rfl, hi⟩
  | x :: r, i, σ, h, hi, hx => by
    obtain ⟨σ1, h1, e1, σ2, h2, e2, i2⟩ := hx 0 x rfl σ h hi
    obtain ⟨σ', h', e3, i3⟩ := for_inv I r (i + 1) σ2 h2 i2 fun j y hy σ h hj => by
      have := hx (j + 1) y (by simpa using hy) σ h (by rw [show i + (j + 1) = i + 1 + j by omega]; exact hj)
      rw [show i + (j + 1) + 1 = i + 1 + j + 1 by omega] at this
      exact this
    refine ⟨σ', h', ?_, by rw [List.length_cons, show i + (r.length + 1) = i + 1 + r.length by omega]; exact i3⟩
    rw [forL_cons, e1]
    rcases e2 with e2 | e2
    · simp only [e2, again_nx]; exact e3
    · simp only [e2, again_cnt]; exact e3
/-! ### slices of texts and lists -/
theorem cutIx_nn (n d i : Nat) : cutIx n d (some (i : Int)) = min i n := by
  show (if (i : Int) < 0 then ((i : Int) + n).toNat else min (i : Int).toNat n) = _
  rw [if_neg (by omega), Int.toNat_natCast]
theorem cut_nn {α : Type} (l : List α) (i k : Nat) : cut l (some (i : Int)) (some (k : Int)) = (l.drop i).take (k - i) := by
  unfold cut
  rw [cutIx_nn, cutIx_nn]
  by_cases h : i ≤ l.length
  · rw [Nat.min_eq_left h]
    by_cases h2 : k ≤ l.length
    · rw [Nat.min_eq_left h2]
    · have e : min k l.length = l.length := Nat.min_eq_right (by omega)
      have ed := List.length_drop (i := i) (l := l)
      rw [e, List.take_of_length_le (Nat.le_of_eq ed), List.take_of_length_le (show (l.drop i).length ≤ k - i by omega)]
  · have e : min i l.length = l.length := Nat.min_eq_right (by omega)
    rw [e, List.drop_eq_nil_of_le (show l.length ≤ i by omega), List.drop_eq_nil_of_le (Nat.le_refl _)]
    simp
theorem cut_lo {α : Type} (l : List α) (i : Nat) : cut l (some (i : Int)) none = l.drop i := by
  unfold cut
  rw [cutIx_nn]
  show (l.drop (min i l.length)).take (l.length - min i l.length) = _
  by_cases h : i ≤ l.length
  · rw [Nat.min_eq_left h]
    exact List.take_of_length_le (Nat.le_of_eq List.length_drop)
  · have e : min i l.length = l.length := Nat.min_eq_right (by omega)
    rw [e, List.drop_eq_nil_of_le (show l.length ≤ i by omega), List.drop_eq_nil_of_le (Nat.le_refl _)]
    simp
theorem cut_hi {α : Type} (l : List α) (k : Nat) : cut l none (some (k : Int)) = l.take k := by
  unfold cut
  rw [cutIx_nn]
  show (l.drop 0).take (min k l.length - 0) = _
  rw [Nat.sub_zero, List.drop_zero]
  by_cases h2 : k ≤ l.length
  · rw [Nat.min_eq_left h2]
  · have e : min k l.length = l.length := Nat.min_eq_right (by omega)
    rw [e, List.take_of_length_le (Nat.le_refl _), List.take_of_length_le (show l.length ≤ k by omega)]
theorem atI_nn {n i : Nat} (h : i < n) : atI n (i : Int) = some i := by
  unfold atI
  simp
  omega
theorem itO_nn {α : Type} (l : List α) (i : Nat) : itO l (i : Int) = l[i]? := by
  unfold itO
  by_cases h : i < l.length
  · rw [atI_nn h]; rfl
  · rw [List.getElem?_eq_none (by omega)]
    have : atI l.length (i : Int) = none := by
      unfold atI
      simp
      omega
    rw [this]
    rfl
theorem get_p {h0 : VH} {a : VO} {r : VH} : (h0 ++ a :: r)[h0.length]? = some a := by simp
theorem get_q {h0 : VH} {a b : VO} {r : VH} : (h0 ++ a :: b :: r)[h0.length + 1]? = some b := by simp
/-! ### operations on values -/
section
variable (h : VH)
@[simp] theorem add_int (a b : Int) : binO .Add (.int a) (.int b) h = some (.int (a + b)) := rfl
@[simp] theorem sub_int (a b : Int) : binO .Sub (.int a) (.int b) h = some (.int (a - b)) := rfl
@[simp] theorem mul_int (a b : Int) : binO .Mult (.int a) (.int b) h = if mulOk a || mulOk b then some (.int (a * b)) else none := rfl
@[simp] theorem div_int (a b : Int) : binO .FloorDiv (.int a) (.int b) h = if divOk b then some (.int (a / b)) else none := rfl
@[simp] theorem mod_int (a b : Int) : binO .Mod (.int a) (.int b) h = if 0 < b then some (.int (a % b)) else none := rfl
@[simp] theorem add_str (a b : List Nat) : binO .Add (.str a) (.str b) h = if a.length + b.length ≤ line then some (.str (a ++ b)) else none := rfl
@[simp] theorem mul_str (a : List Nat) (b : Int) : binO .Mult (.str a) (.int b) h = if a.length * b.toNat ≤ line ∧ rngOk b = true then some (.str (rep a b.toNat)) else none := rfl
@[simp] theorem mul_tup (a : List PV) (b : Int) : binO .Mult (.tup a) (.int b) h = if a.length * b.toNat ≤ line ∧ rngOk b = true then some (.tup (rep a b.toNat)) else none := rfl
@[simp] theorem aadd_int (a b : Int) : augO .Add (.int a) (.int b) h = some (.int (a + b)) := rfl
@[simp] theorem asub_int (a b : Int) : augO .Sub (.int a) (.int b) h = some (.int (a - b)) := rfl
@[simp] theorem adiv_int (a b : Int) : augO .FloorDiv (.int a) (.int b) h = if divOk b then some (.int (a / b)) else none := rfl
@[simp] theorem aadd_str (a b : List Nat) : augO .Add (.str a) (.str b) h = if a.length + b.length ≤ line then some (.str (a ++ b)) else none := rfl
@[simp] theorem neg_int (a : Int) : negO (.int a) h = some (.int (-a)) := rfl
@[simp] theorem lt_int (a b : Int) : cmpV .Lt (.int a) (.int b) h = some (.bl (decide (a < b))) := rfl
@[simp] theorem le_int (a b : Int) : cmpV .LtE (.int a) (.int b) h = some (.bl (decide (a ≤ b))) := rfl
@[simp] theorem gt_int (a b : Int) : cmpV .Gt (.int a) (.int b) h = some (.bl (decide (b < a))) := rfl
@[simp] theorem ge_int (a b : Int) : cmpV .GtE (.int a) (.int b) h = some (.bl (decide (b ≤ a))) := rfl
@[simp] theorem is_non (a : PV) : cmpV .Is a .non h = some (.bl (decide (a = .non))) := by simp [cmpV, cmpO]
@[simp] theorem isnot_non (a : PV) : cmpV .IsNot a .non h = some (.bl (!decide (a = .non))) := by simp [cmpV, cmpO]
theorem dec_inj {α β : Type} [DecidableEq α] [DecidableEq β] {f : α → β} (hf : ∀ a b, f a = f b → a = b) (a b : α) : decide (f a = f b) = decide (a = b) := by
  by_cases e : a = b
  · rw [decide_eq_true e, decide_eq_true (congrArg f e)]
  · rw [decide_eq_false e, decide_eq_false fun z => e (hf a b z)]
@[simp] theorem eq_int (a b : Int) : cmpV .Eq (.int a) (.int b) h = some (.bl (decide (a = b))) := by
  show some (PV.bl (decide (PV.int a = PV.int b))) = _
  rw [dec_inj fun _ _ e => PV.int.inj e]
@[simp] theorem ne_int (a b : Int) : cmpV .NotEq (.int a) (.int b) h = some (.bl (!decide (a = b))) := by
  show some (PV.bl (!decide (PV.int a = PV.int b))) = _
  rw [dec_inj fun _ _ e => PV.int.inj e]
@[simp] theorem eq_str (a b : List Nat) : cmpV .Eq (.str a) (.str b) h = some (.bl (decide (a = b))) := by
  show some (PV.bl (decide (PV.str a = PV.str b))) = _
  rw [dec_inj fun _ _ e => PV.str.inj e]
@[simp] theorem ne_str (a b : List Nat) : cmpV .NotEq (.str a) (.str b) h = some (.bl (!decide (a = b))) := by
  show some (PV.bl (!decide (PV.str a = PV.str b))) = _
  rw [dec_inj fun _ _ e => PV.str.inj e]
theorem eq_plain {x y : PV} (hx : (look x h).plain = true) (hy : (look y h).plain = true) (nx : ∀ b, look x h ≠ .bl b) (dx : (look x h).dep ≤ 60) (dy : (look y h).dep ≤ 60) : cmpV .Eq x y h = some (.bl (decide (look x h = look y h))) := by
  show (eqO (look x h) (look y h)).map PV.bl = _
  have : eqO (look x h) (look y h) = some (decide (look x h = look y h)) := by
    unfold eqO
    split
    · rename_i a b e1 e2; exact absurd e1 (nx a)
    · rw [hx, hy, Nat.ble_eq.mpr dx, Nat.ble_eq.mpr dy]; rfl
  rw [this]; rfl
theorem ne_plain {x y : PV} (hx : (look x h).plain = true) (hy : (look y h).plain = true) (nx : ∀ b, look x h ≠ .bl b) (dx : (look x h).dep ≤ 60) (dy : (look y h).dep ≤ 60) : cmpV .NotEq x y h = some (.bl (!decide (look x h = look y h))) := by
  have e := eq_plain h hx hy nx dx dy
  show ((eqO (look x h) (look y h)).map (!·)).map PV.bl = _
  have e : (eqO (look x h) (look y h)).map PV.bl = some (.bl (decide (look x h = look y h))) := e
  cases q : eqO (look x h) (look y h) with
  | none => rw [q] at e; cases e
  | some b => rw [q] at e; cases e; rfl
@[simp] theorem in_str (a b : List Nat) : cmpV .In (.str a) (.str b) h = some (.bl (within a b)) := rfl
@[simp] theorem ix_str (s : List Nat) (i : Int) : ixO (.str s) (.int i) h = (itO s i).map fun c => .str [c] := rfl
@[simp] theorem ix_tup (s : List PV) (i : Int) : ixO (.tup s) (.int i) h = itO s i := rfl
@[simp] theorem ix_lst (s : List PV) (i : Int) : ixO (.lst s) (.int i) h = itO s i := rfl
theorem ix_refl {n : Nat} {l : List PV} {i : Int} {h : VH} (e : h[n]? = some (.lst l)) : ixO (.ref n) (.int i) h = itO l i := by
  unfold ixO asSeq asList
  simp only [e]
theorem ix_refd {n : Nat} {kvs : List (PV × PV)} {k : PV} {h : VH} (e : h[n]? = some (.dct kvs)) : ixO (.ref n) k h = if keyOk k then kget kvs k else none := by
  unfold ixO asSeq asList asDict
  simp only [e]
@[simp] theorem sl_str (s : List Nat) (lo hi : Option Int) : slO (.str s) lo hi h = some (.str (cut s lo hi)) := rfl
@[simp] theorem sl_lst (s : List PV) (lo hi : Option Int) : slO (.lst s) lo hi h = some (.lst (cut s lo hi)) := rfl
theorem sl_refl {n : Nat} {l : List PV} {lo hi : Option Int} {h : VH} (e : h[n]? = some (.lst l)) : slO (.ref n) lo hi h = some (.lst (cut l lo hi)) := by
  unfold slO asList
  simp only [e]
  rfl
@[simp] theorem truth_bl (b : Bool) : truth (.bl b) h = .ok b h := rfl
@[simp] theorem truth_str (b : List Nat) : truth (.str b) h = .ok (!b.isEmpty) h := rfl
@[simp] theorem truth_int (b : Int) : truth (.int b) h = .ok (b != 0) h := rfl
@[simp] theorem truth_non : truth .non h = .ok false h := rfl
@[simp] theorem len_str (s : List Nat) : bLen [.str s] h = some (.int s.length) := rfl
@[simp] theorem len_tup (s : List PV) : bLen [.tup s] h = some (.int s.length) := rfl
@[simp] theorem len_lst (s : List PV) : bLen [.lst s] h = some (.int s.length) := rfl
theorem len_ref {n : Nat} {l : List PV} {h : VH} (e : h[n]? = some (.lst l)) : bLen [.ref n] h = some (.int l.length) := by
  unfold bLen asSeq asList
  simp only [e]
@[simp] theorem ord_1 (c : Nat) : bOrd [.str [c]] h = some (.int c) := rfl
@[simp] theorem abs_1 (i : Int) : bAbs [.int i] h = some (.int (if i < 0 then -i else i)) := rfl
@[simp] theorem int_1 (i : Int) : bInt [.int i] h = some (.int i) := rfl
@[simp] theorem str_1 (i : Int) : bStr [.int i] h = if strOk i then some (.str (numS i.toNat)) else none := rfl
@[simp] theorem sum_1 (l : List PV) : bSum [.lst l] h = (intsOf l).map fun is => .int is.sum := rfl
@[simp] theorem any_1 (l : List PV) : bAny [.lst l] h = (blsOf l).map fun bs => .bl (bs.any id) := rfl
@[simp] theorem all_1 (l : List PV) : bAll [.lst l] h = (blsOf l).map fun bs => .bl (bs.all id) := rfl
theorem tuple_ref {n : Nat} {l : List PV} {h : VH} (e : h[n]? = some (.lst l)) : bTuple [.ref n] h = some (.tup l) := by
  unfold bTuple asList
  simp only [e]
  rfl
theorem list_ref {n : Nat} {l : List PV} {h : VH} (e : h[n]? = some (.lst l)) : bList [.ref n] h = some l := by
  unfold bList asSeq asList
  simp only [e]
@[simp] theorem isi_ss (a : List Nat) : isiO "str" (.str a) = some (.bl true) := rfl
@[simp] theorem isi_st (a : List PV) : isiO "str" (.tup a) = some (.bl false) := rfl
@[simp] theorem isi_tt (a : List PV) : isiO "tuple" (.tup a) = some (.bl true) := rfl
@[simp] theorem isi_ts (a : List Nat) : isiO "tuple" (.str a) = some (.bl false) := rfl
@[simp] theorem mIsi_e (t : String) (a : EM) (σ : Sl) : mIsi t a σ h = (a σ h).bnd fun x h1 => retO (isiO t x) h1 := rfl
@[simp] theorem keyOk_str (a : List Nat) : keyOk (.str a) = true := rfl
@[simp] theorem keyOk_int (a : Int) : keyOk (.int a) = true := rfl
/-! methods -/
theorem bm_list {B : Bm} {o : EM} {as : AM} {σ : Sl} {h : VH} {n : Nat} {l : List PV} {vs : List PV} (eo : o σ h = .ok (.ref n) h) (e : h[n]? = some (.lst l)) (ea : as σ h = .ok vs h) : mMeth noC ["list"] B o as σ h = retH (B (.ref n) vs h) := by
  rw [mMethB_e, eo]
  simp only [calm_ok, R.bnd_ok]
  have e1 : clsOf (.ref n) h = none := by unfold clsOf; simp only [e]
  have e2 : kind (.ref n) h = "list" := by unfold kind; simp only [e]
  rw [e1, e2]
  simp [ea, e2]
theorem bm_dict {B : Bm} {o : EM} {as : AM} {σ : Sl} {h : VH} {n : Nat} {l : List (PV × PV)} {vs : List PV} (eo : o σ h = .ok (.ref n) h) (e : h[n]? = some (.dct l)) (ea : as σ h = .ok vs h) : mMeth noC ["dict"] B o as σ h = retH (B (.ref n) vs h) := by
  rw [mMethB_e, eo]
  simp only [calm_ok, R.bnd_ok]
  have e1 : clsOf (.ref n) h = none := by unfold clsOf; simp only [e]
  have e2 : kind (.ref n) h = "dict" := by unfold kind; simp only [e]
  rw [e1, e2]
  simp [ea, e2]
theorem bm_str {B : Bm} {o : EM} {as : AM} {σ : Sl} {h h1 : VH} {s : List Nat} {vs : List PV} (eo : o σ h = .ok (.str s) h) (ea : as σ h = .ok vs h1) : mMeth noC ["str"] B o as σ h = retH (B (.str s) vs h1) := by
  rw [mMethB_e, eo]
  simp only [calm_ok, R.bnd_ok]
  have e1 : ∀ h, clsOf (.str s) h = none := fun _ => rfl
  have e2 : ∀ h, kind (.str s) h = "str" := fun _ => rfl
  simp [e1, e2, ea]
theorem append_ref {n : Nat} {l : List PV} {v : PV} {h : VH} (e : h[n]? = some (.lst l)) (hl : l.length < line) : bAppend (.ref n) [v] h = some (.non, h.set n (.lst (l ++ [v]))) := by
  unfold bAppend
  simp only [e]
  rw [if_pos (Nat.blt_eq.mpr hl)]
  rfl
/-- append, in a list that something else may have met in between -/
theorem bm_append {o : EM} {as : AM} {σ : Sl} {h h1 : VH} {n : Nat} {l l1 : List PV} {v : PV} (eo : o σ h = .ok (.ref n) h) (e : h[n]? = some (.lst l)) (ea : as σ h = .ok [v] h1) (e1 : h1[n]? = some (.lst l1)) (hl : l1.length < line) :
    mMeth noC ["list"] bAppend o as σ h = .ok .non (h1.set n (.lst (l1 ++ [v]))) := by
  rw [mMethB_e, eo]
  simp only [calm_ok, R.bnd_ok]
  have c1 : clsOf (.ref n) h = none := by unfold clsOf; simp only [e]
  have c2 : kind (.ref n) h = "list" := by unfold kind; simp only [e]
  have c3 : kind (.ref n) h1 = "list" := by unfold kind; simp only [e1]
  rw [c1, c2]
  simp [ea, c3, append_ref e1 hl]
end
theorem run_ret {np n : Nat} {b : SM} {vs : List PV} {h h' : VH} {v : PV} (hl : vs.length = np) (e : b (startS n vs) h = .ret v h') : runDef np n b vs h = .ok v h' := by
  unfold runDef
  rw [if_pos hl, e]
theorem run_nx {np n : Nat} {b : SM} {vs : List PV} {h h' : VH} {σ : Sl} (hl : vs.length = np) (e : b (startS n vs) h = .nx σ h') : runDef np n b vs h = .ok .non h' := by
  unfold runDef
  rw [if_pos hl, e]
theorem run_exc {np n : Nat} {b : SM} {vs : List PV} {h h' : VH} {σ : Sl} {c : Nat} {fs : List (Nat × PV)} (hl : vs.length = np) (e : b (startS n vs) h = .exc c fs σ h') : runDef np n b vs h = .exc c fs h' := by
  unfold runDef
  rw [if_pos hl, e]
end Y

set_option maxHeartbeats 4000000
namespace Y.k29
open PySem PySem.Spec PyProof.Rows L2 Y
def top (i : Nat) : Stmt := PySem.Challenge.pw_sameinsameout_k29_whole_patches_of_known.main.body.getD i (.Pass ⟨0, 0, 0, 0⟩)
/-! ### the texts that stand in the program -/
abbrev t_0123456789ab : PV := .str [48, 49, 50, 51, 52, 53, 54, 55, 56, 57, 97, 98, 99, 100, 101, 102]
theorem t_0123456789ab_l : Lit "0123456789abcdef" [48, 49, 50, 51, 52, 53, 54, 55, 56, 57, 97, 98, 99, 100, 101, 102] := lit (by decide +kernel)
abbrev t_ABC : PV := .str [65, 66, 67]
theorem t_ABC_l : Lit "ABC" [65, 66, 67] := lit (by decide +kernel)
abbrev t_ab : PV := .str [97, 98]
theorem t_ab_l : Lit "ab" [97, 98] := lit (by decide +kernel)
abbrev t_at : PV := .str [97, 116]
theorem t_at_l : Lit "at" [97, 116] := lit (by decide +kernel)
abbrev t_cells : PV := .str [99, 101, 108, 108, 115]
theorem t_cells_l : Lit "cells" [99, 101, 108, 108, 115] := lit (by decide +kernel)
abbrev t_left : PV := .str [108, 101, 102, 116]
theorem t_left_l : Lit "left" [108, 101, 102, 116] := lit (by decide +kernel)
abbrev t_salt : PV := .str [115, 97, 108, 116]
theorem t_salt_l : Lit "salt" [115, 97, 108, 116] := lit (by decide +kernel)
abbrev t_seed : PV := .str [115, 101, 101, 100]
theorem t_seed_l : Lit "seed" [115, 101, 101, 100] := lit (by decide +kernel)
abbrev t_x0 : PV := .str []
theorem t_x0_l : Lit "" [] := lit (by decide +kernel)
abbrev t_x7 : PV := .str [124]
theorem t_x7_l : Lit "|" [124] := lit (by decide +kernel)
/-! ### the values of the top -/
abbrev g_BASE : PV := .int 2000003
abbrev g_BLOCK : PV := .int 8
abbrev g_PRIME : PV := .int 2305843009213693951
abbrev g_SIGNS : PV := .str [48, 49, 50, 51, 52, 53, 54, 55, 56, 57, 97, 98, 99, 100, 101, 102]
def cs_NoPatch : Nat → Option Bool := fun n => if n = 0 then some true else none
/-- what the top has written -/
structure Txt (K : PySem.W.Frag) (mg : Str → Option Value) (T : Tab) (C_NoPatch : Addr) : Prop where
  tok : T.Ok K
  g_BASE : Glb K mg "BASE" g_BASE
  g_BLOCK : Glb K mg "BLOCK" g_BLOCK
  g_PRIME : Glb K mg "PRIME" g_PRIME
  g_SIGNS : Glb K mg "SIGNS" g_SIGNS
  b_abs : mg "abs" = none
  b_any : mg "any" = none
  b_int : mg "int" = none
  b_isinstance : mg "isinstance" = none
  b_len : mg "len" = none
  b_list : mg "list" = none
  b_ord : mg "ord" = none
  b_range : mg "range" = none
  b_str : mg "str" = none
  b_sum : mg "sum" = none
  b_tuple : mg "tuple" = none
  e_NoPatch : EOk K mg T "NoPatch" 0
  n_NoPatch : mg "NoPatch" = some (.ref C_NoPatch)
  x_NoPatch : Caught K T (.ref C_NoPatch) cs_NoPatch
section
variable {P : Program} {w : World} {K : PySem.W.Frag} {mg : Str → Option Value} {base : Heap} {T : Tab} {C_NoPatch : Addr}
/-! #### number_of -/
abbrev s_number_of : Stmt := top 4
theorem sc_number_of : FnScope ["text", "found", "char"] ["text"] (defScope s_number_of) := ⟨rfl, rfl, rfl, by decide +kernel, rfl, by decide +kernel, by decide +kernel⟩
noncomputable def m_number_of_0 : SM := sAsg (mOp2 (binO .Add) (mBi bLen (mCons (mVar 0) mNil)) (mC (.int 7))) (tName 1)
noncomputable def m_number_of_1_b : SM := sAsg (mOp2 (binO .Mod) (mOp2 (binO .Add) (mOp2 (binO .Mult) (mVar 1) (mC g_BASE)) (mBi bOrd (mCons (mVar 2) mNil))) (mC g_PRIME)) (tName 1)
noncomputable def m_number_of_1 : SM := sFor (mIter (mVar 0)) (tName 2) m_number_of_1_b
noncomputable def m_number_of_2 : SM := sRet (mVar 1)
noncomputable def m_number_of : SM := sSeq m_number_of_0 (sSeq m_number_of_1 m_number_of_2)
noncomputable def F_number_of : Fn := runDef 1 3 m_number_of
theorem ok_number_of {f : Addr} {fd : FuncData} (F : L2.Fun K "number_of" "number_of" s_number_of f fd) (G : Txt K mg T C_NoPatch) : FnOk P w K mg base (L2.CX P w) 1 f fd ["text"] (spF T K F_number_of) :=
  does (k := 0) F sc_number_of G.tok rfl rfl fun cdv A outer s H E c =>
    cons (sset c 1 (bin .Add (biLen G.b_len (ac (v 0) an)) e_int)) (cons (sfor c (it (v 0)) (gn c 2) (one (sset c 1 (bin .Mod (bin .Add (bin .Mult (v 1) (glb G.g_BASE)) (biOrd G.b_ord (ac (v 2) an))) (glb G.g_PRIME))))) (one (ret (v 1))))
/-! #### digest -/
abbrev s_digest : Stmt := top 5
theorem sc_digest : FnScope ["text", "number", "found", "_"] ["text"] (defScope s_digest) := ⟨rfl, rfl, rfl, by decide +kernel, rfl, by decide +kernel, by decide +kernel⟩
noncomputable def m_digest_0 : SM := sPar2 1 2 (mCons (mCall F_number_of (mCons (mVar 0) mNil)) (mCons (mC t_x0) mNil))
noncomputable def m_digest_1_b_0 : SM := sAsg (mOp2 (binO .Add) (mOp2 ixO (mC g_SIGNS) (mOp2 (binO .Mod) (mVar 1) (mC (.int 16)))) (mVar 2)) (tName 2)
noncomputable def m_digest_1_b_1 : SM := sAug 1 (augO .FloorDiv) (mC (.int 16))
noncomputable def m_digest_1_b : SM := sSeq m_digest_1_b_0 m_digest_1_b_1
noncomputable def m_digest_1 : SM := sFor (mRange (mCons (mC (.int 16)) mNil)) (tName 3) m_digest_1_b
noncomputable def m_digest_2 : SM := sRet (mVar 2)
noncomputable def m_digest : SM := sSeq m_digest_0 (sSeq m_digest_1 m_digest_2)
noncomputable def F_digest : Fn := runDef 1 4 m_digest
theorem ok_digest {f : Addr} {fd : FuncData} (F : L2.Fun K "digest" "digest" s_digest f fd) (G : Txt K mg T C_NoPatch) (c_number_of : Cal P w K mg base T 1 "number_of" F_number_of) : FnOk P w K mg base (L2.CX P w) 2 f fd ["text"] (spF T K F_digest) :=
  does (k := 1) F sc_digest G.tok rfl rfl fun cdv A outer s H E c =>
    cons (par2 c 1 2 (ac (call c c_number_of (ac (v 0) an)) (ac (str t_x0_l) an))) (cons (sfor c (rng1 G.b_range e_int) (gn c 3) (cons (sset c 2 (bin .Add (ix c (glb G.g_SIGNS) (bin .Mod (v 1) e_int)) (v 2))) (one (saug c 1 .FloorDiv e_int)))) (one (ret (v 2))))
/-! #### patch -/
abbrev s_patch : Stmt := top 11
theorem sc_patch : FnScope ["old", "new", "places", "start", "parts", "plain", "at", "size"] ["old", "new"] (defScope s_patch) := ⟨rfl, rfl, rfl, by decide +kernel, rfl, by decide +kernel, by decide +kernel⟩
noncomputable def m_patch_0 : SM := sAsg (mRegD mPNil) (tName 2)
noncomputable def m_patch_1_b : SM := sExpr (mMeth noC ["dict"] bSetdefault (mVar 2) (mCons (mSl (mVar 0) (mPart (mVar 3)) (mPart (mOp2 (binO .Add) (mVar 3) (mC g_BLOCK)))) (mCons (mVar 3) mNil)))
noncomputable def m_patch_1 : SM := sFor (mRange (mCons (mOp2 (binO .Add) (mOp2 (binO .Sub) (mBi bLen (mCons (mVar 0) mNil)) (mC g_BLOCK)) (mC (.int 1))) mNil)) (tName 3) m_patch_1_b
noncomputable def m_patch_2 : SM := sPar3 4 5 6 (mCons (mReg (mNewL mNil)) (mCons (mC t_x0) (mCons (mC (.int 0)) mNil)))
noncomputable def m_patch_3_b_0 : SM := sAsg (mMeth noC ["dict"] bGet (mVar 2) (mCons (mSl (mVar 1) (mPart (mVar 6)) (mPart (mOp2 (binO .Add) (mVar 6) (mC g_BLOCK)))) mNil)) (tName 3)
noncomputable def m_patch_3_b_1 : SM := sIf (mTest (mOp2 (cmpV .Is) (mVar 3) (mC .non))) (sSeq (sAug 5 (augO .Add) (mOp2 ixO (mVar 1) (mVar 6))) (sSeq (sAug 6 (augO .Add) (mC (.int 1))) sCnt)) sSkip
noncomputable def m_patch_3_b_2 : SM := sAsg (mC g_BLOCK) (tName 7)
noncomputable def m_patch_3_b_3_b : SM := sAug 7 (augO .Add) (mC (.int 1))
noncomputable def m_patch_3_b_3 : SM := sWhile (mAnd (mTest (mOp2 (cmpV .Lt) (mOp2 (binO .Add) (mVar 6) (mVar 7)) (mBi bLen (mCons (mVar 1) mNil)))) (mAnd (mTest (mOp2 (cmpV .Lt) (mOp2 (binO .Add) (mVar 3) (mVar 7)) (mBi bLen (mCons (mVar 0) mNil)))) (mTest (mOp2 (cmpV .Eq) (mOp2 ixO (mVar 1) (mOp2 (binO .Add) (mVar 6) (mVar 7))) (mOp2 ixO (mVar 0) (mOp2 (binO .Add) (mVar 3) (mVar 7))))))) m_patch_3_b_3_b
noncomputable def m_patch_3_b_4 : SM := sIf (mTruth (mVar 5)) (sSeq (sExpr (mMeth noC ["list"] bAppend (mVar 4) (mCons (mVar 5) mNil))) (sAsg (mC t_x0) (tName 5))) sSkip
noncomputable def m_patch_3_b_5 : SM := sExpr (mMeth noC ["list"] bAppend (mVar 4) (mCons (mTup (mCons (mVar 3) (mCons (mVar 7) mNil))) mNil))
noncomputable def m_patch_3_b_6 : SM := sAug 6 (augO .Add) (mVar 7)
noncomputable def m_patch_3_b : SM := sSeq m_patch_3_b_0 (sSeq m_patch_3_b_1 (sSeq m_patch_3_b_2 (sSeq m_patch_3_b_3 (sSeq m_patch_3_b_4 (sSeq m_patch_3_b_5 m_patch_3_b_6)))))
noncomputable def m_patch_3 : SM := sWhile (mTest (mOp2 (cmpV .Lt) (mVar 6) (mBi bLen (mCons (mVar 1) mNil)))) m_patch_3_b
noncomputable def m_patch_4 : SM := sIf (mTruth (mVar 5)) (sExpr (mMeth noC ["list"] bAppend (mVar 4) (mCons (mVar 5) mNil))) sSkip
noncomputable def m_patch_5 : SM := sRet (mTup (mCons (mTup (mCons (mCall F_digest (mCons (mVar 0) mNil)) (mCons (mCall F_digest (mCons (mVar 1) mNil)) mNil))) (mCons (mBi bTuple (mCons (mVar 4) mNil)) mNil)))
noncomputable def m_patch : SM := sSeq m_patch_0 (sSeq m_patch_1 (sSeq m_patch_2 (sSeq m_patch_3 (sSeq m_patch_4 m_patch_5))))
noncomputable def F_patch : Fn := runDef 2 8 m_patch
theorem ok_patch {f : Addr} {fd : FuncData} (F : L2.Fun K "patch" "patch" s_patch f fd) (G : Txt K mg T C_NoPatch) (c_digest : Cal P w K mg base T 2 "digest" F_digest) : FnOk P w K mg base (L2.CX P w) 3 f fd ["old", "new"] (spF T K F_patch) :=
  does (k := 2) F sc_patch G.tok rfl rfl fun cdv A outer s H E c =>
    cons (sset c 2 dct0) (cons (sfor c (rng1 G.b_range (bin .Add (bin .Sub (biLen G.b_len (ac (v 0) an)) (glb G.g_BLOCK)) e_int)) (gn c 3) (one (ex c (bm1 c (ks := ["dict"]) (fun k hk => by rw [List.mem_singleton.mp hk]; exact bok_setdefault) (v 2) (ac (sl (v 0) (o_some (v 3)) (o_some (bin .Add (v 3) (glb G.g_BLOCK)))) (ac (v 3) an)) _)))) (cons (par3 c 4 5 6 (ac (lstR an) (ac (str t_x0_l) (ac e_int an)))) (cons (swh c (tcmp c .Lt (v 6) (biLen G.b_len (ac (v 1) an))) (cons (sset c 3 (bm1 c (ks := ["dict"]) (fun k hk => by rw [List.mem_singleton.mp hk]; exact (bok_get c)) (v 2) (ac (sl (v 1) (o_some (v 6)) (o_some (bin .Add (v 6) (glb G.g_BLOCK)))) an) _)) (cons (sif (tcmp c .Is (v 3) e_non) (cons (saug c 5 .Add (ix c (v 1) (v 6))) (cons (saug c 6 .Add e_int) (one cnt))) nil) (cons (sset c 7 (glb G.g_BLOCK)) (cons (swh c (PW.pt (ta (tcmp c .Lt (bin .Add (v 6) (v 7)) (biLen G.b_len (ac (v 1) an))) (ta (tcmp c .Lt (bin .Add (v 3) (v 7)) (biLen G.b_len (ac (v 0) an))) (ta1 (tcmp c .Eq (ix c (v 1) (bin .Add (v 6) (v 7))) (ix c (v 0) (bin .Add (v 3) (v 7)))))))) (one (saug c 7 .Add e_int))) (cons (sif (tr (v 5)) (cons (ex c (bm1 c (ks := ["list"]) (fun k hk => by rw [List.mem_singleton.mp hk]; exact bok_append) (v 4) (ac (v 5) an) _)) (one (sset c 5 (str t_x0_l)))) nil) (cons (ex c (bm1 c (ks := ["list"]) (fun k hk => by rw [List.mem_singleton.mp hk]; exact bok_append) (v 4) (ac (tup (ac (v 3) (ac (v 7) an))) an) _)) (one (saug c 6 .Add (v 7)))))))))) (cons (sif (tr (v 5)) (one (ex c (bm1 c (ks := ["list"]) (fun k hk => by rw [List.mem_singleton.mp hk]; exact bok_append) (v 4) (ac (v 5) an) _))) nil) (one (ret (tup (ac (tup (ac (call c c_digest (ac (v 0) an)) (ac (call c c_digest (ac (v 1) an)) an))) (ac (biTuple G.b_tuple (ac (v 4) an)) an)))))))))
/-! #### patched -/
abbrev s_patched : Stmt := top 12
theorem sc_patched : FnScope ["old", "told", "before", "after", "parts", "found", "part", "start", "size"] ["old", "told"] (defScope s_patched) := ⟨rfl, rfl, rfl, by decide +kernel, rfl, by decide +kernel, by decide +kernel⟩
noncomputable def m_patched_0 : SM := sAsg (mVar 1) (tTup (tCons (tTup (tCons (tName 2) (tCons (tName 3) tNil))) (tCons (tName 4) tNil)))
noncomputable def m_patched_1 : SM := sIf (mTest (mOp2 (cmpV .NotEq) (mCall F_digest (mCons (mVar 0) mNil)) (mVar 2))) (sRaise0 0) sSkip
noncomputable def m_patched_2 : SM := sAsg (mC t_x0) (tName 5)
noncomputable def m_patched_3_b : SM := sIf (mTruth (mIsi "str" (mVar 6))) (sAug 5 (augO .Add) (mVar 6)) (sSeq (sAsg (mVar 6) (tTup (tCons (tName 7) (tCons (tName 8) tNil)))) (sSeq (sIf (mOr (mTest (mOp2 (cmpV .Lt) (mVar 7) (mC (.int 0)))) (mOr (mTest (mOp2 (cmpV .Lt) (mVar 8) (mC (.int 1)))) (mTest (mOp2 (cmpV .Gt) (mOp2 (binO .Add) (mVar 7) (mVar 8)) (mBi bLen (mCons (mVar 0) mNil)))))) (sRaise0 0) sSkip) (sAug 5 (augO .Add) (mSl (mVar 0) (mPart (mVar 7)) (mPart (mOp2 (binO .Add) (mVar 7) (mVar 8)))))))
noncomputable def m_patched_3 : SM := sFor (mIter (mVar 4)) (tName 6) m_patched_3_b
noncomputable def m_patched_4 : SM := sIf (mTest (mOp2 (cmpV .NotEq) (mCall F_digest (mCons (mVar 5) mNil)) (mVar 3))) (sRaise0 0) sSkip
noncomputable def m_patched_5 : SM := sRet (mVar 5)
noncomputable def m_patched : SM := sSeq m_patched_0 (sSeq m_patched_1 (sSeq m_patched_2 (sSeq m_patched_3 (sSeq m_patched_4 m_patched_5))))
noncomputable def F_patched : Fn := runDef 2 9 m_patched
theorem ok_patched {f : Addr} {fd : FuncData} (F : L2.Fun K "patched" "patched" s_patched f fd) (G : Txt K mg T C_NoPatch) (c_digest : Cal P w K mg base T 2 "digest" F_digest) : FnOk P w K mg base (L2.CX P w) 3 f fd ["old", "told"] (spF T K F_patched) :=
  does (k := 2) F sc_patched G.tok rfl rfl fun cdv A outer s H E c =>
    cons (asg (v 1) (gtup c (gcons (gtup c (gcons (gn c 2) (gcons (gn c 3) gnil)) (by rfl) (tcons_len (tcons_len tnil_len))) (gcons (gn c 4) gnil)) (by rfl) (tcons_len (tcons_len tnil_len)))) (cons (sif (tcmp c .NotEq (call c c_digest (ac (v 0) an)) (v 2)) (one (raise0 c G.e_NoPatch)) nil) (cons (sset c 5 (str t_x0_l)) (cons (sfor c (it (v 4)) (gn c 6) (one (sif (tr (isiS G.b_isinstance G.b_str (v 6))) (one (saug c 5 .Add (v 6))) (cons (asg (v 6) (gtup c (gcons (gn c 7) (gcons (gn c 8) gnil)) (by rfl) (tcons_len (tcons_len tnil_len)))) (cons (sif (PW.pt (to (tcmp c .Lt (v 7) e_int) (to (tcmp c .Lt (v 8) e_int) (to1 (tcmp c .Gt (bin .Add (v 7) (v 8)) (biLen G.b_len (ac (v 0) an))))))) (one (raise0 c G.e_NoPatch)) nil) (one (saug c 5 .Add (sl (v 0) (o_some (v 7)) (o_some (bin .Add (v 7) (v 8))))))))))) (cons (sif (tcmp c .NotEq (call c c_digest (ac (v 5) an)) (v 3)) (one (raise0 c G.e_NoPatch)) nil) (one (ret (v 5)))))))
/-! #### patch_size -/
abbrev s_patch_size : Stmt := top 13
theorem sc_patch_size : FnScope ["told", "part"] ["told"] (defScope s_patch_size) := ⟨rfl, rfl, rfl, by decide +kernel, rfl, by decide +kernel, by decide +kernel⟩
noncomputable def m_patch_size : SM := sRet (mBi bSum (mCons (mFz (mLc (mIter (mOp2 ixO (mVar 0) (mC (.int 1)))) (tName 1) mYes (mIf (mTruth (mIsi "str" (mVar 1))) (mBi bLen (mCons (mVar 1) mNil)) (mC g_BLOCK)) [1])) mNil))
noncomputable def F_patch_size : Fn := runDef 1 2 m_patch_size
theorem ok_patch_size {f : Addr} {fd : FuncData} (F : L2.Fun K "patch_size" "patch_size" s_patch_size f fd) (G : Txt K mg T C_NoPatch) : FnOk P w K mg base (L2.CX P w) 1 f fd ["told"] (spF T K F_patch_size) :=
  does (k := 0) F sc_patch_size G.tok rfl rfl fun cdv A outer s H E c =>
    one (ret (biSum c G.b_sum (ac (e_fz (lc c (own := [(("part" : Str), 1)]) (it (ix c (v 0) e_int)) (by kernel_rfl) (fun _ _ _ _ _ => gn c.blk 1) (fun _ _ _ _ _ => yes) (fun _ _ _ _ _ => ife (tr (isiS G.b_isinstance G.b_str (v 1))) (biLen G.b_len (ac (v 1) an)) (glb G.g_BLOCK)))) an)))
/-! #### joined_patches -/
abbrev s_joined_patches : Stmt := top 14
theorem sc_joined_patches : FnScope ["old", "row", "told"] ["old", "row"] (defScope s_joined_patches) := ⟨rfl, rfl, rfl, by decide +kernel, rfl, by decide +kernel, by decide +kernel⟩
noncomputable def m_joined_patches_0_b : SM := sAsg (mCall F_patched (mCons (mVar 0) (mCons (mVar 2) mNil))) (tName 0)
noncomputable def m_joined_patches_0 : SM := sFor (mIter (mVar 1)) (tName 2) m_joined_patches_0_b
noncomputable def m_joined_patches_1 : SM := sRet (mVar 0)
noncomputable def m_joined_patches : SM := sSeq m_joined_patches_0 m_joined_patches_1
noncomputable def F_joined_patches : Fn := runDef 2 3 m_joined_patches
theorem ok_joined_patches {f : Addr} {fd : FuncData} (F : L2.Fun K "joined_patches" "joined_patches" s_joined_patches f fd) (G : Txt K mg T C_NoPatch) (c_patched : Cal P w K mg base T 3 "patched" F_patched) : FnOk P w K mg base (L2.CX P w) 4 f fd ["old", "row"] (spF T K F_joined_patches) :=
  does (k := 3) F sc_joined_patches G.tok rfl rfl fun cdv A outer s H E c =>
    cons (sfor c (it (v 1)) (gn c 2) (one (sset c 0 (call c c_patched (ac (v 0) (ac (v 2) an)))))) (one (ret (v 0)))
/-! #### _law_tape -/
abbrev s__law_tape : Stmt := top 16
theorem sc__law_tape : FnScope ["script", "cell", "cells", "seed"] ["script"] (defScope s__law_tape) := ⟨rfl, rfl, rfl, by decide +kernel, rfl, by decide +kernel, by decide +kernel⟩
noncomputable def m__law_tape_0 : SM := sAsg (mFz (mLc (mIter (mVar 0)) (tName 1) mYes (mBi bAbs (mCons (mBi bInt (mCons (mVar 1) mNil)) mNil)) [1])) (tName 2)
noncomputable def m__law_tape_1 : SM := sAsg (mC (.int 7)) (tName 3)
noncomputable def m__law_tape_2_b : SM := sAsg (mOp2 (binO .Mod) (mBi bInt (mCons (mOp2 (binO .Add) (mOp2 (binO .Mult) (mVar 3) (mC (.int 31))) (mVar 1)) mNil)) (mC (.int 2147483647))) (tName 3)
noncomputable def m__law_tape_2 : SM := sFor (mIter (mVar 2)) (tName 1) m__law_tape_2_b
noncomputable def m__law_tape_3 : SM := sRet (mRegD (mDisp (mPCons (mC t_cells) (mVar 2) (mPCons (mC t_at) (mC (.int 0)) (mPCons (mC t_left) (mC (.int 0)) (mPCons (mC t_seed) (mVar 3) (mPCons (mC t_salt) (mC (.int 0)) mPNil)))))))
noncomputable def m__law_tape : SM := sSeq m__law_tape_0 (sSeq m__law_tape_1 (sSeq m__law_tape_2 m__law_tape_3))
noncomputable def F__law_tape : Fn := runDef 1 4 m__law_tape
theorem ok__law_tape {f : Addr} {fd : FuncData} (F : L2.Fun K "_law_tape" "_law_tape" s__law_tape f fd) (G : Txt K mg T C_NoPatch) : FnOk P w K mg base (L2.CX P w) 1 f fd ["script"] (spF T K F__law_tape) :=
  does (k := 0) F sc__law_tape G.tok rfl rfl fun cdv A outer s H E c =>
    cons (ssetLcF c 2 (own := [(("cell" : Str), 1)]) (it (v 0)) (by kernel_rfl) (fun _ _ _ _ _ => gn c.blk 1) (fun _ _ _ _ _ => yes) (fun _ _ _ _ _ => biAbs G.b_abs (ac (biInt G.b_int (ac (v 1) an)) an))) (cons (sset c 3 e_int) (cons (sfor c (it (v 2)) (gn c 1) (one (sset c 3 (bin .Mod (biInt G.b_int (ac (bin .Add (bin .Mult (v 3) e_int) (v 1)) an)) e_int)))) (one (ret (disp (dpc (str t_cells_l) (v 2) (dpc (str t_at_l) e_int (dpc (str t_left_l) e_int (dpc (str t_seed_l) (v 3) (dpc (str t_salt_l) e_int dpn))))))))))
/-! #### _law_take -/
abbrev s__law_take : Stmt := top 17
theorem sc__law_take : FnScope ["tape", "many", "drawn", "mixed"] ["tape", "many"] (defScope s__law_take) := ⟨rfl, rfl, rfl, by decide +kernel, rfl, by decide +kernel, by decide +kernel⟩
noncomputable def m__law_take_0 : SM := sIf (mAnd (mTest (mOp2 (cmpV .Eq) (mOp2 ixO (mVar 0) (mC t_left)) (mC (.int 0)))) (mTest (mOp2 (cmpV .Lt) (mOp2 ixO (mVar 0) (mC t_at)) (mBi bLen (mCons (mOp2 ixO (mVar 0) (mC t_cells)) mNil))))) (sSeq (sAsg (mOp2 ixO (mOp2 ixO (mVar 0) (mC t_cells)) (mOp2 ixO (mVar 0) (mC t_at))) (tSub (mVar 0) (mC t_left))) (sAsg (mOp2 (binO .Add) (mOp2 ixO (mVar 0) (mC t_at)) (mC (.int 1))) (tSub (mVar 0) (mC t_at)))) sSkip
noncomputable def m__law_take_1 : SM := sIf (mTest (mOp2 (cmpV .Gt) (mOp2 ixO (mVar 0) (mC t_left)) (mC (.int 0)))) (sSeq (sAsg (mOp2 (binO .Mod) (mBi bInt (mCons (mOp2 ixO (mVar 0) (mC t_left)) mNil)) (mVar 1)) (tName 2)) (sSeq (sAsg (mOp2 (binO .FloorDiv) (mOp2 ixO (mVar 0) (mC t_left)) (mVar 1)) (tSub (mVar 0) (mC t_left))) (sRet (mVar 2)))) sSkip
noncomputable def m__law_take_2 : SM := sAsg (mOp2 (binO .Add) (mOp2 ixO (mVar 0) (mC t_salt)) (mC (.int 1))) (tSub (mVar 0) (mC t_salt))
noncomputable def m__law_take_3 : SM := sAsg (mOp2 (binO .Mod) (mBi bInt (mCons (mOp2 (binO .Add) (mOp2 (binO .Mult) (mOp2 ixO (mVar 0) (mC t_seed)) (mC (.int 48271))) (mOp2 (binO .Mult) (mOp2 ixO (mVar 0) (mC t_salt)) (mC (.int 69621)))) mNil)) (mC (.int 2147483647))) (tName 3)
noncomputable def m__law_take_4 : SM := sAsg (mOp2 (binO .Mod) (mBi bInt (mCons (mOp2 (binO .Add) (mOp2 (binO .Add) (mOp2 (binO .Mult) (mVar 3) (mVar 3)) (mOp2 (binO .Mult) (mOp2 ixO (mVar 0) (mC t_salt)) (mC (.int 40692)))) (mC (.int 12345))) mNil)) (mC (.int 2147483399))) (tName 3)
noncomputable def m__law_take_5 : SM := sRet (mOp2 (binO .Mod) (mBi bInt (mCons (mVar 3) mNil)) (mVar 1))
noncomputable def m__law_take : SM := sSeq m__law_take_0 (sSeq m__law_take_1 (sSeq m__law_take_2 (sSeq m__law_take_3 (sSeq m__law_take_4 m__law_take_5))))
noncomputable def F__law_take : Fn := runDef 2 4 m__law_take
theorem ok__law_take {f : Addr} {fd : FuncData} (F : L2.Fun K "_law_take" "_law_take" s__law_take f fd) (G : Txt K mg T C_NoPatch) : FnOk P w K mg base (L2.CX P w) 1 f fd ["tape", "many"] (spF T K F__law_take) :=
  does (k := 0) F sc__law_take G.tok rfl rfl fun cdv A outer s H E c =>
    cons (sif (PW.pt (ta (tcmp c .Eq (ix c (v 0) (str t_left_l)) e_int) (ta1 (tcmp c .Lt (ix c (v 0) (str t_at_l)) (biLen G.b_len (ac (ix c (v 0) (str t_cells_l)) an)))))) (cons (asg (ix c (ix c (v 0) (str t_cells_l)) (ix c (v 0) (str t_at_l))) (gsub c (v 0) (str t_left_l))) (one (asg (bin .Add (ix c (v 0) (str t_at_l)) e_int) (gsub c (v 0) (str t_at_l))))) nil) (cons (sif (tcmp c .Gt (ix c (v 0) (str t_left_l)) e_int) (cons (sset c 2 (bin .Mod (biInt G.b_int (ac (ix c (v 0) (str t_left_l)) an)) (v 1))) (cons (asg (bin .FloorDiv (ix c (v 0) (str t_left_l)) (v 1)) (gsub c (v 0) (str t_left_l))) (one (ret (v 2))))) nil) (cons (asg (bin .Add (ix c (v 0) (str t_salt_l)) e_int) (gsub c (v 0) (str t_salt_l))) (cons (sset c 3 (bin .Mod (biInt G.b_int (ac (bin .Add (bin .Mult (ix c (v 0) (str t_seed_l)) e_int) (bin .Mult (ix c (v 0) (str t_salt_l)) e_int)) an)) e_int)) (cons (sset c 3 (bin .Mod (biInt G.b_int (ac (bin .Add (bin .Add (bin .Mult (v 3) (v 3)) (bin .Mult (ix c (v 0) (str t_salt_l)) e_int)) e_int) an)) e_int)) (one (ret (bin .Mod (biInt G.b_int (ac (v 3) an)) (v 1))))))))
/-! #### _law_digest -/
abbrev s__law_digest : Stmt := top 18
theorem sc__law_digest : FnScope ["text", "found", "told", "sign", "k"] ["text"] (defScope s__law_digest) := ⟨rfl, rfl, rfl, by decide +kernel, rfl, by decide +kernel, by decide +kernel⟩
noncomputable def m__law_digest_0 : SM := sPar2 1 2 (mCons (mOp2 (binO .Add) (mBi bLen (mCons (mVar 0) mNil)) (mC (.int 7))) (mCons (mC t_x0) mNil))
noncomputable def m__law_digest_1_b : SM := sAsg (mOp2 (binO .Mod) (mBi bInt (mCons (mOp2 (binO .Add) (mOp2 (binO .Mult) (mVar 1) (mC (.int 2000003))) (mBi bOrd (mCons (mVar 3) mNil))) mNil)) (mC (.int 2305843009213693951))) (tName 1)
noncomputable def m__law_digest_1 : SM := sFor (mIter (mVar 0)) (tName 3) m__law_digest_1_b
noncomputable def m__law_digest_2_b_0 : SM := sAsg (mOp2 (binO .Add) (mOp2 ixO (mC t_0123456789ab) (mOp2 (binO .Mod) (mBi bInt (mCons (mVar 1) mNil)) (mC (.int 16)))) (mVar 2)) (tName 2)
noncomputable def m__law_digest_2_b_1 : SM := sAsg (mOp2 (binO .FloorDiv) (mVar 1) (mC (.int 16))) (tName 1)
noncomputable def m__law_digest_2_b : SM := sSeq m__law_digest_2_b_0 m__law_digest_2_b_1
noncomputable def m__law_digest_2 : SM := sFor (mRange (mCons (mC (.int 16)) mNil)) (tName 4) m__law_digest_2_b
noncomputable def m__law_digest_3 : SM := sRet (mVar 2)
noncomputable def m__law_digest : SM := sSeq m__law_digest_0 (sSeq m__law_digest_1 (sSeq m__law_digest_2 m__law_digest_3))
noncomputable def F__law_digest : Fn := runDef 1 5 m__law_digest
theorem ok__law_digest {f : Addr} {fd : FuncData} (F : L2.Fun K "_law_digest" "_law_digest" s__law_digest f fd) (G : Txt K mg T C_NoPatch) : FnOk P w K mg base (L2.CX P w) 1 f fd ["text"] (spF T K F__law_digest) :=
  does (k := 0) F sc__law_digest G.tok rfl rfl fun cdv A outer s H E c =>
    cons (par2 c 1 2 (ac (bin .Add (biLen G.b_len (ac (v 0) an)) e_int) (ac (str t_x0_l) an))) (cons (sfor c (it (v 0)) (gn c 3) (one (sset c 1 (bin .Mod (biInt G.b_int (ac (bin .Add (bin .Mult (v 1) e_int) (biOrd G.b_ord (ac (v 3) an))) an)) e_int)))) (cons (sfor c (rng1 G.b_range e_int) (gn c 4) (cons (sset c 2 (bin .Add (ix c (str t_0123456789ab_l) (bin .Mod (biInt G.b_int (ac (v 1) an)) e_int)) (v 2))) (one (sset c 1 (bin .FloorDiv (v 1) e_int))))) (one (ret (v 2)))))
/-! #### _law_least -/
abbrev s__law_least : Stmt := top 19
theorem sc__law_least : FnScope ["many"] ["many"] (defScope s__law_least) := ⟨rfl, rfl, rfl, by decide +kernel, rfl, by decide +kernel, by decide +kernel⟩
noncomputable def m__law_least : SM := sRet (mIf (mTest (mOp2 (cmpV .Lt) (mVar 0) (mC (.int 8)))) (mVar 0) (mC (.int 8)))
noncomputable def F__law_least : Fn := runDef 1 1 m__law_least
theorem ok__law_least {f : Addr} {fd : FuncData} (F : L2.Fun K "_law_least" "_law_least" s__law_least f fd) (G : Txt K mg T C_NoPatch) : FnOk P w K mg base (L2.CX P w) 1 f fd ["many"] (spF T K F__law_least) :=
  does (k := 0) F sc__law_least G.tok rfl rfl fun cdv A outer s H E c =>
    one (ret (ife (tcmp c .Lt (v 0) e_int) (v 0) e_int))
/-! #### _law_laid -/
abbrev s__law_laid : Stmt := top 20
theorem sc__law_laid : FnScope ["old", "parts", "found", "part"] ["old", "parts"] (defScope s__law_laid) := ⟨rfl, rfl, rfl, by decide +kernel, rfl, by decide +kernel, by decide +kernel⟩
noncomputable def m__law_laid_0 : SM := sAsg (mC t_x0) (tName 2)
noncomputable def m__law_laid_1_b : SM := sAsg (mOp2 (binO .Add) (mVar 2) (mIf (mTruth (mIsi "str" (mVar 3))) (mVar 3) (mSl (mVar 0) (mPart (mOp2 ixO (mVar 3) (mC (.int 0)))) (mPart (mOp2 (binO .Add) (mOp2 ixO (mVar 3) (mC (.int 0))) (mOp2 ixO (mVar 3) (mC (.int 1)))))))) (tName 2)
noncomputable def m__law_laid_1 : SM := sFor (mIter (mVar 1)) (tName 3) m__law_laid_1_b
noncomputable def m__law_laid_2 : SM := sRet (mVar 2)
noncomputable def m__law_laid : SM := sSeq m__law_laid_0 (sSeq m__law_laid_1 m__law_laid_2)
noncomputable def F__law_laid : Fn := runDef 2 4 m__law_laid
theorem ok__law_laid {f : Addr} {fd : FuncData} (F : L2.Fun K "_law_laid" "_law_laid" s__law_laid f fd) (G : Txt K mg T C_NoPatch) : FnOk P w K mg base (L2.CX P w) 1 f fd ["old", "parts"] (spF T K F__law_laid) :=
  does (k := 0) F sc__law_laid G.tok rfl rfl fun cdv A outer s H E c =>
    cons (sset c 2 (str t_x0_l)) (cons (sfor c (it (v 1)) (gn c 3) (one (sset c 2 (bin .Add (v 2) (ife (tr (isiS G.b_isinstance G.b_str (v 3))) (v 3) (sl (v 0) (o_some (ix c (v 3) e_int)) (o_some (bin .Add (ix c (v 3) e_int) (ix c (v 3) e_int))))))))) (one (ret (v 2))))
/-! #### _law_size -/
abbrev s__law_size : Stmt := top 21
theorem sc__law_size : FnScope ["parts", "part"] ["parts"] (defScope s__law_size) := ⟨rfl, rfl, rfl, by decide +kernel, rfl, by decide +kernel, by decide +kernel⟩
noncomputable def m__law_size : SM := sRet (mBi bSum (mCons (mFz (mLc (mIter (mVar 0)) (tName 1) mYes (mIf (mTruth (mIsi "str" (mVar 1))) (mBi bLen (mCons (mVar 1) mNil)) (mC (.int 8))) [1])) mNil))
noncomputable def F__law_size : Fn := runDef 1 2 m__law_size
theorem ok__law_size {f : Addr} {fd : FuncData} (F : L2.Fun K "_law_size" "_law_size" s__law_size f fd) (G : Txt K mg T C_NoPatch) : FnOk P w K mg base (L2.CX P w) 1 f fd ["parts"] (spF T K F__law_size) :=
  does (k := 0) F sc__law_size G.tok rfl rfl fun cdv A outer s H E c =>
    one (ret (biSum c G.b_sum (ac (e_fz (lc c (own := [(("part" : Str), 1)]) (it (v 0)) (by kernel_rfl) (fun _ _ _ _ _ => gn c.blk 1) (fun _ _ _ _ _ => yes) (fun _ _ _ _ _ => ife (tr (isiS G.b_isinstance G.b_str (v 1))) (biLen G.b_len (ac (v 1) an)) e_int))) an)))
/-! #### _law_fine -/
abbrev s__law_fine : Stmt := top 22
theorem sc__law_fine : FnScope ["old", "new", "told", "at", "plain", "part", "k"] ["old", "new"] (defScope s__law_fine) := ⟨rfl, rfl, rfl, by decide +kernel, rfl, by decide +kernel, by decide +kernel⟩
noncomputable def m__law_fine_0 : SM := sAsg (mCall F_patch (mCons (mVar 0) (mCons (mVar 1) mNil))) (tName 2)
noncomputable def m__law_fine_1 : SM := sIf (mOr (mTest (mOp2 (cmpV .NotEq) (mOp2 ixO (mVar 2) (mC (.int 0))) (mTup (mCons (mCall F__law_digest (mCons (mVar 0) mNil)) (mCons (mCall F__law_digest (mCons (mVar 1) mNil)) mNil))))) (mOr (mNot (mTruth (mIsi "tuple" (mOp2 ixO (mVar 2) (mC (.int 1)))))) (mTest (mOp2 (cmpV .NotEq) (mCall F__law_laid (mCons (mVar 0) (mCons (mOp2 ixO (mVar 2) (mC (.int 1))) mNil))) (mVar 1))))) (sRet (mC (.bl false))) sSkip
noncomputable def m__law_fine_2 : SM := sIf (mOr (mTest (mOp2 (cmpV .NotEq) (mCall F_patch_size (mCons (mVar 2) mNil)) (mCall F__law_size (mCons (mOp2 ixO (mVar 2) (mC (.int 1))) mNil)))) (mOr (mTest (mOp2 (cmpV .Gt) (mCall F__law_size (mCons (mOp2 ixO (mVar 2) (mC (.int 1))) mNil)) (mBi bLen (mCons (mVar 1) mNil)))) (mTest (mOp2 (cmpV .NotEq) (mCall F_patched (mCons (mVar 0) (mCons (mVar 2) mNil))) (mVar 1))))) (sRet (mC (.bl false))) sSkip
noncomputable def m__law_fine_3 : SM := sAsg (mTup (mCons (mC (.int 0)) (mCons (mC (.bl false)) mNil))) (tTup (tCons (tName 3) (tCons (tName 4) tNil)))
noncomputable def m__law_fine_4_b : SM := sIf (mTruth (mIsi "str" (mVar 5))) (sSeq (sIf (mOr (mTest (mOp2 (cmpV .Eq) (mVar 5) (mC t_x0))) (mOr (mTruth (mVar 4)) (mTruth (mBi bAny (mCons (mFz (mLc (mRange (mCons (mBi bLen (mCons (mVar 5) mNil)) mNil)) (tName 6) mYes (mAndV (mOp2 (cmpV .Eq) (mBi bLen (mCons (mSl (mVar 1) (mPart (mOp2 (binO .Add) (mVar 3) (mVar 6))) (mPart (mOp2 (binO .Add) (mOp2 (binO .Add) (mVar 3) (mVar 6)) (mC (.int 8))))) mNil)) (mC (.int 8))) (mOp2 (cmpV .In) (mSl (mVar 1) (mPart (mOp2 (binO .Add) (mVar 3) (mVar 6))) (mPart (mOp2 (binO .Add) (mOp2 (binO .Add) (mVar 3) (mVar 6)) (mC (.int 8))))) (mVar 0))) [6])) mNil))))) (sRet (mC (.bl false))) sSkip) (sAsg (mTup (mCons (mOp2 (binO .Add) (mVar 3) (mBi bLen (mCons (mVar 5) mNil))) (mCons (mC (.bl true)) mNil))) (tTup (tCons (tName 3) (tCons (tName 4) tNil))))) (sSeq (sIf (mOr (mTest (mOp2 (cmpV .Lt) (mOp2 ixO (mVar 5) (mC (.int 0))) (mC (.int 0)))) (mOr (mTest (mOp2 (cmpV .Lt) (mOp2 ixO (mVar 5) (mC (.int 1))) (mC (.int 8)))) (mTest (mOp2 (cmpV .Gt) (mOp2 (binO .Add) (mOp2 ixO (mVar 5) (mC (.int 0))) (mOp2 ixO (mVar 5) (mC (.int 1)))) (mBi bLen (mCons (mVar 0) mNil)))))) (sRet (mC (.bl false))) sSkip) (sAsg (mTup (mCons (mOp2 (binO .Add) (mVar 3) (mOp2 ixO (mVar 5) (mC (.int 1)))) (mCons (mC (.bl false)) mNil))) (tTup (tCons (tName 3) (tCons (tName 4) tNil)))))
noncomputable def m__law_fine_4 : SM := sFor (mIter (mOp2 ixO (mVar 2) (mC (.int 1)))) (tName 5) m__law_fine_4_b
noncomputable def m__law_fine_5 : SM := sRet (mC (.bl true))
noncomputable def m__law_fine : SM := sSeq m__law_fine_0 (sSeq m__law_fine_1 (sSeq m__law_fine_2 (sSeq m__law_fine_3 (sSeq m__law_fine_4 m__law_fine_5))))
noncomputable def F__law_fine : Fn := runDef 2 7 m__law_fine
theorem ok__law_fine {f : Addr} {fd : FuncData} (F : L2.Fun K "_law_fine" "_law_fine" s__law_fine f fd) (G : Txt K mg T C_NoPatch) (c__law_digest : Cal P w K mg base T 1 "_law_digest" F__law_digest) (c__law_laid : Cal P w K mg base T 1 "_law_laid" F__law_laid) (c__law_size : Cal P w K mg base T 1 "_law_size" F__law_size) (c_patch : Cal P w K mg base T 3 "patch" F_patch) (c_patch_size : Cal P w K mg base T 1 "patch_size" F_patch_size) (c_patched : Cal P w K mg base T 3 "patched" F_patched) : FnOk P w K mg base (L2.CX P w) 4 f fd ["old", "new"] (spF T K F__law_fine) :=
  does (k := 3) F sc__law_fine G.tok rfl rfl fun cdv A outer s H E c =>
    cons (sset c 2 (call c c_patch (ac (v 0) (ac (v 1) an)))) (cons (sif (PW.pt (to (tcmp c .NotEq (ix c (v 2) e_int) (tup (ac (call c c__law_digest (ac (v 0) an)) (ac (call c c__law_digest (ac (v 1) an)) an)))) (to (nt (tr (isiT G.b_isinstance G.b_tuple (ix c (v 2) e_int)))) (to1 (tcmp c .NotEq (call c c__law_laid (ac (v 0) (ac (ix c (v 2) e_int) an))) (v 1)))))) (one (ret e_bl)) nil) (cons (sif (PW.pt (to (tcmp c .NotEq (call c c_patch_size (ac (v 2) an)) (call c c__law_size (ac (ix c (v 2) e_int) an))) (to (tcmp c .Gt (call c c__law_size (ac (ix c (v 2) e_int) an)) (biLen G.b_len (ac (v 1) an))) (to1 (tcmp c .NotEq (call c c_patched (ac (v 0) (ac (v 2) an))) (v 1)))))) (one (ret e_bl)) nil) (cons (asg (tup (ac e_int (ac e_bl an))) (gtup c (gcons (gn c 3) (gcons (gn c 4) gnil)) (by rfl) (tcons_len (tcons_len tnil_len)))) (cons (sfor c (it (ix c (v 2) e_int)) (gn c 5) (one (sif (tr (isiS G.b_isinstance G.b_str (v 5))) (cons (sif (PW.pt (to (tcmp c .Eq (v 5) (str t_x0_l)) (to (tr (v 4)) (to1 (tr (biAny c G.b_any (ac (e_fz (lc c (own := [(("k" : Str), 6)]) (rng1 G.b_range (biLen G.b_len (ac (v 5) an))) (by kernel_rfl) (fun _ _ _ _ _ => gn c.blk 6) (fun _ _ _ _ _ => yes) (fun _ _ _ _ _ => e_and (cmp c.blk .Eq (biLen G.b_len (ac (sl (v 1) (o_some (bin .Add (v 3) (v 6))) (o_some (bin .Add (bin .Add (v 3) (v 6)) e_int))) an)) e_int) (bo1 (cmp c.blk .In (sl (v 1) (o_some (bin .Add (v 3) (v 6))) (o_some (bin .Add (bin .Add (v 3) (v 6)) e_int))) (v 0)))))) an))))))) (one (ret e_bl)) nil) (one (asg (tup (ac (bin .Add (v 3) (biLen G.b_len (ac (v 5) an))) (ac e_bl an))) (gtup c (gcons (gn c 3) (gcons (gn c 4) gnil)) (by rfl) (tcons_len (tcons_len tnil_len)))))) (cons (sif (PW.pt (to (tcmp c .Lt (ix c (v 5) e_int) e_int) (to (tcmp c .Lt (ix c (v 5) e_int) e_int) (to1 (tcmp c .Gt (bin .Add (ix c (v 5) e_int) (ix c (v 5) e_int)) (biLen G.b_len (ac (v 0) an))))))) (one (ret e_bl)) nil) (one (asg (tup (ac (bin .Add (v 3) (ix c (v 5) e_int)) (ac e_bl an))) (gtup c (gcons (gn c 3) (gcons (gn c 4) gnil)) (by rfl) (tcons_len (tcons_len tnil_len))))))))) (one (ret e_bl))))))
/-! #### _law_known -/
abbrev s__law_known : Stmt := top 23
theorem sc__law_known : FnScope ["old", "new", "parts", "told"] ["old", "new", "parts"] (defScope s__law_known) := ⟨rfl, rfl, rfl, by decide +kernel, rfl, by decide +kernel, by decide +kernel⟩
noncomputable def m__law_known_0 : SM := sAsg (mCall F_patch (mCons (mVar 0) (mCons (mVar 1) mNil))) (tName 3)
noncomputable def m__law_known_1 : SM := sRet (mAndV (mOp2 (cmpV .Eq) (mVar 3) (mTup (mCons (mTup (mCons (mCall F__law_digest (mCons (mVar 0) mNil)) (mCons (mCall F__law_digest (mCons (mVar 1) mNil)) mNil))) (mCons (mVar 2) mNil)))) (mAndV (mOp2 (cmpV .Eq) (mCall F_patch_size (mCons (mVar 3) mNil)) (mCall F__law_size (mCons (mVar 2) mNil))) (mOp2 (cmpV .Eq) (mCall F_patched (mCons (mVar 0) (mCons (mVar 3) mNil))) (mVar 1))))
noncomputable def m__law_known : SM := sSeq m__law_known_0 m__law_known_1
noncomputable def F__law_known : Fn := runDef 3 4 m__law_known
theorem ok__law_known {f : Addr} {fd : FuncData} (F : L2.Fun K "_law_known" "_law_known" s__law_known f fd) (G : Txt K mg T C_NoPatch) (c__law_digest : Cal P w K mg base T 1 "_law_digest" F__law_digest) (c__law_size : Cal P w K mg base T 1 "_law_size" F__law_size) (c_patch : Cal P w K mg base T 3 "patch" F_patch) (c_patch_size : Cal P w K mg base T 1 "patch_size" F_patch_size) (c_patched : Cal P w K mg base T 3 "patched" F_patched) : FnOk P w K mg base (L2.CX P w) 4 f fd ["old", "new", "parts"] (spF T K F__law_known) :=
  does (k := 3) F sc__law_known G.tok rfl rfl fun cdv A outer s H E c =>
    cons (sset c 3 (call c c_patch (ac (v 0) (ac (v 1) an)))) (one (ret (e_and (cmp c .Eq (v 3) (tup (ac (tup (ac (call c c__law_digest (ac (v 0) an)) (ac (call c c__law_digest (ac (v 1) an)) an))) (ac (v 2) an)))) (e_and (cmp c .Eq (call c c_patch_size (ac (v 3) an)) (call c c__law_size (ac (v 2) an))) (bo1 (cmp c .Eq (call c c_patched (ac (v 0) (ac (v 3) an))) (v 1)))))))
/-! #### _law_refused -/
abbrev s__law_refused : Stmt := top 24
theorem sc__law_refused : FnScope ["old", "told"] ["old", "told"] (defScope s__law_refused) := ⟨rfl, rfl, rfl, by decide +kernel, rfl, by decide +kernel, by decide +kernel⟩
noncomputable def m__law_refused : SM := sTry (sSeq (sExpr (mCall F_patched (mCons (mVar 0) (mCons (mVar 1) mNil)))) (sRet (mC (.bl false)))) cs_NoPatch (sRet (mC (.bl true)))
noncomputable def F__law_refused : Fn := runDef 2 2 m__law_refused
theorem ok__law_refused {f : Addr} {fd : FuncData} (F : L2.Fun K "_law_refused" "_law_refused" s__law_refused f fd) (G : Txt K mg T C_NoPatch) (c_patched : Cal P w K mg base T 3 "patched" F_patched) : FnOk P w K mg base (L2.CX P w) 4 f fd ["old", "told"] (spF T K F__law_refused) :=
  does (k := 3) F sc__law_refused G.tok rfl rfl fun cdv A outer s H E c =>
    one (stry c ⟨rfl, by decide, .inl G.n_NoPatch⟩ G.x_NoPatch (fun W pn xe c => cons (ex c (call c c_patched (ac (v 0) (ac (v 1) an)))) (one (ret e_bl))) (fun a pn => one (ret e_bl)))
/-! #### law -/
abbrev s_law : Stmt := top 25
theorem sc_law : FnScope ["script", "tape", "start", "count", "k", "old", "size", "more", "at", "new", "told", "cut", "times", "row", "n"] ["script"] (defScope s_law) := ⟨rfl, rfl, rfl, by decide +kernel, rfl, by decide +kernel, by decide +kernel⟩
noncomputable def m_law_0 : SM := sAsg (mCall F__law_tape (mCons (mVar 0) mNil)) (tName 1)
noncomputable def m_law_1 : SM := sAsg (mTup (mCons (mOp2 (binO .Add) (mC (.int 1000)) (mCall F__law_take (mCons (mVar 1) (mCons (mC (.int 5000)) mNil)))) (mCons (mCall F__law_take (mCons (mVar 1) (mCons (mC (.int 40)) mNil))) mNil))) (tTup (tCons (tName 2) (tCons (tName 3) tNil)))
noncomputable def m_law_2 : SM := sAsg (mMeth noC ["str"] bJoin (mC t_x0) (mCons (mFz (mLc (mRange (mCons (mVar 3) mNil)) (tName 4) mYes (mOp2 (binO .Add) (mBi bStr (mCons (mOp2 (binO .Add) (mVar 2) (mVar 4)) mNil)) (mC t_x7)) [4])) mNil)) (tName 5)
noncomputable def m_law_3 : SM := sPar2 6 7 (mCons (mBi bLen (mCons (mVar 5) mNil)) (mCons (mMeth noC ["str"] bJoin (mC t_x0) (mCons (mFz (mLc (mRange (mCons (mOp2 (binO .Add) (mC (.int 1)) (mCall F__law_take (mCons (mVar 1) (mCons (mC (.int 30)) mNil)))) mNil)) (tName 4) mYes (mOp2 ixO (mC t_ABC) (mCall F__law_take (mCons (mVar 1) (mCons (mC (.int 3)) mNil)))) [4])) mNil)) mNil))
noncomputable def m_law_4 : SM := sAsg (mCall F__law_take (mCons (mVar 1) (mCons (mOp2 (binO .Add) (mVar 6) (mC (.int 1))) mNil))) (tName 8)
noncomputable def m_law_5 : SM := sAsg (mOp2 (binO .Add) (mOp2 (binO .Add) (mSl (mVar 5) mNoPart (mPart (mVar 8))) (mVar 7)) (mSl (mVar 5) (mPart (mVar 8)) mNoPart)) (tName 9)
noncomputable def m_law_6 : SM := sAsg (mCall F_patch (mCons (mVar 5) (mCons (mVar 9) mNil))) (tName 10)
noncomputable def m_law_7 : SM := sIf (mOr (mTest (mOp2 (cmpV .NotEq) (mCall F__law_size (mCons (mOp2 ixO (mVar 10) (mC (.int 1))) mNil)) (mOp2 (binO .Add) (mOp2 (binO .Add) (mCall F__law_least (mCons (mVar 8) mNil)) (mBi bLen (mCons (mVar 7) mNil))) (mCall F__law_least (mCons (mOp2 (binO .Sub) (mVar 6) (mVar 8)) mNil))))) (mOr (mNot (mTruth (mCall F__law_known (mCons (mVar 5) (mCons (mVar 9) (mCons (mOp2 ixO (mVar 10) (mC (.int 1))) mNil)))))) (mNot (mTruth (mCall F__law_fine (mCons (mVar 5) (mCons (mVar 9) mNil))))))) (sRet (mC (.bl false))) sSkip
noncomputable def m_law_8 : SM := sIf (mAnd (mTest (mOp2 (cmpV .GtE) (mVar 8) (mC (.int 8)))) (mAnd (mTest (mOp2 (cmpV .GtE) (mOp2 (binO .Sub) (mVar 6) (mVar 8)) (mC (.int 8)))) (mTest (mOp2 (cmpV .NotEq) (mOp2 ixO (mVar 10) (mC (.int 1))) (mTup (mCons (mTup (mCons (mC (.int 0)) (mCons (mVar 8) mNil))) (mCons (mVar 7) (mCons (mTup (mCons (mVar 8) (mCons (mOp2 (binO .Sub) (mVar 6) (mVar 8)) mNil))) mNil)))))))) (sRet (mC (.bl false))) sSkip
noncomputable def m_law_9 : SM := sIf (mNot (mTruth (mCall F__law_known (mCons (mVar 5) (mCons (mVar 5) (mCons (mIf (mTest (mOp2 (cmpV .GtE) (mVar 6) (mC (.int 8)))) (mTup (mCons (mTup (mCons (mC (.int 0)) (mCons (mVar 6) mNil))) mNil)) (mIf (mTest (mOp2 (cmpV .Gt) (mVar 6) (mC (.int 0)))) (mTup (mCons (mVar 5) mNil)) (mTup mNil))) mNil)))))) (sRet (mC (.bl false))) sSkip
noncomputable def m_law_10 : SM := sIf (mTest (mOp2 (cmpV .GtE) (mVar 6) (mC (.int 20)))) (sSeq (sAsg (mOp2 (binO .Add) (mC (.int 8)) (mCall F__law_take (mCons (mVar 1) (mCons (mOp2 (binO .Sub) (mVar 6) (mC (.int 15))) mNil)))) (tName 11)) (sSeq (sIf (mNot (mTruth (mCall F__law_known (mCons (mVar 5) (mCons (mOp2 (binO .Add) (mSl (mVar 5) (mPart (mVar 11)) mNoPart) (mSl (mVar 5) mNoPart (mPart (mVar 11)))) (mCons (mTup (mCons (mTup (mCons (mVar 11) (mCons (mOp2 (binO .Sub) (mVar 6) (mVar 11)) mNil))) (mCons (mTup (mCons (mC (.int 0)) (mCons (mVar 11) mNil))) mNil))) mNil)))))) (sRet (mC (.bl false))) sSkip) (sSeq (sAsg (mCall F__law_take (mCons (mVar 1) (mCons (mC (.int 4)) mNil))) (tName 12)) (sIf (mNot (mTruth (mCall F__law_known (mCons (mVar 5) (mCons (mOp2 (binO .Mult) (mVar 5) (mVar 12)) (mCons (mOp2 (binO .Mult) (mTup (mCons (mTup (mCons (mC (.int 0)) (mCons (mVar 6) mNil))) mNil)) (mVar 12)) mNil)))))) (sRet (mC (.bl false))) sSkip)))) sSkip
noncomputable def m_law_11 : SM := sPar2 13 10 (mCons (mReg (mNewL (mCons (mVar 5) (mCons (mVar 9) mNil)))) (mCons (mReg (mNewL mNil)) mNil))
noncomputable def m_law_12_b : SM := sExpr (mMeth noC ["list"] bAppend (mVar 13) (mCons (mOp2 (binO .Add) (mMeth noC ["str"] bJoin (mC t_x0) (mCons (mFz (mLc (mRange (mCons (mCall F__law_take (mCons (mVar 1) (mCons (mC (.int 16)) mNil))) mNil)) (tName 14) mYes (mOp2 (binO .Mult) (mOp2 ixO (mC t_ab) (mCall F__law_take (mCons (mVar 1) (mCons (mC (.int 2)) mNil)))) (mOp2 (binO .Add) (mC (.int 1)) (mCall F__law_take (mCons (mVar 1) (mCons (mC (.int 4)) mNil))))) [14])) mNil)) (mSl (mOp2 ixO (mVar 13) (mOp1 negO (mC (.int 1)))) (mPart (mCall F__law_take (mCons (mVar 1) (mCons (mOp2 (binO .Add) (mBi bLen (mCons (mOp2 ixO (mVar 13) (mOp1 negO (mC (.int 1)))) mNil)) (mC (.int 1))) mNil)))) mNoPart)) mNil))
noncomputable def m_law_12 : SM := sFor (mRange (mCons (mC (.int 3)) mNil)) (tName 4) m_law_12_b
noncomputable def m_law_13_b_0 : SM := sIf (mNot (mTruth (mCall F__law_fine (mCons (mOp2 ixO (mVar 13) (mVar 4)) (mCons (mOp2 ixO (mVar 13) (mOp2 (binO .Add) (mVar 4) (mC (.int 1)))) mNil))))) (sRet (mC (.bl false))) sSkip
noncomputable def m_law_13_b_1 : SM := sExpr (mMeth noC ["list"] bAppend (mVar 10) (mCons (mCall F_patch (mCons (mOp2 ixO (mVar 13) (mVar 4)) (mCons (mOp2 ixO (mVar 13) (mOp2 (binO .Add) (mVar 4) (mC (.int 1)))) mNil))) mNil))
noncomputable def m_law_13_b : SM := sSeq m_law_13_b_0 m_law_13_b_1
noncomputable def m_law_13 : SM := sFor (mRange (mCons (mC (.int 4)) mNil)) (tName 4) m_law_13_b
noncomputable def m_law_14 : SM := sIf (mOr (mTest (mOp2 (cmpV .NotEq) (mCall F_joined_patches (mCons (mVar 5) (mCons (mFz (mBiL bList (mCons (mVar 10) mNil))) mNil))) (mOp2 ixO (mVar 13) (mC (.int 4))))) (mOr (mTest (mOp2 (cmpV .NotEq) (mCall F_joined_patches (mCons (mOp2 ixO (mVar 13) (mC (.int 2))) (mCons (mSl (mVar 10) (mPart (mC (.int 2))) mNoPart) mNil))) (mOp2 ixO (mVar 13) (mC (.int 4))))) (mTest (mOp2 (cmpV .NotEq) (mCall F_joined_patches (mCons (mVar 5) (mCons (mFz (mNewL mNil)) mNil))) (mVar 5))))) (sRet (mC (.bl false))) sSkip
noncomputable def m_law_15_b : SM := sIf (mAnd (mTest (mOp2 (cmpV .NotEq) (mCall F__law_digest (mCons (mOp2 ixO (mVar 13) (mVar 4)) mNil)) (mCall F__law_digest (mCons (mOp2 ixO (mVar 13) (mC (.int 2))) mNil)))) (mNot (mTruth (mCall F__law_refused (mCons (mOp2 ixO (mVar 13) (mC (.int 2))) (mCons (mOp2 ixO (mVar 10) (mVar 4)) mNil)))))) (sRet (mC (.bl false))) sSkip
noncomputable def m_law_15 : SM := sFor (mRange (mCons (mC (.int 4)) mNil)) (tName 4) m_law_15_b
noncomputable def m_law_16 : SM := sRet (mC (.bl true))
noncomputable def m_law : SM := sSeq m_law_0 (sSeq m_law_1 (sSeq m_law_2 (sSeq m_law_3 (sSeq m_law_4 (sSeq m_law_5 (sSeq m_law_6 (sSeq m_law_7 (sSeq m_law_8 (sSeq m_law_9 (sSeq m_law_10 (sSeq m_law_11 (sSeq m_law_12 (sSeq m_law_13 (sSeq m_law_14 (sSeq m_law_15 m_law_16)))))))))))))))
noncomputable def F_law : Fn := runDef 1 15 m_law
theorem ok_law {f : Addr} {fd : FuncData} (F : L2.Fun K "law" "law" s_law f fd) (G : Txt K mg T C_NoPatch) (c__law_digest : Cal P w K mg base T 1 "_law_digest" F__law_digest) (c__law_fine : Cal P w K mg base T 4 "_law_fine" F__law_fine) (c__law_known : Cal P w K mg base T 4 "_law_known" F__law_known) (c__law_least : Cal P w K mg base T 1 "_law_least" F__law_least) (c__law_refused : Cal P w K mg base T 4 "_law_refused" F__law_refused) (c__law_size : Cal P w K mg base T 1 "_law_size" F__law_size) (c__law_take : Cal P w K mg base T 1 "_law_take" F__law_take) (c__law_tape : Cal P w K mg base T 1 "_law_tape" F__law_tape) (c_joined_patches : Cal P w K mg base T 4 "joined_patches" F_joined_patches) (c_patch : Cal P w K mg base T 3 "patch" F_patch) : FnOk P w K mg base (L2.CX P w) 5 f fd ["script"] (spF T K F_law) :=
  does (k := 4) F sc_law G.tok rfl rfl fun cdv A outer s H E c =>
    cons (sset c 1 (call c c__law_tape (ac (v 0) an))) (cons (asg (tup (ac (bin .Add e_int (call c c__law_take (ac (v 1) (ac e_int an)))) (ac (call c c__law_take (ac (v 1) (ac e_int an))) an))) (gtup c (gcons (gn c 2) (gcons (gn c 3) gnil)) (by rfl) (tcons_len (tcons_len tnil_len)))) (cons (sset c 5 (bm1 c (ks := ["str"]) (fun k hk => by rw [List.mem_singleton.mp hk]; exact bok_join) (str t_x0_l) (ac (e_fz (lc c (own := [(("k" : Str), 4)]) (rng1 G.b_range (v 3)) (by kernel_rfl) (fun _ _ _ _ _ => gn c.blk 4) (fun _ _ _ _ _ => yes) (fun _ _ _ _ _ => bin .Add (biStr G.b_str (ac (bin .Add (v 2) (v 4)) an)) (str t_x7_l)))) an) _)) (cons (par2 c 6 7 (ac (biLen G.b_len (ac (v 5) an)) (ac (bm1 c (ks := ["str"]) (fun k hk => by rw [List.mem_singleton.mp hk]; exact bok_join) (str t_x0_l) (ac (e_fz (lc c (own := [(("k" : Str), 4)]) (rng1 G.b_range (bin .Add e_int (call c c__law_take (ac (v 1) (ac e_int an))))) (by kernel_rfl) (fun _ _ _ _ _ => gn c.blk 4) (fun _ _ _ _ _ => yes) (fun _ _ _ _ _ => ix c.blk (str t_ABC_l) (call c.blk c__law_take (ac (v 1) (ac e_int an)))))) an) _) an))) (cons (sset c 8 (call c c__law_take (ac (v 1) (ac (bin .Add (v 6) e_int) an)))) (cons (sset c 9 (bin .Add (bin .Add (sl (v 5) o_none (o_some (v 8))) (v 7)) (sl (v 5) (o_some (v 8)) o_none))) (cons (sset c 10 (call c c_patch (ac (v 5) (ac (v 9) an)))) (cons (sif (PW.pt (to (tcmp c .NotEq (call c c__law_size (ac (ix c (v 10) e_int) an)) (bin .Add (bin .Add (call c c__law_least (ac (v 8) an)) (biLen G.b_len (ac (v 7) an))) (call c c__law_least (ac (bin .Sub (v 6) (v 8)) an)))) (to (nt (tr (call c c__law_known (ac (v 5) (ac (v 9) (ac (ix c (v 10) e_int) an)))))) (to1 (nt (tr (call c c__law_fine (ac (v 5) (ac (v 9) an))))))))) (one (ret e_bl)) nil) (cons (sif (PW.pt (ta (tcmp c .GtE (v 8) e_int) (ta (tcmp c .GtE (bin .Sub (v 6) (v 8)) e_int) (ta1 (tcmp c .NotEq (ix c (v 10) e_int) (tup (ac (tup (ac e_int (ac (v 8) an))) (ac (v 7) (ac (tup (ac (v 8) (ac (bin .Sub (v 6) (v 8)) an))) an))))))))) (one (ret e_bl)) nil) (cons (sif (nt (tr (call c c__law_known (ac (v 5) (ac (v 5) (ac (ife (tcmp c .GtE (v 6) e_int) (tup (ac (tup (ac e_int (ac (v 6) an))) an)) (ife (tcmp c .Gt (v 6) e_int) (tup (ac (v 5) an)) (tup an))) an)))))) (one (ret e_bl)) nil) (cons (sif (tcmp c .GtE (v 6) e_int) (cons (sset c 11 (bin .Add e_int (call c c__law_take (ac (v 1) (ac (bin .Sub (v 6) e_int) an))))) (cons (sif (nt (tr (call c c__law_known (ac (v 5) (ac (bin .Add (sl (v 5) (o_some (v 11)) o_none) (sl (v 5) o_none (o_some (v 11)))) (ac (tup (ac (tup (ac (v 11) (ac (bin .Sub (v 6) (v 11)) an))) (ac (tup (ac e_int (ac (v 11) an))) an))) an)))))) (one (ret e_bl)) nil) (cons (sset c 12 (call c c__law_take (ac (v 1) (ac e_int an)))) (one (sif (nt (tr (call c c__law_known (ac (v 5) (ac (bin .Mult (v 5) (v 12)) (ac (bin .Mult (tup (ac (tup (ac e_int (ac (v 6) an))) an)) (v 12)) an)))))) (one (ret e_bl)) nil))))) nil) (cons (par2 c 13 10 (ac (lstR (ac (v 5) (ac (v 9) an))) (ac (lstR an) an))) (cons (sfor c (rng1 G.b_range e_int) (gn c 4) (one (ex c (bm1 c (ks := ["list"]) (fun k hk => by rw [List.mem_singleton.mp hk]; exact bok_append) (v 13) (ac (bin .Add (bm1 c (ks := ["str"]) (fun k hk => by rw [List.mem_singleton.mp hk]; exact bok_join) (str t_x0_l) (ac (e_fz (lc c (own := [(("n" : Str), 14)]) (rng1 G.b_range (call c c__law_take (ac (v 1) (ac e_int an)))) (by kernel_rfl) (fun _ _ _ _ _ => gn c.blk 14) (fun _ _ _ _ _ => yes) (fun _ _ _ _ _ => bin .Mult (ix c.blk (str t_ab_l) (call c.blk c__law_take (ac (v 1) (ac e_int an)))) (bin .Add e_int (call c.blk c__law_take (ac (v 1) (ac e_int an))))))) an) _) (sl (ix c (v 13) (neg e_int)) (o_some (call c c__law_take (ac (v 1) (ac (bin .Add (biLen G.b_len (ac (ix c (v 13) (neg e_int)) an)) e_int) an)))) o_none)) an) _)))) (cons (sfor c (rng1 G.b_range e_int) (gn c 4) (cons (sif (nt (tr (call c c__law_fine (ac (ix c (v 13) (v 4)) (ac (ix c (v 13) (bin .Add (v 4) e_int)) an))))) (one (ret e_bl)) nil) (one (ex c (bm1 c (ks := ["list"]) (fun k hk => by rw [List.mem_singleton.mp hk]; exact bok_append) (v 10) (ac (call c c_patch (ac (ix c (v 13) (v 4)) (ac (ix c (v 13) (bin .Add (v 4) e_int)) an))) an) _))))) (cons (sif (PW.pt (to (tcmp c .NotEq (call c c_joined_patches (ac (v 5) (ac (biListF G.b_list (ac (v 10) an)) an))) (ix c (v 13) e_int)) (to (tcmp c .NotEq (call c c_joined_patches (ac (ix c (v 13) e_int) (ac (sl (v 10) (o_some e_int) o_none) an))) (ix c (v 13) e_int)) (to1 (tcmp c .NotEq (call c c_joined_patches (ac (v 5) (ac (lstF an) an))) (v 5)))))) (one (ret e_bl)) nil) (cons (sfor c (rng1 G.b_range e_int) (gn c 4) (one (sif (PW.pt (ta (tcmp c .NotEq (call c c__law_digest (ac (ix c (v 13) (v 4)) an)) (call c c__law_digest (ac (ix c (v 13) e_int) an))) (ta1 (nt (tr (call c c__law_refused (ac (ix c (v 13) e_int) (ac (ix c (v 10) (v 4)) an)))))))) (one (ret e_bl)) nil))) (one (ret e_bl)))))))))))))))))
end
end Y.k29

/-! the plain side of patches: parts of a text by another (by an AI agent) -/
namespace Y.k29
/-- a part: signs of its own, or a stretch of the old text -/
inductive Pt where
  | s (l : List Nat)
  | c (i k : Nat)
def win (s : List Nat) (i : Nat) : List Nat := (s.drop i).take 8
def fst (old b : List Nat) : Option Nat := (List.range (old.length + 1 - 8)).find? fun i => decide (win old i = b)
def lcp : List Nat → List Nat → Nat
  | a :: r, b :: s => if a = b then lcp r s + 1 else 0
  | _, _ => 0
def fl (p : List Nat) : List Pt := if p = [] then [] else [.s p]
def pt (old : List Nat) : Nat → List Nat → List Nat → List Pt
  | 0, _, p => fl p
  | _ + 1, [], p => fl p
  | n + 1, c :: r, p => match fst old ((c :: r).take 8) with
    | none => pt old n r (p ++ [c])
    | some i => fl p ++ (.c i (lcp (c :: r) (old.drop i)) :: pt old n ((c :: r).drop (lcp (c :: r) (old.drop i))) [])
def parts (old new : List Nat) : List Pt := pt old new.length new []
def laidL (old : List Nat) : List Pt → List Nat
  | [] => []
  | .s l :: r => l ++ laidL old r
  | .c i k :: r => (old.drop i).take k ++ laidL old r
def sizeL : List Pt → Nat
  | [] => 0
  | .s l :: r => l.length + sizeL r
  | .c _ _ :: r => 8 + sizeL r
def fineP (old new : List Nat) : Nat → Bool → List Pt → Prop
  | _, _, [] => True
  | a, f, .s l :: r => l ≠ [] ∧ f = false ∧ (∀ k, k < l.length → fst old (win new (a + k)) = none) ∧ fineP old new (a + l.length) true r
  | a, _, .c i k :: r => 8 ≤ k ∧ i + k ≤ old.length ∧ fineP old new (a + k) false r
/-! #### lcp -/
theorem lcp_le : ∀ (x y : List Nat), lcp x y ≤ x.length ∧ lcp x y ≤ y.length
  | [], y => by simp [lcp]
  | _ :: _, [] => by simp [lcp]
  | a :: r, b :: s => by
    have := lcp_le r s
    unfold lcp
    split <;> simp <;> omega
theorem lcp_take : ∀ (x y : List Nat), x.take (lcp x y) = y.take (lcp x y)
  | [], y => by simp [lcp]
  | _ :: _, [] => by simp [lcp]
  | a :: r, b :: s => by
    unfold lcp
    split
    · rename_i e; subst e; simp [lcp_take r s]
    · simp
theorem lcp_lt : ∀ (x y : List Nat) (k : Nat), k ≤ lcp x y → (k < lcp x y ↔ ∃ c, x[k]? = some c ∧ y[k]? = some c)
  | [], y, k, h => by simp [lcp]
  | _ :: _, [], k, h => by simp [lcp]
  | a :: r, b :: s, k, h => by
    unfold lcp at h ⊢
    split
    · rename_i e
      subst e
      rw [if_pos rfl] at h
      cases k with
      | zero => simp
      | succ k =>
        have := lcp_lt r s k (by omega)
        simp only [List.getElem?_cons_succ, ← this]
        omega
    · rename_i e
      rw [if_neg e] at h
      have : k = 0 := by omega
      subst this
      simp [e]
      omega
theorem lcp_ge : ∀ (x y : List Nat) (k : Nat), k ≤ x.length → k ≤ y.length → x.take k = y.take k → k ≤ lcp x y
  | _, _, 0, _, _, _ => Nat.zero_le _
  | [], _, k + 1, h, _, _ => by simp at h
  | _ :: _, [], k + 1, _, h, _ => by simp at h
  | a :: r, b :: s, k + 1, h1, h2, e => by
    simp at h1 h2 e
    unfold lcp
    rw [if_pos e.1]
    have := lcp_ge r s k h1 h2 e.2
    omega
theorem lcp_self (x : List Nat) : lcp x x = x.length := Nat.le_antisymm (lcp_le x x).1 (lcp_ge x x _ (Nat.le_refl _) (Nat.le_refl _) rfl)
theorem lcp_pre (x y : List Nat) : lcp (x ++ y) x = x.length := Nat.le_antisymm (lcp_le _ x).2 (lcp_ge _ x _ (by simp) (Nat.le_refl _) (by simp))
theorem lcp_pre2 (x y : List Nat) : lcp x (x ++ y) = x.length := Nat.le_antisymm (lcp_le x _).1 (lcp_ge x _ _ (Nat.le_refl _) (by simp) (by simp))
/-! #### the first place -/
theorem fst_some {old b : List Nat} {i : Nat} (h : fst old b = some i) : i + 8 ≤ old.length ∧ win old i = b := by
  unfold fst at h
  have h1 := List.find?_some h
  have h2 := List.mem_of_find?_eq_some h
  rw [List.mem_range] at h2
  exact ⟨by omega, of_decide_eq_true h1⟩
theorem win_len {s : List Nat} {i : Nat} : (win s i).length = min 8 (s.length - i) := by simp [win]
theorem fst_none {old b : List Nat} : fst old b = none ↔ ∀ i, i + 8 ≤ old.length → win old i ≠ b := by
  unfold fst
  rw [List.find?_eq_none]
  constructor
  · intro h i hi e
    exact h i (List.mem_range.mpr (by omega)) (decide_eq_true e)
  · intro h i hi e
    rw [List.mem_range] at hi
    exact h i (by omega) (of_decide_eq_true e)
theorem fst_short {old b : List Nat} (h : b.length < 8) : fst old b = none := fst_none.mpr fun i hi e => by
  rw [← e, win_len] at h
  omega
theorem fst_not {old b : List Nat} {c : Nat} (h1 : c ∈ b) (h2 : c ∉ old) : fst old b = none := fst_none.mpr fun i hi e => by
  rw [← e] at h1
  exact h2 (List.mem_of_mem_drop (List.mem_of_mem_take h1))
theorem fst_zero {old : List Nat} (h : 8 ≤ old.length) : fst old (old.take 8) = some 0 := by
  unfold fst
  obtain ⟨n, hn⟩ : ∃ n, old.length + 1 - 8 = n + 1 := ⟨old.length - 8, by omega⟩
  rw [hn, List.range_succ_eq_map]
  simp [List.find?, win]
def uniq (old : List Nat) : Prop := ∀ i j, i + 8 ≤ old.length → j + 8 ≤ old.length → win old i = win old j → i = j
theorem fst_at {old : List Nat} (u : uniq old) {i : Nat} (h : i + 8 ≤ old.length) : fst old (win old i) = some i := by
  cases e : fst old (win old i) with
  | none => exact absurd rfl (fst_none.mp e i h)
  | some j =>
    obtain ⟨h1, h2⟩ := fst_some e
    rw [u j i h1 h h2]
/-- a match is eight signs long at least -/
theorem hit {old rest : List Nat} {i : Nat} (h : fst old (rest.take 8) = some i) : 8 ≤ lcp rest (old.drop i) ∧ lcp rest (old.drop i) ≤ rest.length ∧ i + lcp rest (old.drop i) ≤ old.length := by
  obtain ⟨h1, h2⟩ := fst_some h
  have l8 : (rest.take 8).length = 8 := by rw [← h2, win_len]; omega
  rw [List.length_take] at l8
  have l := lcp_le rest (old.drop i)
  rw [List.length_drop] at l
  exact ⟨lcp_ge _ _ 8 (by omega) (by rw [List.length_drop]; omega) h2.symm, l.1, by omega⟩
/-! #### what the parts lay -/
theorem laid_fl (old p : List Nat) : laidL old (fl p) = p := by
  unfold fl
  split
  · rename_i e; subst e; rfl
  · simp [laidL]
theorem laid_app (old : List Nat) : ∀ (x y : List Pt), laidL old (x ++ y) = laidL old x ++ laidL old y
  | [], y => rfl
  | .s l :: r, y => by simp [laidL, laid_app old r y]
  | .c i k :: r, y => by simp [laidL, laid_app old r y]
theorem laid_pt (old : List Nat) : ∀ (n : Nat) (rest p : List Nat), rest.length ≤ n → laidL old (pt old n rest p) = p ++ rest
  | 0, rest, p, h => by
    have : rest = [] := List.eq_nil_of_length_eq_zero (by omega)
    subst this
    simp [pt, laid_fl]
  | n + 1, [], p, h => by simp [pt, laid_fl]
  | n + 1, c :: r, p, h => by
    unfold pt
    cases e : fst old ((c :: r).take 8) with
    | none =>
      simp only
      rw [laid_pt old n r _ (by simpa using h)]
      simp
    | some i =>
      simp only
      obtain ⟨h1, h2, h3⟩ := hit e
      rw [laid_app, laid_fl]
      unfold laidL
      rw [laid_pt old n _ _ (by rw [List.length_drop]; simp at h ⊢; omega), ← lcp_take]
      simp
theorem laid_parts (old new : List Nat) : laidL old (parts old new) = new := by
  unfold parts
  rw [laid_pt old _ _ _ (Nat.le_refl _)]
  rfl
theorem size_fl (p : List Nat) : sizeL (fl p) = p.length := by
  unfold fl
  split
  · rename_i e; subst e; rfl
  · simp [sizeL]
theorem size_app : ∀ (x y : List Pt), sizeL (x ++ y) = sizeL x + sizeL y
  | [], y => by simp [sizeL]
  | .s l :: r, y => by simp [sizeL, size_app r y]; omega
  | .c i k :: r, y => by simp [sizeL, size_app r y]; omega
theorem size_pt (old : List Nat) : ∀ (n : Nat) (rest p : List Nat), sizeL (pt old n rest p) ≤ p.length + rest.length
  | 0, rest, p => by simp [pt, size_fl]
  | n + 1, [], p => by simp [pt, size_fl]
  | n + 1, c :: r, p => by
    unfold pt
    cases e : fst old ((c :: r).take 8) with
    | none =>
      simp only
      have := size_pt old n r (p ++ [c])
      simp at this ⊢
      omega
    | some i =>
      simp only
      obtain ⟨h1, h2, h3⟩ := hit e
      have := size_pt old n ((c :: r).drop (lcp (c :: r) (old.drop i))) []
      rw [size_app, size_fl]
      unfold sizeL
      rw [List.length_drop] at this
      simp only [List.length_nil, List.length_cons] at this h2 ⊢
      omega
theorem size_parts (old new : List Nat) : sizeL (parts old new) ≤ new.length := by
  have := size_pt old new.length new []
  simpa [parts] using this
/-! #### each part is as it is to be -/
theorem fine_pt (old new : List Nat) : ∀ (n : Nat) (rest p : List Nat) (a : Nat), rest.length ≤ n → new.drop (a + p.length) = rest → (∀ k, k < p.length → fst old (win new (a + k)) = none) → fineP old new a false (pt old n rest p)
  | 0, rest, p, a, h, e, hp => by
    unfold pt fl
    split
    · exact trivial
    · rename_i hn; exact ⟨hn, rfl, hp, trivial⟩
  | n + 1, [], p, a, h, e, hp => by
    unfold pt fl
    split
    · exact trivial
    · rename_i hn; exact ⟨hn, rfl, hp, trivial⟩
  | n + 1, c :: r, p, a, h, e, hp => by
    unfold pt
    have ew : win new (a + p.length) = (c :: r).take 8 := by unfold win; rw [e]
    cases ef : fst old ((c :: r).take 8) with
    | none =>
      simp only
      refine fine_pt old new n r (p ++ [c]) a (by simpa using h) ?_ fun k hk => ?_
      · have : new.drop (a + (p ++ [c]).length) = (new.drop (a + p.length)).drop 1 := by
          rw [List.drop_drop]; congr 1; simp; omega
        rw [this, e]; rfl
      · simp at hk
        by_cases h2 : k < p.length
        · exact hp k h2
        · have : k = p.length := by omega
          subst this
          rw [ew]; exact ef
    | some i =>
      simp only
      obtain ⟨h1, h2, h3⟩ := hit ef
      have key : fineP old new (a + p.length + lcp (c :: r) (old.drop i)) false (pt old n ((c :: r).drop (lcp (c :: r) (old.drop i))) []) := by
        refine fine_pt old new n _ [] _ (by rw [List.length_drop]; simp at h ⊢; omega) ?_ fun k hk => by simp at hk
        rw [← e, List.drop_drop]
        rfl
      unfold fl
      split
      · rename_i hn
        subst hn
        exact ⟨h1, h3, key⟩
      · rename_i hn
        exact ⟨hn, rfl, hp, h1, h3, key⟩
theorem fine_parts (old new : List Nat) : fineP old new 0 false (parts old new) := fine_pt old new _ _ [] 0 (Nat.le_refl _) (by simp) fun k hk => by simp at hk
/-- what patched asks of a part -/
def okP (old : List Nat) : Pt → Prop
  | .s _ => True
  | .c i k => 1 ≤ k ∧ i + k ≤ old.length
theorem fine_ok {old new : List Nat} : ∀ {l : List Pt} {a : Nat} {f : Bool}, fineP old new a f l → ∀ p ∈ l, okP old p
  | [], _, _, _, p, hp => by cases hp
  | .s l :: r, a, f, h, p, hp => by
    rcases List.mem_cons.mp hp with e | e
    · subst e; exact trivial
    · exact fine_ok h.2.2.2 p e
  | .c i k :: r, a, f, h, p, hp => by
    rcases List.mem_cons.mp hp with e | e
    · subst e; exact ⟨by have := h.1; omega, h.2.1⟩
    · exact fine_ok h.2.2 p e
/-! #### special texts -/
/-- a stretch in which nothing is found -/
theorem pt_none (old : List Nat) : ∀ (m n : Nat) (rest p : List Nat), m ≤ rest.length → (∀ j, j < m → fst old (win rest j) = none) → pt old (n + m) rest p = pt old n (rest.drop m) (p ++ rest.take m)
  | 0, n, rest, p, _, _ => by simp
  | m + 1, n, [], p, h, _ => by simp at h
  | m + 1, n, c :: r, p, h, hf => by
    have e0 : fst old ((c :: r).take 8) = none := by have := hf 0 (by omega); simpa [win] using this
    show pt old ((n + m) + 1) (c :: r) p = _
    rw [show pt old ((n + m) + 1) (c :: r) p = pt old (n + m) r (p ++ [c]) by
      conv => lhs; unfold pt
      simp only [e0]]
    rw [pt_none old m n r (p ++ [c]) (by simpa using h) fun j hj => ?_]
    · simp
    · have := hf (j + 1) (by omega)
      simpa [win] using this
theorem pt_hit (old : List Nat) {n i : Nat} {rest p : List Nat} (h : fst old (rest.take 8) = some i) : pt old (n + 1) rest p = fl p ++ (.c i (lcp rest (old.drop i)) :: pt old n (rest.drop (lcp rest (old.drop i))) []) := by
  cases rest with
  | nil => rw [fst_short (by simp)] at h; cases h
  | cons c r =>
    conv => lhs; unfold pt
    simp only [h]
theorem pt_nil (old p : List Nat) (n : Nat) : pt old n [] p = fl p := by cases n <;> rfl
theorem parts_self {old : List Nat} (h : 8 ≤ old.length) : parts old old = [.c 0 old.length] := by
  unfold parts
  obtain ⟨n, hn⟩ : ∃ n, old.length = n + 1 := ⟨old.length - 1, by omega⟩
  rw [hn, pt_hit old (fst_zero h)]
  have e1 : lcp old (old.drop 0) = old.length := lcp_self old
  rw [e1, List.drop_eq_nil_of_le (Nat.le_refl _), pt_nil, hn]
  rfl
theorem parts_short {old new : List Nat} (h : old.length < 8) : parts old new = fl new := by
  unfold parts
  have := pt_none old new.length 0 new [] (Nat.le_refl _) fun j _ => fst_none.mpr fun i hi => absurd hi (by omega)
  simpa [pt] using this
theorem parts_turn {old : List Nat} (u : uniq old) {cut : Nat} (h1 : 8 ≤ cut) (h2 : cut + 8 ≤ old.length) : parts old (old.drop cut ++ old.take cut) = [.c cut (old.length - cut), .c 0 cut] := by
  unfold parts
  have el : (old.drop cut ++ old.take cut).length = (old.length - 2) + 1 + 1 := by simp; omega
  rw [el]
  have t8 : (old.drop cut ++ old.take cut).take 8 = win old cut := by
    unfold win; rw [List.take_append_of_le_length (by simp; omega)]
  rw [pt_hit old (by rw [t8]; exact fst_at u h2), lcp_pre]
  have d1 : (old.drop cut ++ old.take cut).drop (old.drop cut).length = old.take cut := by simp
  rw [d1]
  have t9 : (old.take cut).take 8 = old.take 8 := by rw [List.take_take]; congr 1; omega
  have e2 : lcp (old.take cut) (old.drop 0) = cut := by
    have : old.drop 0 = old.take cut ++ old.drop cut := by simp
    rw [this, lcp_pre2, List.length_take]; omega
  rw [pt_hit old (by rw [t9]; exact fst_zero (by omega)), e2]
  have d2 : (old.take cut).drop cut = [] := List.drop_eq_nil_of_le (by simp; omega)
  rw [d2, pt_nil]
  simp [fl]
theorem rep_len {α : Type} (l : List α) : ∀ t, (rep l t).length = t * l.length
  | 0 => by simp [rep]
  | t + 1 => by simp [rep, rep_len l t, Nat.succ_mul]; omega
theorem pt_times {old : List Nat} (h : 8 ≤ old.length) : ∀ (t n : Nat), t ≤ n → pt old n (rep old t) [] = List.replicate t (.c 0 old.length)
  | 0, n, _ => by simp [rep, pt_nil, fl]
  | t + 1, 0, hn => by omega
  | t + 1, n + 1, hn => by
    have t8 : (rep old (t + 1)).take 8 = old.take 8 := by unfold rep; rw [List.take_append_of_le_length h]
    rw [pt_hit old (by rw [t8]; exact fst_zero h)]
    have e1 : lcp (rep old (t + 1)) (old.drop 0) = old.length := lcp_pre old _
    rw [e1]
    have d1 : (rep old (t + 1)).drop old.length = rep old t := by show (old ++ rep old t).drop old.length = rep old t; simp
    rw [d1, pt_times h t n (by omega)]
    simp [fl, List.replicate_succ]
theorem parts_times {old : List Nat} (h : 8 ≤ old.length) (t : Nat) : parts old (rep old t) = List.replicate t (.c 0 old.length) := by
  unfold parts
  refine pt_times h t _ ?_
  rw [rep_len]
  exact Nat.le_mul_of_pos_right _ (by omega)
/-! #### new signs put in -/
theorem lcp_app : ∀ (x y z : List Nat), lcp (x ++ y) (x ++ z) = x.length + lcp y z
  | [], y, z => by simp
  | a :: r, y, z => by
    show (if a = a then lcp (r ++ y) (r ++ z) + 1 else 0) = _
    rw [if_pos rfl, lcp_app r y z, List.length_cons]
    omega
theorem lcp_no {c : Nat} {x y : List Nat} (h : c ∉ y) : lcp (c :: x) y = 0 := by
  cases y with
  | nil => rfl
  | cons b s =>
    unfold lcp
    rw [if_neg fun e => h (by rw [e]; exact List.mem_cons_self)]
def tailP (old : List Nat) (a : Nat) (p : List Nat) : List Pt := if a + 8 ≤ old.length then fl p ++ [.c a (old.length - a)] else fl (p ++ old.drop a)
theorem pt_tail {old : List Nat} (u : uniq old) {a n : Nat} {p : List Nat} (hn : old.length - a ≤ n) : pt old n (old.drop a) p = tailP old a p := by
  unfold tailP
  split
  · rename_i h
    obtain ⟨m, rfl⟩ : ∃ m, n = m + 1 := ⟨n - 1, by omega⟩
    rw [pt_hit old (i := a) (fst_at u h), lcp_self, List.drop_eq_nil_of_le (Nat.le_refl _), pt_nil, List.length_drop]
    rfl
  · rename_i h
    obtain ⟨m, rfl⟩ : ∃ m, n = m + (old.drop a).length := ⟨n - (old.drop a).length, by rw [List.length_drop]; omega⟩
    rw [pt_none old (old.drop a).length m (old.drop a) p (Nat.le_refl _) fun j hj => fst_short (by rw [win_len, List.length_drop]; omega)]
    rw [List.drop_length, pt_nil, List.take_length]
theorem mem_win {s : List Nat} {i j c : Nat} (h1 : s[j]? = some c) (h2 : i ≤ j) (h3 : j < i + 8) : c ∈ win s i := by
  unfold win
  refine List.mem_of_getElem? (i := j - i) ?_
  rw [List.getElem?_take_of_lt (by omega), List.getElem?_drop]
  rw [show i + (j - i) = j by omega]
  exact h1
theorem parts_ins {old more : List Nat} (u : uniq old) (hm : more ≠ []) (hf : ∀ c ∈ more, c ∉ old) {a : Nat} (ha : a ≤ old.length) :
    parts old (old.take a ++ more ++ old.drop a) = if 8 ≤ a then .c 0 a :: tailP old a more else tailP old a (old.take a ++ more) := by
  obtain ⟨c, m, rfl⟩ : ∃ c m, more = c :: m := by
    cases more with
    | nil => exact absurd rfl hm
    | cons c m => exact ⟨c, m, rfl⟩
  unfold parts
  split
  · rename_i h8
    have el : (old.take a ++ (c :: m) ++ old.drop a).length = (old.length + m.length) + 1 := by simp; omega
    rw [el]
    have t8 : (old.take a ++ (c :: m) ++ old.drop a).take 8 = old.take 8 := by
      rw [List.append_assoc, List.take_append_of_le_length (by simp; omega), List.take_take]
      congr 1; omega
    rw [pt_hit old (by rw [t8]; exact fst_zero (by omega))]
    have e1 : lcp (old.take a ++ (c :: m) ++ old.drop a) (old.drop 0) = a := by
      have e : old.drop 0 = old.take a ++ old.drop a := by simp
      rw [e, List.append_assoc, lcp_app, List.cons_append, lcp_no fun z => hf c List.mem_cons_self (List.mem_of_mem_drop z), List.length_take]
      omega
    rw [e1]
    have d1 : (old.take a ++ (c :: m) ++ old.drop a).drop a = (c :: m) ++ old.drop a := by
      rw [List.append_assoc, List.drop_append_of_le_length (by simp; omega), List.drop_eq_nil_of_le (by simp; omega)]
      rfl
    rw [d1]
    obtain ⟨n, hn⟩ : ∃ n, old.length + m.length = n + (c :: m).length := ⟨old.length - 1, by simp; omega⟩
    rw [hn, pt_none old (c :: m).length n _ [] (by simp) fun j hj => ?_]
    · have d2 : ((c :: m) ++ old.drop a).drop (c :: m).length = old.drop a := by simp
      have d3 : ((c :: m) ++ old.drop a).take (c :: m).length = c :: m := by simp
      rw [d2, d3, pt_tail u (by simp at hn; omega)]
      rfl
    · have hj2 : ((c :: m) ++ old.drop a)[j]? = some (c :: m)[j] := by rw [List.getElem?_append_left hj, List.getElem?_eq_getElem hj]
      exact fst_not (mem_win hj2 (Nat.le_refl _) (by omega)) (hf _ (List.getElem_mem hj))
  · rename_i h8
    have el : (old.take a ++ (c :: m) ++ old.drop a).length = (old.length - a) + (old.take a ++ (c :: m)).length := by simp; omega
    have at_ : ∀ j, a ≤ j → ∀ hj : j < (old.take a ++ (c :: m)).length, ∃ d, (old.take a ++ (c :: m) ++ old.drop a)[j]? = some d ∧ d ∈ c :: m := fun j h1 hj => by
      have la : (old.take a).length = a := by simp; omega
      have hj2 : j - a < (c :: m).length := by rw [List.length_append, la] at hj; omega
      refine ⟨(c :: m)[j - a], ?_, List.getElem_mem hj2⟩
      rw [List.getElem?_append_left hj, List.getElem?_append_right (by omega), la, List.getElem?_eq_getElem hj2]
    rw [el, pt_none old (old.take a ++ (c :: m)).length _ _ [] (by simp) fun j hj => ?_]
    · have d2 : (old.take a ++ (c :: m) ++ old.drop a).drop (old.take a ++ (c :: m)).length = old.drop a := List.drop_left
      have d3 : (old.take a ++ (c :: m) ++ old.drop a).take (old.take a ++ (c :: m)).length = old.take a ++ (c :: m) := List.take_left
      rw [d2, d3, pt_tail u (Nat.le_refl _)]
      rfl
    · by_cases hja : a ≤ j
      · obtain ⟨d, h1, h2⟩ := at_ j hja hj
        exact fst_not (mem_win h1 (Nat.le_refl _) (by omega)) (hf d h2)
      · obtain ⟨d, h1, h2⟩ := at_ a (Nat.le_refl _) (by simp; omega)
        exact fst_not (mem_win h1 (by omega) (by omega)) (hf d h2)
def least (n : Nat) : Nat := if n < 8 then n else 8
theorem size_tail {old : List Nat} {a : Nat} (p : List Nat) (ha : a ≤ old.length) : sizeL (tailP old a p) = p.length + least (old.length - a) := by
  unfold tailP least
  split
  · rw [size_app, size_fl, if_neg (by omega)]; rfl
  · rw [size_fl, List.length_append, List.length_drop, if_pos (by omega)]
theorem size_ins {old more : List Nat} (u : uniq old) (hm : more ≠ []) (hf : ∀ c ∈ more, c ∉ old) {a : Nat} (ha : a ≤ old.length) : sizeL (parts old (old.take a ++ more ++ old.drop a)) = least a + more.length + least (old.length - a) := by
  rw [parts_ins u hm hf ha]
  split
  · rename_i h8
    show 8 + sizeL _ = _
    rw [size_tail _ ha]
    unfold least
    rw [if_neg (show ¬ a < 8 by omega)]
    omega
  · rename_i h8
    rw [size_tail _ ha, List.length_append, List.length_take]
    have : least a = a := if_pos (by omega)
    rw [this]
    omega
theorem parts_ins8 {old more : List Nat} (u : uniq old) (hm : more ≠ []) (hf : ∀ c ∈ more, c ∉ old) {a : Nat} (h1 : 8 ≤ a) (h2 : a + 8 ≤ old.length) : parts old (old.take a ++ more ++ old.drop a) = [.c 0 a, .s more, .c a (old.length - a)] := by
  rw [parts_ins u hm hf (by omega), if_pos h1]
  unfold tailP fl
  rw [if_pos h2, if_neg hm]
  rfl
/-! #### the texts in which no eight signs come twice -/
def dig4 (n : Nat) : List Nat := [48 + n / 1000 % 10, 48 + n / 100 % 10, 48 + n / 10 % 10, 48 + n % 10]
theorem digit_nat : ∀ d, d < 10 → (Nat.digitChar d).toNat = 48 + d := by decide
theorem numS_4 {n : Nat} (h1 : 1000 ≤ n) (h2 : n < 10000) : numS n = dig4 n := by
  unfold numS
  have e : Nat.toDigits 10 n = [Nat.digitChar (n / 1000 % 10), Nat.digitChar (n / 100 % 10), Nat.digitChar (n / 10 % 10), Nat.digitChar (n % 10)] := by
    obtain ⟨m, rfl⟩ : ∃ m, n = m + 4 := ⟨n - 4, by omega⟩
    have d1 : (m + 4) / 10 / 10 = (m + 4) / 100 := by omega
    have d2 : (m + 4) / 100 / 10 = (m + 4) / 1000 := by omega
    have d3 : (m + 4) / 1000 / 10 = 0 := by omega
    have z1 : (m + 4) / 10 ≠ 0 := by omega
    have z2 : (m + 4) / 100 ≠ 0 := by omega
    have z3 : (m + 4) / 1000 ≠ 0 := by omega
    unfold Nat.toDigits
    simp only [Nat.toDigitsCore, d1, d2, d3, z1, z2, z3, if_false, if_true]
  rw [e]
  simp only [List.map_cons, List.map_nil]
  rw [digit_nat _ (by omega), digit_nat _ (by omega), digit_nat _ (by omega), digit_nat _ (by omega)]
  rfl
def piece (st k : Nat) : List Nat := dig4 (st + k) ++ [124]
def oldS (st cnt : Nat) : List Nat := (List.range cnt).flatMap (piece st)
theorem flat_get {f : Nat → List Nat} (hf : ∀ x, (f x).length = 5) : ∀ (l : List Nat) (k j : Nat), j < 5 → (l.flatMap f)[5 * k + j]? = l[k]?.bind fun x => (f x)[j]?
  | [], k, j, _ => by simp
  | x :: l, 0, j, hj => by
    rw [List.flatMap_cons, List.getElem?_append_left (by rw [hf]; omega)]
    simp
  | x :: l, k + 1, j, hj => by
    rw [List.flatMap_cons, List.getElem?_append_right (by rw [hf]; omega), hf, show 5 * (k + 1) + j - 5 = 5 * k + j by omega, flat_get hf l k j hj]
    simp
theorem oldS_len (st cnt : Nat) : (oldS st cnt).length = 5 * cnt := by
  unfold oldS
  rw [List.length_flatMap]
  have : (List.map (fun a => (piece st a).length) (List.range cnt)) = List.replicate cnt 5 := by
    rw [List.eq_replicate_iff]
    refine ⟨by simp, fun b hb => ?_⟩
    obtain ⟨x, _, rfl⟩ := List.mem_map.mp hb
    rfl
  rw [this, List.sum_replicate_nat]
  omega
theorem oldS_get {st cnt k j : Nat} (hk : k < cnt) (hj : j < 5) : (oldS st cnt)[5 * k + j]? = (piece st k)[j]? := by
  unfold oldS
  rw [flat_get (fun _ => rfl) _ _ _ hj, List.getElem?_range hk]
  rfl
theorem oldS_ch {st cnt : Nat} {c : Nat} (h : c ∈ oldS st cnt) : c = 124 ∨ (48 ≤ c ∧ c < 58) := by
  unfold oldS at h
  obtain ⟨k, _, hc⟩ := List.mem_flatMap.mp h
  simp [piece, dig4] at hc
  omega
theorem win_get {s : List Nat} {i j : Nat} (h : j < 8) : (win s i)[j]? = s[i + j]? := by
  unfold win
  rw [List.getElem?_take_of_lt h, List.getElem?_drop]
theorem oldS_uniq {st cnt : Nat} (h1 : 1000 ≤ st) (h2 : st + cnt ≤ 10000) : uniq (oldS st cnt) := by
  intro p q hp hq e
  rw [oldS_len] at hp hq
  have ge : ∀ i, i < 8 → (oldS st cnt)[p + i]? = (oldS st cnt)[q + i]? := fun i hi => by rw [← win_get hi, ← win_get hi, e]
  -- the bars
  have bar : ∀ n, n < 5 * cnt → ((oldS st cnt)[n]? = some 124 ↔ n % 5 = 4) := fun n hn => by
    have en : n = 5 * (n / 5) + n % 5 := by omega
    have hk : n / 5 < cnt := by omega
    have hj : n % 5 < 5 := by omega
    rw [show (oldS st cnt)[n]? = (oldS st cnt)[5 * (n / 5) + n % 5]? by rw [← en], oldS_get hk hj]
    generalize n % 5 = j at hj
    generalize st + n / 5 = m at *
    have : ∀ x, 48 + x % 10 ≠ 124 := fun x => by omega
    match j, hj with
    | 0, _ => simp [piece, dig4]; omega
    | 1, _ => simp [piece, dig4]; omega
    | 2, _ => simp [piece, dig4]; omega
    | 3, _ => simp [piece, dig4]; omega
    | 4, _ => simp [piece, dig4]
  have mod : p % 5 = q % 5 := by
    have b1 := (bar (p + (4 - p % 5)) (by omega)).mpr (by omega)
    rw [ge _ (by omega)] at b1
    have b2 := (bar (q + (4 - p % 5)) (by omega)).mp b1
    omega
  obtain ⟨i0, hi0, k, ek⟩ : ∃ i0, i0 ≤ 4 ∧ ∃ k, p + i0 = 5 * k := ⟨(5 - p % 5) % 5, by omega, (p + 4) / 5, by omega⟩
  obtain ⟨k', ek'⟩ : ∃ k', q + i0 = 5 * k' := ⟨(q + i0) / 5, by omega⟩
  have hk : k < cnt := by omega
  have hk' : k' < cnt := by omega
  have g : ∀ j, j < 4 → (piece st k)[j]? = (piece st k')[j]? := fun j hj => by
    have := ge (i0 + j) (by omega)
    rw [← Nat.add_assoc, ← Nat.add_assoc, ek, ek', oldS_get hk (by omega), oldS_get hk' (by omega)] at this
    exact this
  have g0 := g 0 (by omega)
  have g1 := g 1 (by omega)
  have g2 := g 2 (by omega)
  have g3 := g 3 (by omega)
  simp [piece, dig4] at g0 g1 g2 g3
  omega
end Y.k29

set_option maxHeartbeats 1000000
namespace Y.k29
open PySem Y
/-! ### digests -/
def pr : Int := 2305843009213693951
def num (s : List Nat) (f : Int) : Int := s.foldl (fun (f : Int) (c : Nat) => (f * 2000003 + (c : Int)) % pr) f
def hexL : List Nat := [48, 49, 50, 51, 52, 53, 54, 55, 56, 57, 97, 98, 99, 100, 101, 102]
def hexd (n : Int) : Nat := hexL.getD (n % 16).toNat 0
def digs : Nat → Int → List Nat → List Nat
  | 0, _, acc => acc
  | k + 1, n, acc => digs k (n / 16) (hexd n :: acc)
def dig (s : List Nat) : List Nat := digs 16 (num s ((s.length : Int) + 7)) []
theorem num_for : ∀ (s : List Nat) (t : PV) (f : Int) (x : Option PV) (h : VH), ∃ x', forL (tName 2) m_number_of_1_b (s.map fun c => .str [c]) [some t, some (.int f), x] h = .nx [some t, some (.int (num s f)), x'] h
  | [], t, f, x, h => ⟨x, rfl⟩
  | c :: r, t, f, x, h => by
    obtain ⟨x', e⟩ := num_for r t ((f * 2000003 + (c : Int)) % pr) (some (.str [c])) h
    refine ⟨x', ?_⟩
    rw [List.map_cons, forL_cons]
    simp [m_number_of_1_b, mulOk]
    exact e
theorem number_of_ok (s : List Nat) (h : VH) : F_number_of [.str s] h = .ok (.int (num s ((s.length : Int) + 7))) h := by
  obtain ⟨x', e⟩ := num_for s (.str s) ((s.length : Int) + 7) none h
  unfold F_number_of runDef m_number_of startS
  simp [m_number_of_0, m_number_of_1, m_number_of_2, e]
theorem hex_it (n : Int) : itO hexL (n % 16) = some (hexd n) := by
  have hk : ∀ k : Nat, k < 16 → itO hexL (k : Int) = some (hexL.getD k 0) := by decide
  have h1 : n % 16 = ((n % 16).toNat : Int) := by omega
  rw [h1, hk _ (by omega)]
  rfl
theorem digs_len : ∀ (k : Nat) (n : Int) (acc : List Nat), (digs k n acc).length = k + acc.length
  | 0, _, acc => by simp [digs]
  | k + 1, n, acc => by
    unfold digs
    rw [digs_len k]
    simp; omega
theorem dig_len (s : List Nat) : (dig s).length = 16 := digs_len 16 _ _
theorem rangeL_cons (lo : Int) (n : Nat) : rangeL lo (n + 1) = .int lo :: rangeL (lo + 1) n := by
  unfold rangeL
  rw [List.range_succ_eq_map]
  simp
  intro a _
  omega
theorem digs_for : ∀ (k : Nat) (lo : Int) (t : PV) (n : Int) (acc : List Nat) (x : Option PV) (h : VH), acc.length + k ≤ 16 → ∃ n' x', forL (tName 3) m_digest_1_b (rangeL lo k) [some t, some (.int n), some (.str acc), x] h = .nx [some t, some (.int n'), some (.str (digs k n acc)), x'] h
  | 0, lo, t, n, acc, x, h, _ => ⟨n, x, rfl⟩
  | k + 1, lo, t, n, acc, x, h, hl => by
    obtain ⟨n', x', e⟩ := digs_for k (lo + 1) t (n / 16) (hexd n :: acc) (some (.int lo)) h (by simp; omega)
    refine ⟨n', x', ?_⟩
    have e2 := hex_it n
    unfold hexL at e2
    have l1 : 1 + acc.length ≤ line := Nat.le_trans (show 1 + acc.length ≤ 17 by omega) (by decide)
    rw [rangeL_cons, forL_cons]
    simp [m_digest_1_b, m_digest_1_b_0, m_digest_1_b_1, e2, l1]
    exact e
theorem digest_ok (s : List Nat) (h : VH) : F_digest [.str s] h = .ok (.str (dig s)) h := by
  obtain ⟨n', x', e⟩ := digs_for 16 0 (.str s) (num s ((s.length : Int) + 7)) [] none h (by simp)
  unfold F_digest runDef m_digest startS
  simp [m_digest_0, m_digest_1, m_digest_2, number_of_ok, rngOk, e]
  rfl
theorem lnum_for : ∀ (s : List Nat) (t u : PV) (f : Int) (x y : Option PV) (h : VH), ∃ x', forL (tName 3) m__law_digest_1_b (s.map fun c => .str [c]) [some t, some (.int f), some u, x, y] h = .nx [some t, some (.int (num s f)), some u, x', y] h
  | [], t, u, f, x, y, h => ⟨x, rfl⟩
  | c :: r, t, u, f, x, y, h => by
    obtain ⟨x', e⟩ := lnum_for r t u ((f * 2000003 + (c : Int)) % pr) (some (.str [c])) y h
    refine ⟨x', ?_⟩
    rw [List.map_cons, forL_cons]
    simp [m__law_digest_1_b, mulOk]
    exact e
theorem ldigs_for : ∀ (k : Nat) (lo : Int) (t : PV) (n : Int) (acc : List Nat) (y x : Option PV) (h : VH), acc.length + k ≤ 16 → ∃ n' x', forL (tName 4) m__law_digest_2_b (rangeL lo k) [some t, some (.int n), some (.str acc), y, x] h = .nx [some t, some (.int n'), some (.str (digs k n acc)), y, x'] h
  | 0, lo, t, n, acc, y, x, h, _ => ⟨n, x, rfl⟩
  | k + 1, lo, t, n, acc, y, x, h, hl => by
    obtain ⟨n', x', e⟩ := ldigs_for k (lo + 1) t (n / 16) (hexd n :: acc) y (some (.int lo)) h (by simp; omega)
    refine ⟨n', x', ?_⟩
    have e2 := hex_it n
    unfold hexL at e2
    have l1 : 1 + acc.length ≤ line := Nat.le_trans (show 1 + acc.length ≤ 17 by omega) (by decide)
    rw [rangeL_cons, forL_cons]
    simp [m__law_digest_2_b, m__law_digest_2_b_0, m__law_digest_2_b_1, e2, l1]
    exact e
theorem law_digest_ok (s : List Nat) (h : VH) : F__law_digest [.str s] h = .ok (.str (dig s)) h := by
  obtain ⟨x1, e1⟩ := lnum_for s (.str s) (.str []) ((s.length : Int) + 7) none none h
  obtain ⟨n', x', e⟩ := ldigs_for 16 0 (.str s) (num s ((s.length : Int) + 7)) [] x1 none h (by simp)
  unfold F__law_digest runDef m__law_digest startS
  simp [m__law_digest_0, m__law_digest_1, m__law_digest_2, m__law_digest_3, e1, rngOk, e]
  rfl
/-! ### the tape -/
def tp (cs : List Int) (a l s z : Int) : List (PV × PV) := [(t_cells, .lst (cs.map .int)), (t_at, .int a), (t_left, .int l), (t_seed, .int s), (t_salt, .int z)]
section
variable (cs : List Int) (a l s z : Int)
@[simp] theorem tp_cells : kget (tp cs a l s z) t_cells = some (.lst (cs.map .int)) := by simp [kget, tp]
@[simp] theorem tp_at : kget (tp cs a l s z) t_at = some (.int a) := by simp [kget, tp]
@[simp] theorem tp_left : kget (tp cs a l s z) t_left = some (.int l) := by simp [kget, tp]
@[simp] theorem tp_seed : kget (tp cs a l s z) t_seed = some (.int s) := by simp [kget, tp]
@[simp] theorem tp_salt : kget (tp cs a l s z) t_salt = some (.int z) := by simp [kget, tp]
@[simp] theorem tp_pat (v : Int) : kput (tp cs a l s z) t_at (.int v) = tp cs v l s z := by simp [kput, kget, tp]
@[simp] theorem tp_pleft (v : Int) : kput (tp cs a l s z) t_left (.int v) = tp cs a v s z := by simp [kput, kget, tp]
@[simp] theorem tp_psalt (v : Int) : kput (tp cs a l s z) t_salt (.int v) = tp cs a l s v := by simp [kput, kget, tp]
end
theorem set_tp {h : VH} {t : Nat} {cs : List Int} {a l s z : Int} {k : List Nat} {v : PV} (e : h[t]? = some (.dct (tp cs a l s z))) : setIx (.ref t) (.str k) v h = some (h.set t (.dct (kput (tp cs a l s z) (.str k) v))) := by
  unfold setIx
  simp only [e]
  rfl
/-- the tape stands at t -/
structure Tape (h : VH) (t : Nat) (cs : List Int) (a l s z : Int) : Prop where
  at_ : h[t]? = some (.dct (tp cs a l s z))
  cs0 : ∀ c ∈ cs, 0 ≤ c
  a0 : 0 ≤ a
  l0 : 0 ≤ l
  s0 : 0 ≤ s ∧ s < 2147483647
theorem set_get {h : VH} {t : Nat} {o : VO} (ht : t < h.length) : (h.set t o)[t]? = some o := List.getElem?_set_self ht
theorem take_1 {h : VH} {t : Nat} {cs : List Int} {a l s z m : Int} (T : Tape h t cs a l s z) (hm : 0 < m ∧ m < 1073741824) :
    ∃ v l' z', (∃ σ h', m__law_take_1 [some (.ref t), some (.int m), none, none] h = .nx σ h' ∧ sSeq m__law_take_2 (sSeq m__law_take_3 (sSeq m__law_take_4 m__law_take_5)) σ h' = .ret (.int v) (h.set t (.dct (tp cs a l' s z'))) ∨ m__law_take_1 [some (.ref t), some (.int m), none, none] h = .ret (.int v) (h.set t (.dct (tp cs a l' s z')))) ∧ 0 ≤ v ∧ v < m ∧ 0 ≤ l' := by
  obtain ⟨e, _, _, hl, hs1, hs2⟩ := T
  have ht : t < h.length := (List.getElem?_eq_some_iff.mp e).1
  have x0 : ∀ (o : VO), (h.set t o)[t]? = some o := fun o => set_get ht
  by_cases h0 : 0 < l
  · refine ⟨l % m, l / m, z, ⟨[], [], .inr ?_⟩, Int.emod_nonneg _ (by omega), Int.emod_lt_of_pos _ hm.1, Int.ediv_nonneg hl (by omega)⟩
    unfold m__law_take_1
    simp [ix_refd e, h0, hm.1, divOk_of hm.1 hm.2, set_tp e]
  · refine ⟨((((s * 48271 + (z + 1) * 69621) % 2147483647) * ((s * 48271 + (z + 1) * 69621) % 2147483647) + (z + 1) * 40692 + 12345) % 2147483399) % m, l, z + 1, ⟨[some (.ref t), some (.int m), none, none], h, .inl ⟨?_, ?_⟩⟩, Int.emod_nonneg _ (by omega), Int.emod_lt_of_pos _ hm.1, hl⟩
    · unfold m__law_take_1
      simp [ix_refd e, h0]
    · have b1 : 0 ≤ (s * 48271 + (z + 1) * 69621) % 2147483647 := Int.emod_nonneg _ (by decide)
      have b2 : (s * 48271 + (z + 1) * 69621) % 2147483647 < 2147483647 := Int.emod_lt_of_pos _ (by decide)
      have b3 : mulOk ((s * 48271 + (z + 1) * 69621) % 2147483647) = true := mulOk_of (by omega) (by omega)
      have c1 : mulOk 48271 = true := rfl
      have c2 : mulOk 69621 = true := rfl
      have c3 : mulOk 40692 = true := rfl
      unfold m__law_take_2 m__law_take_3 m__law_take_4 m__law_take_5
      simp [ix_refd e, set_tp e, ix_refd (x0 _), c1, c2, c3, b3, hm.1]
theorem take_ok {h : VH} {t : Nat} {cs : List Int} {a l s z m : Int} (T : Tape h t cs a l s z) (hm : 0 < m ∧ m < 1073741824) :
    ∃ v a' l' z', F__law_take [.ref t, .int m] h = .ok (.int v) (h.set t (.dct (tp cs a' l' s z'))) ∧ 0 ≤ v ∧ v < m ∧ Tape (h.set t (.dct (tp cs a' l' s z'))) t cs a' l' s z' := by
  obtain ⟨e, hc, ha, hl, hs⟩ := id T
  have ht : t < h.length := (List.getElem?_eq_some_iff.mp e).1
  have x0 : ∀ (o : VO), (h.set t o)[t]? = some o := fun o => set_get ht
  obtain ⟨h1, a1, l1, e1, T1, k1⟩ : ∃ h1 a1 l1, m__law_take_0 [some (.ref t), some (.int m), none, none] h = .nx [some (.ref t), some (.int m), none, none] h1 ∧ Tape h1 t cs a1 l1 s z ∧ ∀ o, h1.set t o = h.set t o := by
    by_cases hq : l = 0 ∧ a < cs.length
    · obtain ⟨q1, q2⟩ := hq
      subst q1
      obtain ⟨i, rfl⟩ : ∃ i : Nat, a = i := ⟨a.toNat, by omega⟩
      have hi : i < cs.length := by omega
      refine ⟨h.set t (.dct (tp cs (i + 1) cs[i] s z)), i + 1, cs[i], ?_, ⟨x0 _, hc, by omega, hc _ (List.getElem_mem hi), hs⟩, fun o => by simp⟩
      unfold m__law_take_0
      simp [ix_refd e, hi, set_tp e, ix_refd (x0 _), set_tp (x0 _), itO_nn]
    · refine ⟨h, a, l, ?_, T, fun o => rfl⟩
      unfold m__law_take_0
      by_cases q1 : l = 0
      · have q2 : ¬ a < cs.length := fun z => hq ⟨q1, z⟩
        simp [ix_refd e, q1, q2]
      · simp [ix_refd e, q1]
  obtain ⟨v, l', z', ⟨σ, h', e2⟩, v0, vm, l0⟩ := take_1 T1 hm
  refine ⟨v, a1, l', z', ?_, v0, vm, ⟨x0 _, hc, T1.a0, l0, hs⟩⟩
  refine run_ret rfl ?_
  show m__law_take [some (.ref t), some (.int m), none, none] h = _
  unfold m__law_take
  rw [seqE e1]
  rw [k1] at e2
  rcases e2 with ⟨e2, e3⟩ | e2
  · rw [seqE e2, e3]
  · rw [sSeq_e, e2]
def absI (i : Int) : Int := if i < 0 then -i else i
def absV : PV → PV
  | .int i => .int (absI i)
  | x => x
theorem tape_cells (ns : List Int) (h : VH) (hl : ns.length ≤ line) : lcLoop (tName 1) mYes (mBi bAbs (mCons (mBi bInt (mCons (mVar 1) mNil)) mNil)) [some (.scr ns), none, none, none] (ns.map PV.int) [] h = .ok ((ns.map absI).map PV.int) h := by
  rw [lc_map absV _ _ (by simpa using hl) fun x hx => ?_]
  · rw [List.nil_append, List.map_map, List.map_map]; rfl
  · obtain ⟨i, _, rfl⟩ := List.mem_map.mp hx
    refine ⟨_, rfl, ?_⟩
    simp [absV, absI]
theorem tape_seed : ∀ (cs : List Int) (v c : PV) (s : Int) (x : Option PV) (h : VH), 0 ≤ s ∧ s < 2147483647 → ∃ s' x', forL (tName 1) m__law_tape_2_b (cs.map PV.int) [some v, x, some c, some (.int s)] h = .nx [some v, x', some c, some (.int s')] h ∧ 0 ≤ s' ∧ s' < 2147483647
  | [], v, c, s, x, h, hs => ⟨s, x, rfl, hs⟩
  | i :: r, v, c, s, x, h, hs => by
    obtain ⟨s', x', e, hs'⟩ := tape_seed r v c ((s * 31 + i) % 2147483647) (some (.int i)) h ⟨Int.emod_nonneg _ (by decide), Int.emod_lt_of_pos _ (by decide)⟩
    refine ⟨s', x', ?_, hs'⟩
    rw [List.map_cons, forL_cons]
    simp [m__law_tape_2_b, mulOk]
    exact e
theorem tape_ok (ns : List Int) (h : VH) (hl : ns.length ≤ 63) : ∃ s, F__law_tape [.scr ns] h = .ok (.ref h.length) (h ++ [.dct (tp (ns.map absI) 0 0 s 0)]) ∧ 0 ≤ s ∧ s < 2147483647 := by
  obtain ⟨s, x, e, hs⟩ := tape_seed (ns.map absI) (.scr ns) (.lst ((ns.map absI).map .int)) 7 none h (by decide)
  refine ⟨s, run_ret rfl ?_, hs⟩
  show m__law_tape [some (.scr ns), none, none, none] h = _
  have e1 := tape_cells ns h (Nat.le_trans hl (by decide))
  unfold m__law_tape m__law_tape_0 m__law_tape_1 m__law_tape_2 m__law_tape_3
  rw [List.map_map] at e1 e
  simp [Y.wipe, e1, e, kmerge, kput, kget, tp]
/-! ### parts as values -/
def Pt.pv : Pt → PV
  | .s l => .str l
  | .c i k => .tup [.int i, .int k]
theorem least_ok (n : Nat) (h : VH) : F__law_least [.int n] h = .ok (.int (least n)) h := by
  refine run_ret rfl ?_
  show m__law_least [some (.int n)] h = _
  unfold m__law_least least
  by_cases hc : n < 8
  · have : (n : Int) < 8 := by omega
    simp [hc, this]
  · have : ¬ (n : Int) < 8 := by omega
    simp [hc, this]
def szP : Pt → Int
  | .s l => l.length
  | .c _ _ => 8
def szV : PV → PV
  | .str l => .int l.length
  | _ => .int 8
theorem sz_ints : ∀ ps : List Pt, intsOf (ps.map (szV ∘ Pt.pv)) = some (ps.map szP)
  | [] => rfl
  | .s l :: r => by simp [intsOf, Pt.pv, szV, szP, sz_ints r]
  | .c i k :: r => by simp [intsOf, Pt.pv, szV, szP, sz_ints r]
theorem sz_sum : ∀ ps : List Pt, (ps.map szP).sum = (sizeL ps : Int)
  | [] => rfl
  | .s l :: r => by simp [szP, sizeL, sz_sum r]
  | .c i k :: r => by simp [szP, sizeL, sz_sum r]
theorem size_ok (ps : List Pt) (h : VH) (hl : ps.length ≤ line) : F__law_size [.tup (ps.map Pt.pv)] h = .ok (.int (sizeL ps)) h := by
  refine run_ret rfl ?_
  show m__law_size [some (.tup (ps.map Pt.pv)), none] h = _
  unfold m__law_size
  have e := lc_map (tg := tName 1) (e := mIf (mTruth (mIsi "str" (mVar 1))) (mBi bLen (mCons (mVar 1) mNil)) (mC (.int 8))) (σ := [some (.tup (ps.map Pt.pv)), none]) (h := h) szV (ps.map Pt.pv) [] (by simpa using hl) fun x hx => by
    obtain ⟨p, _, rfl⟩ := List.mem_map.mp hx
    refine ⟨_, rfl, ?_⟩
    cases p <;> simp [Pt.pv, szV]
  simp only [sRet_e, mBi_e, mCons_e, mFz_e, mLc_e, mIter_e, vs1, v0_tup, R.bnd_ok, Y.wipe, List.set, e, List.nil_append, mNil_e, sum_1, List.map_map, sz_ints]
  simp [sz_sum]
theorem patch_size_ok (x : PV) (ps : List Pt) (h : VH) (hl : ps.length ≤ line) : F_patch_size [.tup [x, .tup (ps.map Pt.pv)]] h = .ok (.int (sizeL ps)) h := by
  refine run_ret rfl ?_
  show m_patch_size [some (.tup [x, .tup (ps.map Pt.pv)]), none] h = _
  unfold m_patch_size
  have e := lc_map (tg := tName 1) (e := mIf (mTruth (mIsi "str" (mVar 1))) (mBi bLen (mCons (mVar 1) mNil)) (mC g_BLOCK)) (σ := [some (.tup [x, .tup (ps.map Pt.pv)]), none]) (h := h) szV (ps.map Pt.pv) [] (by simpa using hl) fun y hy => by
    obtain ⟨p, _, rfl⟩ := List.mem_map.mp hy
    refine ⟨_, rfl, ?_⟩
    cases p <;> simp [Pt.pv, szV]
  have e1 : itO [x, .tup (ps.map Pt.pv)] 1 = some (.tup (ps.map Pt.pv)) := rfl
  simp only [sRet_e, mBi_e, mCons_e, mFz_e, mLc_e, mIter_e, mOp2_e, mC_e, ix_tup, e1, retO_some, vs1, v0_tup, R.bnd_ok, Y.wipe, List.set, e, List.nil_append, mNil_e, sum_1, List.map_map, sz_ints]
  simp [sz_sum]
/-! ### laying -/
theorem laid_for (old : List Nat) : ∀ (ps : List Pt) (acc : List Nat) (t : PV) (x : Option PV) (h : VH), acc.length + (laidL old ps).length ≤ line → ∃ x', forL (tName 3) m__law_laid_1_b (ps.map Pt.pv) [some (.str old), some t, some (.str acc), x] h = .nx [some (.str old), some t, some (.str (acc ++ laidL old ps)), x'] h
  | [], acc, t, x, h, _ => ⟨x, by simp [laidL]⟩
  | .s l :: r, acc, t, x, h, hl => by
    simp [laidL] at hl
    obtain ⟨x', e⟩ := laid_for old r (acc ++ l) t (some (.str l)) h (by simp; omega)
    refine ⟨x', ?_⟩
    have l1 : acc.length + l.length ≤ line := by omega
    rw [List.map_cons, forL_cons]
    simp [m__law_laid_1_b, Pt.pv, laidL, l1]
    simpa [m__law_laid_1_b] using e
  | .c i k :: r, acc, t, x, h, hl => by
    simp [laidL] at hl
    obtain ⟨x', e⟩ := laid_for old r (acc ++ (old.drop i).take k) t (some (.tup [.int i, .int k])) h (by simp; omega)
    refine ⟨x', ?_⟩
    have l1 : acc.length + min k (old.length - i) ≤ line := by omega
    have e0 : itO [PV.int (i : Int), PV.int (k : Int)] 0 = some (.int i) := rfl
    have e1 : itO [PV.int (i : Int), PV.int (k : Int)] 1 = some (.int k) := rfl
    have ec : cut old (some (i : Int)) (some ((i : Int) + (k : Int))) = (old.drop i).take k := by
      rw [show (i : Int) + (k : Int) = ((i + k : Nat) : Int) by omega, cut_nn, Nat.add_sub_cancel_left]
    rw [List.map_cons, forL_cons]
    simp [m__law_laid_1_b, Pt.pv, laidL, e0, e1, ec, l1]
    simpa [m__law_laid_1_b] using e
theorem laid_ok (old : List Nat) (ps : List Pt) (h : VH) (hl : (laidL old ps).length ≤ line) : F__law_laid [.str old, .tup (ps.map Pt.pv)] h = .ok (.str (laidL old ps)) h := by
  obtain ⟨x, e⟩ := laid_for old ps [] (.tup (ps.map Pt.pv)) none h (by simpa using hl)
  refine run_ret rfl ?_
  show m__law_laid [some (.str old), some (.tup (ps.map Pt.pv)), none, none] h = _
  unfold m__law_laid m__law_laid_0 m__law_laid_1 m__law_laid_2
  simp [e]
theorem patched_for (old : List Nat) : ∀ (ps : List Pt) (acc : List Nat) (a b c d : PV) (x y z : Option PV) (h : VH), acc.length + (laidL old ps).length ≤ line → (∀ p ∈ ps, okP old p) → ∃ x' y' z', forL (tName 6) m_patched_3_b (ps.map Pt.pv) [some (.str old), some a, some b, some c, some d, some (.str acc), x, y, z] h = .nx [some (.str old), some a, some b, some c, some d, some (.str (acc ++ laidL old ps)), x', y', z'] h
  | [], acc, a, b, c, d, x, y, z, h, _, _ => ⟨x, y, z, by simp [laidL]⟩
  | .s l :: r, acc, a, b, c, d, x, y, z, h, hl, hp => by
    simp [laidL] at hl
    obtain ⟨x', y', z', e⟩ := patched_for old r (acc ++ l) a b c d (some (.str l)) y z h (by simp; omega) fun p q => hp p (List.mem_cons_of_mem _ q)
    refine ⟨x', y', z', ?_⟩
    have l1 : acc.length + l.length ≤ line := by omega
    rw [List.map_cons, forL_cons]
    simp [m_patched_3_b, Pt.pv, laidL, l1]
    simpa [m_patched_3_b] using e
  | .c i k :: r, acc, a, b, c, d, x, y, z, h, hl, hp => by
    simp [laidL] at hl
    obtain ⟨x', y', z', e⟩ := patched_for old r (acc ++ (old.drop i).take k) a b c d (some (.tup [.int i, .int k])) (some (.int i)) (some (.int k)) h (by simp; omega) fun p q => hp p (List.mem_cons_of_mem _ q)
    refine ⟨x', y', z', ?_⟩
    obtain ⟨k1, k2⟩ := hp _ List.mem_cons_self
    have l1 : acc.length + min k (old.length - i) ≤ line := by omega
    have c1 : ¬ (i : Int) < 0 := by omega
    have c2 : ¬ (k : Int) < 1 := by omega
    have c3 : ¬ (old.length : Int) < (i : Int) + (k : Int) := by omega
    have ec : cut old (some (i : Int)) (some ((i : Int) + (k : Int))) = (old.drop i).take k := by
      rw [show (i : Int) + (k : Int) = ((i + k : Nat) : Int) by omega, cut_nn, Nat.add_sub_cancel_left]
    rw [List.map_cons, forL_cons]
    simp [m_patched_3_b, Pt.pv, laidL, ec, l1, c1, c2, c3]
    simpa [m_patched_3_b] using e
theorem patched_ok (old : List Nat) (ps : List Pt) (h : VH) (hl : (laidL old ps).length ≤ line) (hp : ∀ p ∈ ps, okP old p) : F_patched [.str old, .tup [.tup [.str (dig old), .str (dig (laidL old ps))], .tup (ps.map Pt.pv)]] h = .ok (.str (laidL old ps)) h := by
  obtain ⟨x, y, z, e⟩ := patched_for old ps [] (.tup [.tup [.str (dig old), .str (dig (laidL old ps))], .tup (ps.map Pt.pv)]) (.str (dig old)) (.str (dig (laidL old ps))) (.tup (ps.map Pt.pv)) none none none h (by simpa using hl) hp
  refine run_ret rfl ?_
  show m_patched [some (.str old), some _, none, none, none, none, none, none, none] h = _
  unfold m_patched m_patched_0 m_patched_1 m_patched_2 m_patched_3 m_patched_4 m_patched_5
  simp [digest_ok, e]
theorem patched_no (old d1 : List Nat) (d2 w : PV) (h : VH) (hn2 : notExn d2 = true) (hnw : notExn w = true) (hd : dig old ≠ d1) : F_patched [.str old, .tup [.tup [.str d1, d2], w]] h = .exc 0 [] h := by
  refine run_exc rfl (σ := [some (.str old), some (.tup [.tup [.str d1, d2], w]), some (.str d1), some d2, some w, none, none, none, none]) ?_
  show m_patched [some (.str old), some _, none, none, none, none, none, none, none] h = _
  unfold m_patched m_patched_0 m_patched_1
  simp [digest_ok, hd]
/-! ### patch -/
abbrev iv (i : Nat) : PV := .int i
def fstN (old : List Nat) (n : Nat) (b : List Nat) : Option Nat := (List.range n).find? fun i => decide (win old i = b)
structure DictOk (old : List Nat) (n : Nat) (kvs : List (PV × PV)) : Prop where
  get : ∀ b, kget kvs (.str b) = (fstN old n b).map iv
  len : kvs.length ≤ n
theorem fstN_succ (old : List Nat) (n : Nat) (b : List Nat) : fstN old (n + 1) b = match fstN old n b with
  | some i => some i
  | none => if win old n = b then some n else none := by
  unfold fstN
  rw [List.range_succ, List.find?_append]
  cases (List.range n).find? fun i => decide (win old i = b) with
  | some i => rfl
  | none =>
    by_cases h : win old n = b
    · simp [h]
    · simp [h]
theorem kget_snoc {kvs : List (PV × PV)} {k k' v : PV} : kget (kvs ++ [(k, v)]) k' = match kget kvs k' with
  | some w => some w
  | none => if k = k' then some v else none := by
  unfold kget
  rw [List.find?_append]
  cases kvs.find? fun p => decide (p.1 = k') with
  | some p => rfl
  | none =>
    by_cases h : k = k'
    · simp [h]
    · simp [h]
theorem win_cut (s : List Nat) (i : Nat) : cut s (some (i : Int)) (some ((i : Int) + 8)) = win s i := by
  rw [show (i : Int) + 8 = ((i + 8 : Nat) : Int) by omega, cut_nn, Nat.add_sub_cancel_left]
  rfl
theorem places_for (old new : List Nat) (h0 : VH) : ∀ (k lo : Nat) (kvs : List (PV × PV)) (x : Option PV), lo + k ≤ 1000000 → DictOk old lo kvs →
    ∃ kvs' x', forL (tName 3) m_patch_1_b (rangeL lo k) [some (.str old), some (.str new), some (.ref h0.length), x, none, none, none, none] (h0 ++ [.dct kvs]) = .nx [some (.str old), some (.str new), some (.ref h0.length), x', none, none, none, none] (h0 ++ [.dct kvs']) ∧ DictOk old (lo + k) kvs'
  | 0, lo, kvs, x, _, d => ⟨kvs, x, rfl, d⟩
  | k + 1, lo, kvs, x, hl, d => by
    have gp : (h0 ++ [VO.dct kvs])[h0.length]? = some (.dct kvs) := get_p
    have lt : kvs.length < line := Nat.lt_of_le_of_lt d.len (Nat.lt_of_le_of_lt (show lo ≤ 1000000 by omega) (by decide))
    have ew := win_cut old lo
    -- the turn
    obtain ⟨kvs1, e1, d1⟩ : ∃ kvs1, m_patch_1_b [some (.str old), some (.str new), some (.ref h0.length), some (.int lo), none, none, none, none] (h0 ++ [.dct kvs]) = .nx [some (.str old), some (.str new), some (.ref h0.length), some (.int lo), none, none, none, none] (h0 ++ [.dct kvs1]) ∧ DictOk old (lo + 1) kvs1 := by
      have eb : ∀ v h', bSetdefault (.ref h0.length) [.str (win old lo), .int lo] (h0 ++ [.dct kvs]) = some (v, h') → m_patch_1_b [some (.str old), some (.str new), some (.ref h0.length), some (.int lo), none, none, none, none] (h0 ++ [.dct kvs]) = .nx [some (.str old), some (.str new), some (.ref h0.length), some (.int lo), none, none, none, none] h' := fun v h' e => by
        unfold m_patch_1_b
        rw [sExpr_e, bm_dict (n := h0.length) (l := kvs) (vs := [.str (win old lo), .int lo]) (by simp) gp (by simp [ew]), e]
        rfl
      have eg := d.get (win old lo)
      cases ef : fstN old lo (win old lo) with
      | some i =>
        rw [ef] at eg
        refine ⟨kvs, eb (iv i) _ ?_, ⟨fun b => ?_, Nat.le_succ_of_le d.len⟩⟩
        · unfold bSetdefault
          simp only [gp, keyOk_str, Nat.blt_eq.mpr lt, eg]
          rfl
        · rw [fstN_succ, d.get b]
          cases eb : fstN old lo b with
          | some j => rfl
          | none =>
            have : win old lo ≠ b := fun z => by rw [z, eb] at ef; cases ef
            simp [this]
      | none =>
        rw [ef] at eg
        have ek : kput kvs (.str (win old lo)) (.int lo) = kvs ++ [(.str (win old lo), .int lo)] := by unfold kput; rw [eg]; rfl
        refine ⟨kvs ++ [(.str (win old lo), .int lo)], eb (.int lo) _ ?_, ⟨fun b => ?_, by rw [List.length_append]; have := d.len; simp; omega⟩⟩
        · unfold bSetdefault vset
          simp only [gp, keyOk_str, Nat.blt_eq.mpr lt, eg, ek]
          simp
        · rw [fstN_succ, kget_snoc, d.get b]
          cases eb : fstN old lo b with
          | some j => rfl
          | none =>
            by_cases z : win old lo = b
            · simp [z, iv]
            · simp [z]
    obtain ⟨kvs', x', e2, d2⟩ := places_for old new h0 k (lo + 1) kvs1 (some (.int lo)) (by omega) d1
    refine ⟨kvs', x', ?_, by rw [show lo + (k + 1) = lo + 1 + k by omega]; exact d2⟩
    rw [rangeL_cons, forL_cons]
    simp only [tName_e, List.set]
    rw [e1, again_nx]
    exact e2
section
variable (old new : List Nat) (h0 : VH) (kvs : List (PV × PV)) (l : List PV)
theorem ext_test (s2 s4 s5 : Option PV) (a i k : Nat) (h : VH) : (mAnd (mTest (mOp2 (cmpV .Lt) (mOp2 (binO .Add) (mVar 6) (mVar 7)) (mBi bLen (mCons (mVar 1) mNil)))) (mAnd (mTest (mOp2 (cmpV .Lt) (mOp2 (binO .Add) (mVar 3) (mVar 7)) (mBi bLen (mCons (mVar 0) mNil)))) (mTest (mOp2 (cmpV .Eq) (mOp2 ixO (mVar 1) (mOp2 (binO .Add) (mVar 6) (mVar 7))) (mOp2 ixO (mVar 0) (mOp2 (binO .Add) (mVar 3) (mVar 7)))))))
    [some (.str old), some (.str new), s2, some (.int i), s4, s5, some (.int a), some (.int k)] h = .ok (decide (∃ c, (new.drop a)[k]? = some c ∧ (old.drop i)[k]? = some c)) h := by
  by_cases h1 : a + k < new.length
  · have c1 : (a : Int) + k < new.length := by omega
    by_cases h2 : i + k < old.length
    · have c2 : (i : Int) + k < old.length := by omega
      have e1 : itO new ((a : Int) + k) = some new[a + k] := by
        rw [show (a : Int) + k = ((a + k : Nat) : Int) by omega, itO_nn, List.getElem?_eq_getElem h1]
      have e2 : itO old ((i : Int) + k) = some old[i + k] := by
        rw [show (i : Int) + k = ((i + k : Nat) : Int) by omega, itO_nn, List.getElem?_eq_getElem h2]
      simp [c1, c2, e1, e2, h1, h2]
      exact ⟨Eq.symm, Eq.symm⟩
    · have c2 : ¬ (i : Int) + k < old.length := by omega
      have : old[i + k]? = none := List.getElem?_eq_none (by omega)
      simp [c1, c2, this]
  · have c1 : ¬ (a : Int) + k < new.length := by omega
    have : new[a + k]? = none := List.getElem?_eq_none (by omega)
    simp [c1, this]
theorem ext_loop (s2 s4 s5 : Option PV) (a i : Nat) (h : VH) : ∀ (m k : Nat), k ≤ lcp (new.drop a) (old.drop i) → lcp (new.drop a) (old.drop i) - k = m →
    m_patch_3_b_3 [some (.str old), some (.str new), s2, some (.int i), s4, s5, some (.int a), some (.int k)] h = .nx [some (.str old), some (.str new), s2, some (.int i), s4, s5, some (.int a), some (.int (lcp (new.drop a) (old.drop i)))] h := by
  intro m
  induction m with
  | zero =>
    intro k hk hm
    have ek : k = lcp (new.drop a) (old.drop i) := by omega
    have no : ¬ ∃ c, (new.drop a)[k]? = some c ∧ (old.drop i)[k]? = some c := fun z => by
      have := (lcp_lt _ _ k hk).mpr z
      omega
    unfold m_patch_3_b_3
    rw [sWhile_e, ext_test, decide_eq_false no, ek]
    rfl
  | succ m ih =>
    intro k hk hm
    have yes : ∃ c, (new.drop a)[k]? = some c ∧ (old.drop i)[k]? = some c := (lcp_lt _ _ k hk).mp (by omega)
    have e := ih (k + 1) (by omega) (by omega)
    unfold m_patch_3_b_3 at e ⊢
    rw [sWhile_e, ext_test, decide_eq_true yes]
    simp only [R.thn_ok, if_true]
    unfold m_patch_3_b_3_b at e ⊢
    simp
    exact e
end
theorem set_q {h0 : VH} {a b c : VO} : (h0 ++ [a, b]).set (h0.length + 1) c = h0 ++ [a, c] := by
  rw [List.set_append_right _ _ (by omega)]
  simp
theorem loop_test (old new : List Nat) (s2 s3 s4 s5 s7 : Option PV) (a : Nat) (h : VH) : (mTest (mOp2 (cmpV .Lt) (mVar 6) (mBi bLen (mCons (mVar 1) mNil)))) [some (.str old), some (.str new), s2, s3, s4, s5, some (.int a), s7] h = .ok (decide (a < new.length)) h := by
  simp
theorem patch_loop (old new : List Nat) (h0 : VH) (kvs : List (PV × PV)) (hg : ∀ b, kget kvs (.str b) = (fst old b).map iv) (hn : new.length ≤ 1000000) :
    ∀ (n a : Nat) (p : List Nat) (l : List PV) (s3 s7 : Option PV), (new.drop a).length ≤ n → a ≤ new.length → p.length ≤ a → l.length ≤ a →
    ∃ l' p' s3' s7', m_patch_3 [some (.str old), some (.str new), some (.ref h0.length), s3, some (.ref (h0.length + 1)), some (.str p), some (.int a), s7] (h0 ++ [.dct kvs, .lst l]) =
      .nx [some (.str old), some (.str new), some (.ref h0.length), s3', some (.ref (h0.length + 1)), some (.str p'), some (.int new.length), s7'] (h0 ++ [.dct kvs, .lst l']) ∧ l' ++ (fl p').map Pt.pv = l ++ (pt old n (new.drop a) p).map Pt.pv ∧ l'.length ≤ new.length
  | 0, a, p, l, s3, s7, hr, ha, hp, hl => by
    rw [List.length_drop] at hr
    have ea : a = new.length := by omega
    refine ⟨l, p, s3, s7, ?_, rfl, by omega⟩
    unfold m_patch_3
    rw [sWhile_e, loop_test, decide_eq_false (by omega), ea]
    rfl
  | n + 1, a, p, l, s3, s7, hr, ha, hp, hl => by
    by_cases hlt : a < new.length
    · have gp : (h0 ++ [VO.dct kvs, .lst l])[h0.length]? = some (.dct kvs) := get_p
      have gq : (h0 ++ [VO.dct kvs, .lst l])[h0.length + 1]? = some (.lst l) := get_q
      have ln : (line : Nat) = 16777216 := rfl
      have e0 : m_patch_3_b_0 [some (.str old), some (.str new), some (.ref h0.length), s3, some (.ref (h0.length + 1)), some (.str p), some (.int a), s7] (h0 ++ [.dct kvs, .lst l]) =
          .nx [some (.str old), some (.str new), some (.ref h0.length), some (((fst old (win new a)).map iv).getD .non), some (.ref (h0.length + 1)), some (.str p), some (.int a), s7] (h0 ++ [.dct kvs, .lst l]) := by
        unfold m_patch_3_b_0
        rw [sAsg_e, bm_dict (n := h0.length) (l := kvs) (vs := [.str (win new a)]) (by simp) gp (by simp [win_cut])]
        unfold bGet
        simp [gp, hg]
      obtain ⟨c, r, ed⟩ : ∃ c r, new.drop a = c :: r := by
        cases e : new.drop a with
        | nil => rw [List.drop_eq_nil_iff] at e; omega
        | cons c r => exact ⟨c, r, rfl⟩
      have ew : win new a = (c :: r).take 8 := by unfold win; rw [ed]
      have er : r = new.drop (a + 1) := by rw [← List.drop_drop, ed]; rfl
      have ec : itO new (a : Int) = some c := by
        rw [itO_nn]
        have := List.getElem?_drop (xs := new) (i := a) (j := 0)
        rw [ed] at this
        simpa using this.symm
      unfold m_patch_3
      rw [sWhile_e, loop_test, decide_eq_true hlt]
      simp only [R.thn_ok, if_true]
      unfold m_patch_3_b
      rw [seqE e0, ed]
      cases ef : fst old (win new a) with
      | none =>
        obtain ⟨l', p', s3', s7', e, q, hl'⟩ := patch_loop old new h0 kvs hg hn n (a + 1) (p ++ [c]) l (some .non) s7 (by rw [List.length_drop] at hr ⊢; omega) (by omega) (by simp; omega) (by omega)
        refine ⟨l', p', s3', s7', ?_, ?_, hl'⟩
        · have lp : p.length + 1 ≤ line := by omega
          have e1 : m_patch_3_b_1 [some (.str old), some (.str new), some (.ref h0.length), some .non, some (.ref (h0.length + 1)), some (.str p), some (.int a), s7] (h0 ++ [.dct kvs, .lst l]) =
              .cnt [some (.str old), some (.str new), some (.ref h0.length), some .non, some (.ref (h0.length + 1)), some (.str (p ++ [c])), some (.int ((a : Int) + 1)), s7] (h0 ++ [.dct kvs, .lst l]) := by
            unfold m_patch_3_b_1
            simp [ec, lp]
          rw [sSeq_e, Option.map_none, Option.getD_none, e1]
          simp only [again_cnt]
          unfold m_patch_3 m_patch_3_b at e
          exact e
        · rw [q, ← er]
          conv => rhs; unfold pt
          rw [← ew, ef]
      | some i =>
        have e8 : fst old ((c :: r).take 8) = some i := by rw [← ew]; exact ef
        obtain ⟨k1, k2, k3⟩ := hit e8
        have ek : lcp (new.drop a) (old.drop i) = lcp (c :: r) (old.drop i) := by rw [ed]
        have kl : lcp (c :: r) (old.drop i) ≤ new.length - a := by rw [← List.length_drop, ed]; exact k2
        -- the parts so far
        obtain ⟨l2, e4, hl2, q2⟩ : ∃ l2, m_patch_3_b_4 [some (.str old), some (.str new), some (.ref h0.length), some (.int i), some (.ref (h0.length + 1)), some (.str p), some (.int a), some (.int (lcp (c :: r) (old.drop i)))] (h0 ++ [.dct kvs, .lst l]) =
            .nx [some (.str old), some (.str new), some (.ref h0.length), some (.int i), some (.ref (h0.length + 1)), some (.str []), some (.int a), some (.int (lcp (c :: r) (old.drop i)))] (h0 ++ [.dct kvs, .lst l2]) ∧ l2.length ≤ a + 1 ∧ l2 = l ++ (fl p).map Pt.pv := by
          by_cases hp0 : p = []
          · subst hp0
            refine ⟨l, ?_, by omega, by simp [fl]⟩
            unfold m_patch_3_b_4
            simp
          · refine ⟨l ++ [.str p], ?_, by simp; omega, by simp [fl, hp0, Pt.pv]⟩
            have hemp : p.isEmpty = false := by cases p with
              | nil => exact absurd rfl hp0
              | cons _ _ => rfl
            unfold m_patch_3_b_4
            rw [sIf_e, mTruth_e]
            simp only [vs5, vs4, vs3, vs2, vs1, v0_str, R.bnd_ok, truth_str, hemp, R.thn_ok, Bool.not_false, if_true]
            rw [seqE (σ' := [some (.str old), some (.str new), some (.ref h0.length), some (.int i), some (.ref (h0.length + 1)), some (.str p), some (.int a), some (.int (lcp (c :: r) (old.drop i)))]) (h' := h0 ++ [.dct kvs, .lst (l ++ [.str p])])]
            · simp
            · rw [sExpr_e, bm_list (n := h0.length + 1) (l := l) (vs := [.str p]) (by simp) gq (by simp), append_ref gq (by omega), set_q]
              rfl
        have gq2 : (h0 ++ [VO.dct kvs, .lst l2])[h0.length + 1]? = some (.lst l2) := get_q
        obtain ⟨l', p', s3', s7', e, q, hl'⟩ := patch_loop old new h0 kvs hg hn n (a + lcp (c :: r) (old.drop i)) [] (l2 ++ [.tup [.int i, .int (lcp (c :: r) (old.drop i))]]) (some (.int i)) (some (.int (lcp (c :: r) (old.drop i)))) (by rw [List.length_drop] at hr ⊢; omega) (by omega) (by simp) (by simp; omega)
        refine ⟨l', p', s3', s7', ?_, ?_, hl'⟩
        · have e1 : m_patch_3_b_1 [some (.str old), some (.str new), some (.ref h0.length), some (.int i), some (.ref (h0.length + 1)), some (.str p), some (.int a), s7] (h0 ++ [.dct kvs, .lst l]) =
              .nx [some (.str old), some (.str new), some (.ref h0.length), some (.int i), some (.ref (h0.length + 1)), some (.str p), some (.int a), s7] (h0 ++ [.dct kvs, .lst l]) := by
            unfold m_patch_3_b_1
            simp
          have e2 : m_patch_3_b_2 [some (.str old), some (.str new), some (.ref h0.length), some (.int i), some (.ref (h0.length + 1)), some (.str p), some (.int a), s7] (h0 ++ [.dct kvs, .lst l]) =
              .nx [some (.str old), some (.str new), some (.ref h0.length), some (.int i), some (.ref (h0.length + 1)), some (.str p), some (.int a), some (.int (8 : Nat))] (h0 ++ [.dct kvs, .lst l]) := by
            unfold m_patch_3_b_2
            simp
          have e3 := ext_loop old new (some (.ref h0.length)) (some (.ref (h0.length + 1))) (some (.str p)) a i (h0 ++ [.dct kvs, .lst l]) _ 8 (by rw [ek]; exact k1) rfl
          rw [ek] at e3
          have e5 : m_patch_3_b_5 [some (.str old), some (.str new), some (.ref h0.length), some (.int i), some (.ref (h0.length + 1)), some (.str []), some (.int a), some (.int (lcp (c :: r) (old.drop i)))] (h0 ++ [.dct kvs, .lst l2]) =
              .nx [some (.str old), some (.str new), some (.ref h0.length), some (.int i), some (.ref (h0.length + 1)), some (.str []), some (.int a), some (.int (lcp (c :: r) (old.drop i)))] (h0 ++ [.dct kvs, .lst (l2 ++ [.tup [.int i, .int (lcp (c :: r) (old.drop i))]])]) := by
            unfold m_patch_3_b_5
            rw [sExpr_e, bm_list (n := h0.length + 1) (l := l2) (vs := [.tup [.int i, .int (lcp (c :: r) (old.drop i))]]) (by simp) gq2 (by simp [show 2 ≤ line by decide]), append_ref gq2 (by omega), set_q]
            rfl
          rw [Option.map_some, Option.getD_some, show iv i = PV.int (i : Int) from rfl, seqE e1, seqE e2, seqE e3, seqE e4, seqE e5]
          have e6 : m_patch_3_b_6 [some (.str old), some (.str new), some (.ref h0.length), some (.int i), some (.ref (h0.length + 1)), some (.str []), some (.int a), some (.int (lcp (c :: r) (old.drop i)))] (h0 ++ [.dct kvs, .lst (l2 ++ [.tup [.int i, .int (lcp (c :: r) (old.drop i))]])]) =
              .nx [some (.str old), some (.str new), some (.ref h0.length), some (.int i), some (.ref (h0.length + 1)), some (.str []), some (.int ((a + lcp (c :: r) (old.drop i) : Nat) : Int)), some (.int (lcp (c :: r) (old.drop i)))] (h0 ++ [.dct kvs, .lst (l2 ++ [.tup [.int i, .int (lcp (c :: r) (old.drop i))]])]) := by
            unfold m_patch_3_b_6
            simp
          rw [e6, again_nx]
          unfold m_patch_3 m_patch_3_b at e
          exact e
        · rw [q, ← List.drop_drop, ed, pt_hit old e8, q2]
          simp [Pt.pv]
    · have ea : a = new.length := by omega
      refine ⟨l, p, s3, s7, ?_, ?_, by omega⟩
      · unfold m_patch_3
        rw [sWhile_e, loop_test, decide_eq_false hlt, ea]
        rfl
      · rw [List.drop_eq_nil_of_le (by omega), pt_nil]
/-- a patch: the digests and the parts; what is new in the heap is of no more use -/
theorem patch_ok (old new : List Nat) (h : VH) (ho : old.length ≤ 1000000) (hn : new.length ≤ 1000000) : ∃ g, F_patch [.str old, .str new] h = .ok (.tup [.tup [.str (dig old), .str (dig new)], .tup ((parts old new).map Pt.pv)]) (h ++ g) := by
  have l2 : 2 ≤ line := by decide
  obtain ⟨kvs, x, e1, d⟩ := places_for old new h (old.length + 1 - 8) 0 [] none (by omega) ⟨fun b => rfl, Nat.le_refl _⟩
  rw [Nat.zero_add] at d
  obtain ⟨l', p', s3, s7, e3, q, hl'⟩ := patch_loop old new h kvs (fun b => d.get b) hn new.length 0 [] [] x none (by simp) (Nat.zero_le _) (by simp) (by simp)
  rw [List.nil_append, List.drop_zero] at q
  have q : l' ++ (fl p').map Pt.pv = (parts old new).map Pt.pv := q
  refine ⟨[.dct kvs, .lst ((parts old new).map Pt.pv)], run_ret rfl ?_⟩
  show m_patch [some (.str old), some (.str new), none, none, none, none, none, none] h = _
  have e0 : m_patch_0 [some (.str old), some (.str new), none, none, none, none, none, none] h = .nx [some (.str old), some (.str new), some (.ref h.length), none, none, none, none, none] (h ++ [.dct []]) := by
    unfold m_patch_0
    simp
  have e1' : m_patch_1 [some (.str old), some (.str new), some (.ref h.length), none, none, none, none, none] (h ++ [.dct []]) = .nx [some (.str old), some (.str new), some (.ref h.length), x, none, none, none, none] (h ++ [.dct kvs]) := by
    unfold m_patch_1
    have hr : rngOk ((old.length : Int) - 8 + 1) = true := rngOk_of (by omega) (by omega)
    have hk : ((old.length : Int) - 8 + 1).toNat = old.length + 1 - 8 := by omega
    simp [hr, hk]
    exact e1
  have e2 : m_patch_2 [some (.str old), some (.str new), some (.ref h.length), x, none, none, none, none] (h ++ [.dct kvs]) = .nx [some (.str old), some (.str new), some (.ref h.length), x, some (.ref (h.length + 1)), some (.str []), some (.int (0 : Nat)), none] (h ++ [.dct kvs, .lst []]) := by
    unfold m_patch_2
    simp
  have gq : (h ++ [VO.dct kvs, .lst l'])[h.length + 1]? = some (.lst l') := get_q
  have e4 : m_patch_4 [some (.str old), some (.str new), some (.ref h.length), s3, some (.ref (h.length + 1)), some (.str p'), some (.int new.length), s7] (h ++ [.dct kvs, .lst l']) = .nx [some (.str old), some (.str new), some (.ref h.length), s3, some (.ref (h.length + 1)), some (.str p'), some (.int new.length), s7] (h ++ [.dct kvs, .lst ((parts old new).map Pt.pv)]) := by
    unfold m_patch_4
    rw [← q]
    cases p' with
    | nil => simp [fl]
    | cons c r =>
      rw [sIf_e, mTruth_e]
      simp only [vs5, vs4, vs3, vs2, vs1, v0_str, R.bnd_ok, truth_str, List.isEmpty_cons, R.thn_ok, Bool.not_false, if_true]
      rw [sExpr_e, bm_list (n := h.length + 1) (l := l') (vs := [.str (c :: r)]) (by simp) gq (by simp), append_ref gq (Nat.lt_of_le_of_lt hl' (Nat.lt_of_le_of_lt hn (by decide))), set_q]
      simp [fl, Pt.pv]
  have gq2 : (h ++ [VO.dct kvs, .lst ((parts old new).map Pt.pv)])[h.length + 1]? = some (.lst ((parts old new).map Pt.pv)) := get_q
  unfold m_patch
  rw [seqE e0, seqE e1', seqE e2, seqE e3, seqE e4]
  unfold m_patch_5
  simp [digest_ok, tuple_ref gq2, l2]
end Y.k29

set_option maxHeartbeats 1000000
namespace Y.k29
open PySem Y
/-! ### the law's helpers -/
def toldV (a b : List Nat) : PV := .tup [.tup [.str (dig a), .str (dig b)], .tup ((parts a b).map Pt.pv)]
theorem plain_pv : ∀ ps : List Pt, PV.plainL (ps.map Pt.pv) = true
  | [] => rfl
  | .s l :: r => by simp [PV.plainL, Pt.pv, PV.plain, plain_pv r]
  | .c i k :: r => by simp [PV.plainL, Pt.pv, PV.plain, plain_pv r]
theorem dep_pv : ∀ ps : List Pt, PV.depL (ps.map Pt.pv) ≤ 1
  | [] => by simp [PV.depL]
  | .s l :: r => by have := dep_pv r; simp [PV.depL, Pt.pv, PV.dep]; omega
  | .c i k :: r => by have := dep_pv r; simp [PV.depL, Pt.pv, PV.dep]; omega
theorem fine_len {old new : List Nat} : ∀ {ps : List Pt} {a : Nat} {f : Bool}, fineP old new a f ps → ps.length ≤ (laidL old ps).length
  | [], _, _, _ => by simp
  | .s l :: r, a, f, h => by
    have h1 := fine_len h.2.2.2
    have h2 : 0 < l.length := List.length_pos_iff.mpr h.1
    simp [laidL]
    omega
  | .c i k :: r, a, f, h => by
    have h1 := fine_len h.2.2
    have h2 := h.1
    have h3 := h.2.1
    simp [laidL]
    omega
theorem parts_len (old new : List Nat) : (parts old new).length ≤ new.length := by
  have := fine_len (fine_parts old new)
  rw [laid_parts] at this
  exact this
theorem patched_told {a b : List Nat} (h : VH) (hb : b.length ≤ 1000000) : F_patched [.str a, toldV a b] h = .ok (.str b) h := by
  have e := patched_ok a (parts a b) h (by rw [laid_parts]; exact Nat.le_trans hb (by decide)) (fine_ok (fine_parts a b))
  rw [laid_parts] at e
  exact e
theorem any_false : ∀ l : List PV, blsOf (l.map fun _ => PV.bl false) = some (l.map fun _ => false)
  | [] => rfl
  | _ :: r => by simp only [List.map_cons, blsOf, any_false r, Option.map_some]
theorem any_id_false {α : Type} : ∀ l : List α, (l.map fun _ => false).any id = false
  | [] => rfl
  | _ :: r => by simp [any_id_false r]
theorem within_none {old b : List Nat} (h8 : b.length = 8) (h : fst old b = none) : within b old = false := by
  cases e : within b old with
  | false => rfl
  | true =>
    obtain ⟨i, h1, h2⟩ := (within_iff b old).mp e
    rw [h8] at h1 h2
    exact absurd h2 (fst_none.mp h i h1)
theorem fine_any (old new l : List Nat) (a : Nat) (σ : Sl) (h : VH) (h0 : σ = [some (.str old), some (.str new), σ[2]?.getD none, some (.int a), σ[4]?.getD none, σ[5]?.getD none, none]) (hl : l.length ≤ line) (hf : ∀ k, k < l.length → fst old (win new (a + k)) = none) :
    lcLoop (tName 6) mYes (mAndV (mOp2 (cmpV .Eq) (mBi bLen (mCons (mSl (mVar 1) (mPart (mOp2 (binO .Add) (mVar 3) (mVar 6))) (mPart (mOp2 (binO .Add) (mOp2 (binO .Add) (mVar 3) (mVar 6)) (mC (.int 8))))) mNil)) (mC (.int 8))) (mOp2 (cmpV .In) (mSl (mVar 1) (mPart (mOp2 (binO .Add) (mVar 3) (mVar 6))) (mPart (mOp2 (binO .Add) (mOp2 (binO .Add) (mVar 3) (mVar 6)) (mC (.int 8))))) (mVar 0)))
      σ (rangeL 0 l.length) [] h = .ok ((rangeL 0 l.length).map fun _ => .bl false) h := by
  rw [h0]
  rw [lc_map (fun _ => .bl false) _ _ (by simp [rangeL]; exact hl) fun x hx => ?_]
  · rfl
  · obtain ⟨k, hk, rfl⟩ := List.mem_map.mp hx
    rw [List.mem_range] at hk
    refine ⟨_, rfl, ?_⟩
    have ew : cut new (some ((a : Int) + (k : Int))) (some ((a : Int) + (k : Int) + 8)) = win new (a + k) := by
      rw [show (a : Int) + (k : Int) = ((a + k : Nat) : Int) by omega, win_cut]
    have e := hf k hk
    simp [ew]
    by_cases h8 : (win new (a + k)).length = 8
    · have h9 : ((win new (a + k)).length : Int) = 8 := by omega
      simp [h9, within_none h8 e]
    · have h9 : ¬ ((win new (a + k)).length : Int) = 8 := by omega
      simp [h9]
def big : Nat := 1000000
theorem fine_s (old new l : List Nat) (a : Nat) (t : PV) (y : Option PV) (h : VH) (h1 : l ≠ []) (ll : l.length ≤ big) (h3 : ∀ k, k < l.length → fst old (win new (a + k)) = none) :
    m__law_fine_4_b [some (.str old), some (.str new), some t, some (.int a), some (.bl false), some (.str l), y] h = .nx [some (.str old), some (.str new), some t, some (.int ((a : Int) + l.length)), some (.bl true), some (.str l), y] h := by
  have lb : big ≤ line := by decide
  have hb : big = 1000000 := rfl
  have hr : rngOk (l.length : Int) = true := rngOk_of (by omega) (by omega)
  have ea := fine_any old new l a [some (.str old), some (.str new), some t, some (.int a), some (.bl false), some (.str l), none] h rfl (Nat.le_trans ll lb) h3
  unfold m__law_fine_4_b
  have l2 : 2 ≤ line := by decide
  simp [Y.wipe, h1, ea, hr, any_false, l2]
theorem fine_c (old new : List Nat) (i k a : Nat) (f : Bool) (t : PV) (y : Option PV) (h : VH) (h1 : 8 ≤ k) (h2 : i + k ≤ old.length) :
    m__law_fine_4_b [some (.str old), some (.str new), some t, some (.int a), some (.bl f), some (.tup [.int i, .int k]), y] h = .nx [some (.str old), some (.str new), some t, some (.int ((a : Int) + k)), some (.bl false), some (.tup [.int i, .int k]), y] h := by
  unfold m__law_fine_4_b
  have e0 : itO [PV.int (i : Int), PV.int (k : Int)] 0 = some (.int i) := rfl
  have e1 : itO [PV.int (i : Int), PV.int (k : Int)] 1 = some (.int k) := rfl
  have c1 : ¬ (i : Int) < 0 := by omega
  have c2 : ¬ (k : Int) < 8 := by omega
  have c3 : ¬ (old.length : Int) < (i : Int) + (k : Int) := by omega
  have l2 : 2 ≤ line := by decide
  simp [e0, e1, c1, c2, c3, l2]
theorem fine_for (old new : List Nat) (ps : List Pt) : ∀ (a : Nat) (f : Bool) (t : PV) (x y : Option PV) (h : VH), fineP old new a f ps → (laidL old ps).length ≤ big →
    ∃ x' y' a' f', forL (tName 5) m__law_fine_4_b (ps.map Pt.pv) [some (.str old), some (.str new), some t, some (.int a), some (.bl f), x, y] h = .nx [some (.str old), some (.str new), some t, some (.int a'), some (.bl f'), x', y'] h := by
  induction ps with
  | nil => exact fun a f t x y h _ _ => ⟨x, y, a, f, rfl⟩
  | cons p r ih =>
    intro a f t x y h hf hl
    cases p with
    | s l =>
      obtain ⟨h1, h2, h3, h4⟩ := hf
      have hl2 : l.length + (laidL old r).length ≤ big := by simpa [laidL] using hl
      obtain ⟨x', y', a', f', e⟩ := ih (a + l.length) true t (some (.str l)) y h h4 (Nat.le_trans (Nat.le_add_left _ _) hl2)
      refine ⟨x', y', a', f', ?_⟩
      subst h2
      rw [Int.natCast_add] at e
      rw [List.map_cons, forL_cons]
      simp only [tName_e, List.set, Pt.pv]
      rw [fine_s old new l a t y h h1 (Nat.le_trans (Nat.le_add_right _ _) hl2) h3, again_nx]
      exact e
    | c i k =>
      obtain ⟨h1, h2, h4⟩ := hf
      have hl2 : (laidL old r).length ≤ big := by
        simp [laidL] at hl
        omega
      obtain ⟨x', y', a', f', e⟩ := ih (a + k) false t (some (.tup [.int i, .int k])) y h h4 hl2
      refine ⟨x', y', a', f', ?_⟩
      rw [Int.natCast_add] at e
      rw [List.map_cons, forL_cons]
      simp only [tName_e, List.set, Pt.pv]
      rw [fine_c old new i k a f t y h h1 h2, again_nx]
      exact e
theorem told0 (a b : List Nat) (h : VH) : ixO (toldV a b) (.int 0) h = some (.tup [.str (dig a), .str (dig b)]) := rfl
theorem told1 (a b : List Nat) (h : VH) : ixO (toldV a b) (.int 1) h = some (.tup ((parts a b).map Pt.pv)) := rfl
theorem law_fine_ok (old new : List Nat) (h : VH) (ho : old.length ≤ 1000000) (hn : new.length ≤ 1000000) : ∃ g, F__law_fine [.str old, .str new] h = .ok (.bl true) (h ++ g) := by
  obtain ⟨g, e⟩ := patch_ok old new h ho hn
  have e : F_patch [.str old, .str new] h = .ok (toldV old new) (h ++ g) := e
  have l2 : 2 ≤ line := by decide
  have lp : (parts old new).length ≤ line := Nat.le_trans (parts_len old new) (Nat.le_trans hn (by decide))
  have sp := size_parts old new
  obtain ⟨x, y, a', f', e4⟩ := fine_for old new (parts old new) 0 false (toldV old new) none none (h ++ g) (fine_parts old new) (by rw [laid_parts]; exact hn)
  refine ⟨g, run_ret rfl ?_⟩
  show m__law_fine [some (.str old), some (.str new), none, none, none, none, none] h = _
  have e0 : m__law_fine_0 [some (.str old), some (.str new), none, none, none, none, none] h = .nx [some (.str old), some (.str new), some (toldV old new), none, none, none, none] (h ++ g) := by
    unfold m__law_fine_0
    simp [e]
  have nt : notExn (toldV old new) = true := rfl
  have v2 : mVar 2 [some (.str old), some (.str new), some (toldV old new), none, none, none, none] (h ++ g) = .ok (toldV old new) (h ++ g) := rfl
  have ne0 : ∀ h : VH, cmpV .NotEq (.tup [.str (dig old), .str (dig new)]) (.tup [.str (dig old), .str (dig new)]) h = some (.bl false) := fun h => by
    rw [ne_plain h rfl rfl (fun b z => by cases z) (by simp [look, PV.dep, PV.depL]) (by simp [look, PV.dep, PV.depL])]
    simp
  have e1 : m__law_fine_1 [some (.str old), some (.str new), some (toldV old new), none, none, none, none] (h ++ g) = .nx [some (.str old), some (.str new), some (toldV old new), none, none, none, none] (h ++ g) := by
    have el := laid_ok old (parts old new) (h ++ g) (by rw [laid_parts]; exact Nat.le_trans hn (by decide))
    rw [laid_parts] at el
    unfold m__law_fine_1
    simp only [sIf_e, mOr_e, mTest_e, mOp2_e, mC_e, v2, R.bnd_ok, told0, told1, retO_some, mTup_e, mCons_e, mCall_e, mNil_e, vs1, v0_str, law_digest_ok, List.length_cons, List.length_nil, Nat.zero_add, l2, if_true, ne0, mNot_e, mTruth_e, mIsi_e, isi_tt, truth_bl, el, ne_str]
    simp
  have e2 : m__law_fine_2 [some (.str old), some (.str new), some (toldV old new), none, none, none, none] (h ++ g) = .nx [some (.str old), some (.str new), some (toldV old new), none, none, none, none] (h ++ g) := by
    have es := patch_size_ok (.tup [.str (dig old), .str (dig new)]) (parts old new) (h ++ g) lp
    have es : F_patch_size [toldV old new] (h ++ g) = .ok (.int (sizeL (parts old new))) (h ++ g) := es
    have es2 := size_ok (parts old new) (h ++ g) lp
    have ep := patched_told (a := old) (h ++ g) hn
    have c1 : ¬ (new.length : Int) < (sizeL (parts old new) : Int) := by omega
    unfold m__law_fine_2
    simp only [sIf_e, mOr_e, mTest_e, mOp2_e, mC_e, v2, R.bnd_ok, told0, told1, retO_some, mCons_e, mCall_e, mNil_e, vs1, v0_str, es, es2, ep, mBi_e, len_str, ne_int, gt_int, ne_str, c1]
    simp
  have e3 : m__law_fine_3 [some (.str old), some (.str new), some (toldV old new), none, none, none, none] (h ++ g) = .nx [some (.str old), some (.str new), some (toldV old new), some (.int (0 : Nat)), some (.bl false), none, none] (h ++ g) := by
    unfold m__law_fine_3
    simp [l2]
  have e4' : m__law_fine_4 [some (.str old), some (.str new), some (toldV old new), some (.int (0 : Nat)), some (.bl false), none, none] (h ++ g) = .nx [some (.str old), some (.str new), some (toldV old new), some (.int a'), some (.bl f'), x, y] (h ++ g) := by
    unfold m__law_fine_4
    have v2' : mVar 2 [some (.str old), some (.str new), some (toldV old new), some (.int (0 : Nat)), some (.bl false), none, none] (h ++ g) = .ok (toldV old new) (h ++ g) := rfl
    simp only [sFor_e, mIter_e, mOp2_e, v2', R.bnd_ok, mC_e, told1, retO_some, R.thn_ok]
    exact e4
  unfold m__law_fine
  rw [seqE e0, seqE e1, seqE e2, seqE e3, seqE e4']
  unfold m__law_fine_5
  simp
theorem law_known_ok (old new : List Nat) (h : VH) (ho : old.length ≤ 1000000) (hn : new.length ≤ 1000000) : ∃ g, F__law_known [.str old, .str new, .tup ((parts old new).map Pt.pv)] h = .ok (.bl true) (h ++ g) := by
  obtain ⟨g, e⟩ := patch_ok old new h ho hn
  have e : F_patch [.str old, .str new] h = .ok (toldV old new) (h ++ g) := e
  have l2 : 2 ≤ line := by decide
  have lp : (parts old new).length ≤ line := Nat.le_trans (parts_len old new) (Nat.le_trans hn (by decide))
  refine ⟨g, run_ret rfl ?_⟩
  show m__law_known [some (.str old), some (.str new), some (.tup ((parts old new).map Pt.pv)), none] h = _
  have e0 : m__law_known_0 [some (.str old), some (.str new), some (.tup ((parts old new).map Pt.pv)), none] h = .nx [some (.str old), some (.str new), some (.tup ((parts old new).map Pt.pv)), some (toldV old new)] (h ++ g) := by
    unfold m__law_known_0
    simp [e]
  have v3 : mVar 3 [some (.str old), some (.str new), some (.tup ((parts old new).map Pt.pv)), some (toldV old new)] (h ++ g) = .ok (toldV old new) (h ++ g) := rfl
  have eq0 : ∀ h : VH, cmpV .Eq (toldV old new) (.tup [.tup [.str (dig old), .str (dig new)], .tup ((parts old new).map Pt.pv)]) h = some (.bl true) := fun h => by
    have hp : (look (toldV old new) h).plain = true := by
      show (PV.tup [.tup [.str (dig old), .str (dig new)], .tup ((parts old new).map Pt.pv)]).plain = true
      simp [PV.plain, PV.plainL, plain_pv]
    have hd : (look (toldV old new) h).dep ≤ 60 := by
      show (PV.tup [.tup [.str (dig old), .str (dig new)], .tup ((parts old new).map Pt.pv)]).dep ≤ 60
      have := dep_pv (parts old new)
      simp [PV.dep, PV.depL]
      omega
    have := eq_plain (y := toldV old new) h hp hp (fun b z => by cases z) hd hd
    rw [decide_eq_true rfl] at this
    exact this
  have es := patch_size_ok (.tup [.str (dig old), .str (dig new)]) (parts old new) (h ++ g) lp
  have es : F_patch_size [toldV old new] (h ++ g) = .ok (.int (sizeL (parts old new))) (h ++ g) := es
  have es2 := size_ok (parts old new) (h ++ g) lp
  have ep := patched_told (a := old) (h ++ g) hn
  unfold m__law_known
  rw [seqE e0]
  unfold m__law_known_1
  simp only [sRet_e, mAndV_e, mOp2_e, v3, R.bnd_ok, mTup_e, mCons_e, mCall_e, mNil_e, vs1, vs2, v0_str, v0_tup, law_digest_ok, List.length_cons, List.length_nil, Nat.zero_add, l2, if_true, retO_some, eq0, es, es2, ep, eq_int, eq_str]
  simp
theorem refused_ok (old d1 : List Nat) (d2 w : PV) (h : VH) (hn2 : notExn d2 = true) (hnw : notExn w = true) (hd : dig old ≠ d1) : F__law_refused [.str old, .tup [.tup [.str d1, d2], w]] h = .ok (.bl true) h := by
  refine run_ret rfl ?_
  show m__law_refused [some (.str old), some _] h = _
  have e := patched_no old d1 d2 w h hn2 hnw hd
  unfold m__law_refused
  simp [e, cs_NoPatch, RS.calm]
/-! ### rows of patches -/
def tolds : List Nat → List (List Nat) → List PV
  | _, [] => []
  | a, b :: r => toldV a b :: tolds b r
def lastOf : List Nat → List (List Nat) → List Nat
  | a, [] => a
  | _, b :: r => lastOf b r
theorem joined_for : ∀ (r : List (List Nat)) (a : List Nat) (t : PV) (x : Option PV) (h : VH), (∀ b ∈ r, b.length ≤ big) → ∃ x', forL (tName 2) m_joined_patches_0_b (tolds a r) [some (.str a), some t, x] h = .nx [some (.str (lastOf a r)), some t, x'] h
  | [], a, t, x, h, _ => ⟨x, rfl⟩
  | b :: r, a, t, x, h, hl => by
    obtain ⟨x', e⟩ := joined_for r b t (some (toldV a b)) h fun c hc => hl c (List.mem_cons_of_mem _ hc)
    refine ⟨x', ?_⟩
    have ep := patched_told (a := a) h (hl b List.mem_cons_self)
    have v2 : mVar 2 [some (.str a), some t, some (toldV a b)] h = .ok (toldV a b) h := rfl
    unfold tolds
    rw [forL_cons]
    simp only [tName_e, List.set]
    have turn : m_joined_patches_0_b [some (.str a), some t, some (toldV a b)] h = .nx [some (.str b), some t, some (toldV a b)] h := by
      unfold m_joined_patches_0_b
      simp only [sAsg_e, mCall_e, mCons_e, v0_str, v2, mNil_e, R.bnd_ok, ep, R.thn_ok, tName_e, List.set]
    rw [turn, again_nx]
    exact e
theorem joined_ok (r : List (List Nat)) (a : List Nat) (h : VH) (hl : ∀ b ∈ r, b.length ≤ big) : F_joined_patches [.str a, .lst (tolds a r)] h = .ok (.str (lastOf a r)) h := by
  obtain ⟨x, e⟩ := joined_for r a (.lst (tolds a r)) none h hl
  refine run_ret rfl ?_
  show m_joined_patches [some (.str a), some (.lst (tolds a r)), none] h = _
  unfold m_joined_patches m_joined_patches_0 m_joined_patches_1
  simp [e]
end Y.k29

set_option maxHeartbeats 2000000
namespace Y.k29
open PySem Y
/-! ### the law -/
def TapeAt (h : VH) : Prop := ∃ cs a l s z, Tape h 0 cs a l s z
/-- all but the tape stays -/
def Keep (h h' : VH) : Prop := h.length = h'.length ∧ ∀ i : Nat, 0 < i → h'[i]? = h[i]?
theorem Keep.refl (h : VH) : Keep h h := ⟨rfl, fun _ _ => rfl⟩
theorem Keep.trans {h h1 h2 : VH} (a : Keep h h1) (b : Keep h1 h2) : Keep h h2 := ⟨a.1.trans b.1, fun i hi => (b.2 i hi).trans (a.2 i hi)⟩
theorem take' {h : VH} {m : Nat} (T : TapeAt h) (h1 : 0 < m) (h2 : m < 1073741824) : ∃ (v : Nat) (h' : VH), F__law_take [.ref 0, .int m] h = .ok (.int v) h' ∧ v < m ∧ TapeAt h' ∧ Keep h h' := by
  obtain ⟨cs, a, l, s, z, T⟩ := T
  obtain ⟨v, a', l', z', e, v0, v1, T'⟩ := take_ok T (m := m) ⟨by omega, by omega⟩
  obtain ⟨n, rfl⟩ : ∃ n : Nat, v = n := ⟨v.toNat, by omega⟩
  exact ⟨n, _, e, by omega, ⟨_, _, _, _, _, T'⟩, by rw [List.length_set], fun i hi => List.getElem?_set_ne (by omega)⟩
theorem TapeAt.app {h : VH} (T : TapeAt h) (g : VH) : TapeAt (h ++ g) := by
  obtain ⟨cs, a, l, s, z, T⟩ := T
  have ht := (List.getElem?_eq_some_iff.mp T.at_).1
  exact ⟨cs, a, l, s, z, by rw [List.getElem?_append_left ht]; exact T.at_, T.cs0, T.a0, T.l0, T.s0⟩
theorem TapeAt.set {h : VH} (T : TapeAt h) {i : Nat} (hi : 0 < i) (o : VO) : TapeAt (h.set i o) := by
  obtain ⟨cs, a, l, s, z, T⟩ := T
  exact ⟨cs, a, l, s, z, by rw [List.getElem?_set_ne (by omega)]; exact T.at_, T.cs0, T.a0, T.l0, T.s0⟩
theorem two : 2 ≤ line := by decide
theorem law_1 {h : VH} (T : TapeAt h) (s : PV) : ∃ st cnt h', m_law_1 [some s, some (.ref 0), none, none, none, none, none, none, none, none, none, none, none, none, none] h =
    .nx [some s, some (.ref 0), some (.int (st : Nat)), some (.int (cnt : Nat)), none, none, none, none, none, none, none, none, none, none, none] h' ∧ TapeAt h' ∧ 1000 ≤ st ∧ st < 6000 ∧ cnt < 40 := by
  obtain ⟨v1, h1, e1, b1, T1, _⟩ := take' T (m := 5000) (by decide) (by decide)
  obtain ⟨v2, h2, e2, b2, T2, _⟩ := take' T1 (m := 40) (by decide) (by decide)
  refine ⟨1000 + v1, v2, h2, ?_, T2, by omega, by omega, b2⟩
  have e1 : F__law_take [.ref 0, .int 5000] h = .ok (.int v1) h1 := e1
  have e2 : F__law_take [.ref 0, .int 40] h1 = .ok (.int v2) h2 := e2
  unfold m_law_1
  simp [e1, e2, two]
theorem joinT_flat : ∀ ts : List (List Nat), joinT [] ts = ts.flatten
  | [] => rfl
  | [p] => by simp [joinT]
  | p :: q :: r => by
    have := joinT_flat (q :: r)
    simp only [joinT, this]
    simp
theorem strs_map {α : Type} (f : α → List Nat) : ∀ l : List α, strsOf (l.map fun x => PV.str (f x)) = some (l.map f)
  | [] => rfl
  | x :: r => by simp [strsOf, strs_map f r]
theorem join_ok {l : List PV} {ts : List (List Nat)} {h : VH} (e : strsOf l = some ts) (hl : (ts.map (·.length)).sum ≤ line) : bJoin (.str []) [.lst l] h = some (.str ts.flatten, h) := by
  unfold bJoin
  have : asSeq (.lst l) h = some l := rfl
  simp only [this, e]
  rw [if_pos (by simpa using hl), joinT_flat]
theorem law_2 (s : PV) (st cnt : Nat) (h : VH) (h1 : 1000 ≤ st) (h2 : st < 6000) (h3 : cnt < 40) : m_law_2 [some s, some (.ref 0), some (.int st), some (.int cnt), none, none, none, none, none, none, none, none, none, none, none] h =
    .nx [some s, some (.ref 0), some (.int st), some (.int cnt), none, some (.str (oldS st cnt)), none, none, none, none, none, none, none, none, none] h := by
  have hr : rngOk (cnt : Int) = true := rngOk_of (by omega) (by omega)
  let f : PV → PV := fun x => match x with
    | .int k => .str (piece st k.toNat)
    | _ => .non
  have e := lc_map (tg := tName 4) (e := mOp2 (binO .Add) (mBi bStr (mCons (mOp2 (binO .Add) (mVar 2) (mVar 4)) mNil)) (mC t_x7)) (σ := [some s, some (.ref 0), some (.int st), some (.int cnt), none, none, none, none, none, none, none, none, none, none, none]) (h := h) f (rangeL 0 cnt) [] (by simp [rangeL]; exact Nat.le_trans (Nat.le_of_lt h3) (by decide)) fun x hx => by
    obtain ⟨k, hk, rfl⟩ := List.mem_map.mp hx
    rw [List.mem_range] at hk
    refine ⟨_, rfl, ?_⟩
    have c1 : strOk ((st : Int) + (k : Int)) = true := strOk_of (by omega) (by omega)
    have c2 : ((st : Int) + (k : Int)).toNat = st + k := by omega
    have c3 : numS (st + k) = dig4 (st + k) := numS_4 (by omega) (by omega)
    have c4 : (dig4 (st + k)).length = 4 := rfl
    have c5 : 4 + 1 ≤ line := by decide
    simp [c1, c2, c3, c4, c5, f, piece]
  have ef : (rangeL 0 cnt).map f = (List.range cnt).map fun k => PV.str (piece st k) := by
    unfold rangeL
    rw [List.map_map]
    refine List.map_congr_left fun k _ => ?_
    show PV.str (piece st ((0 : Int) + (k : Int)).toNat) = PV.str (piece st k)
    rw [Int.zero_add, Int.toNat_natCast]
  rw [List.nil_append, ef] at e
  have len : ((List.map (piece st) (List.range cnt)).map (·.length)).sum ≤ line := by
    have : (List.map (fun x => x.length) (List.map (piece st) (List.range cnt))) = List.replicate cnt 5 := by
      rw [List.eq_replicate_iff]
      refine ⟨by simp, fun b hb => ?_⟩
      obtain ⟨x, hx, rfl⟩ := List.mem_map.mp hb
      obtain ⟨y, _, rfl⟩ := List.mem_map.mp hx
      rfl
    rw [this, List.sum_replicate_nat]
    exact Nat.le_trans (show cnt * 5 ≤ 200 by omega) (by decide)
  have ej := join_ok (h := h) (strs_map (piece st) (List.range cnt)) len
  unfold m_law_2
  rw [sAsg_e, bm_str (h1 := h) (s := []) (vs := [.lst ((List.range cnt).map fun k => PV.str (piece st k))]) (by simp) (by simp [hr, Y.wipe, e]), ej]
  simp [oldS, List.flatMap]
theorem strs_of {Pp : List Nat → Prop} : ∀ {l : List PV}, (∀ y ∈ l, ∃ s, y = .str s ∧ Pp s) → ∃ ts, strsOf l = some ts ∧ (∀ s ∈ ts, Pp s) ∧ ts.length = l.length
  | [], _ => ⟨[], rfl, by simp, rfl⟩
  | y :: r, h => by
    obtain ⟨s, rfl, ps⟩ := h y List.mem_cons_self
    obtain ⟨ts, e, p, l⟩ := strs_of fun z hz => h z (List.mem_cons_of_mem _ hz)
    exact ⟨s :: ts, by simp [strsOf, e], fun z hz => (List.mem_cons.mp hz).elim (fun q => by rw [q]; exact ps) (p z), by simp [l]⟩
theorem sum_len {k : Nat} : ∀ {ts : List (List Nat)}, (∀ s ∈ ts, s.length ≤ k) → (ts.map (·.length)).sum ≤ ts.length * k
  | [], _ => by simp
  | s :: r, h => by
    have h1 := h s List.mem_cons_self
    have h2 := sum_len fun z hz => h z (List.mem_cons_of_mem _ hz)
    rw [List.map_cons, List.sum_cons, List.length_cons, Nat.succ_mul]
    omega
theorem law_3 {h : VH} (T : TapeAt h) (s : PV) (st cnt : Nat) (old : List Nat) : ∃ more h', m_law_3 [some s, some (.ref 0), some (.int st), some (.int cnt), none, some (.str old), none, none, none, none, none, none, none, none, none] h =
    .nx [some s, some (.ref 0), some (.int st), some (.int cnt), none, some (.str old), some (.int old.length), some (.str more), none, none, none, none, none, none, none] h' ∧ TapeAt h' ∧ more ≠ [] ∧ more.length ≤ 30 ∧ ∀ c ∈ more, 65 ≤ c ∧ c < 68 := by
  obtain ⟨v1, h1, e1, b1, T1, _⟩ := take' T (m := 30) (by decide) (by decide)
  have e1 : F__law_take [.ref 0, .int 30] h = .ok (.int v1) h1 := e1
  have hr : rngOk (1 + (v1 : Int)) = true := rngOk_of (by omega) (by omega)
  have hk : (1 + (v1 : Int)).toNat = v1 + 1 := by omega
  obtain ⟨ys, h2, e2, ⟨T2, K2⟩, py, ly⟩ := lc_inv (tg := tName 4) (e := mOp2 ixO (mC t_ABC) (mCall F__law_take (mCons (mVar 1) (mCons (mC (.int 3)) mNil)))) (σ := [some s, some (.ref 0), some (.int st), some (.int cnt), none, some (.str old), none, none, none, none, none, none, none, none, none])
    (fun h' => TapeAt h' ∧ Keep h1 h') (fun y => ∃ z, y = .str z ∧ (z.length = 1 ∧ ∀ c ∈ z, 65 ≤ c ∧ c < 68)) (rangeL 0 (v1 + 1)) [] h1 (by simp [rangeL]; exact Nat.le_trans (show v1 + 1 ≤ 31 by omega) (by decide)) ⟨T1, Keep.refl _⟩ fun x hx h ⟨T, K⟩ => by
      obtain ⟨k, hk, rfl⟩ := List.mem_map.mp hx
      obtain ⟨v, h', e, b, T', K'⟩ := take' T (m := 3) (by decide) (by decide)
      have e : F__law_take [.ref 0, .int 3] h = .ok (.int v) h' := e
      refine ⟨_, rfl, .str [[65, 66, 67].getD v 0], h', ?_, ⟨T', K.trans K'⟩, _, rfl, rfl, ?_⟩
      · have : itO [65, 66, 67] (v : Int) = some ([65, 66, 67].getD v 0) := by
          rw [itO_nn]
          match v, b with
          | 0, _ => rfl
          | 1, _ => rfl
          | 2, _ => rfl
        simp [e, this]
      · match v, b with
        | 0, _ => decide
        | 1, _ => decide
        | 2, _ => decide
  rw [List.nil_append] at e2
  obtain ⟨ts, es, pt, lt⟩ := strs_of py
  have ly : ys.length = v1 + 1 := by rw [ly]; simp [rangeL]
  have sl : (ts.map (·.length)).sum ≤ ts.length * 1 := sum_len fun z hz => Nat.le_of_eq (pt z hz).1
  have ej := join_ok (h := h2) es (Nat.le_trans sl (Nat.le_trans (show ts.length * 1 ≤ 31 by omega) (by decide)))
  refine ⟨ts.flatten, h2, ?_, T2, ?_, ?_, ?_⟩
  · have em : mMeth noC ["str"] bJoin (mC t_x0) (mCons (mFz (mLc (mRange (mCons (mOp2 (binO .Add) (mC (.int 1)) (mCall F__law_take (mCons (mVar 1) (mCons (mC (.int 30)) mNil)))) mNil)) (tName 4) mYes (mOp2 ixO (mC t_ABC) (mCall F__law_take (mCons (mVar 1) (mCons (mC (.int 3)) mNil)))) [4])) mNil)
        [some s, some (.ref 0), some (.int st), some (.int cnt), none, some (.str old), none, none, none, none, none, none, none, none, none] h = .ok (.str ts.flatten) h2 := by
      rw [bm_str (h1 := h2) (s := []) (vs := [.lst ys]) (by simp) (by simp [e1, hr, hk, Y.wipe, e2]), ej]
      rfl
    unfold m_law_3
    simp only [sPar2_e, mCons_e, mBi_e, vs5, vs4, vs3, vs2, vs1, v0_str, mNil_e, R.bnd_ok, len_str, retO_some, em, R.thn_ok, List.set]
  · intro z
    cases ts with
    | nil => rw [List.length_nil] at lt; omega
    | cons t r =>
      have h1 := (pt t List.mem_cons_self).1
      rw [List.flatten_cons] at z
      rw [(List.append_eq_nil_iff.mp z).1] at h1
      cases h1
  · rw [List.length_flatten]
    show (ts.map (·.length)).sum ≤ 30
    omega
  · intro c hc
    obtain ⟨z, hz, hcz⟩ := List.mem_flatten.mp hc
    exact (pt z hz).2 c hcz
theorem law_4 {h : VH} (T : TapeAt h) (s : PV) (st cnt : Nat) (old more : List Nat) (hl : old.length ≤ 200) : ∃ a h', m_law_4 [some s, some (.ref 0), some (.int st), some (.int cnt), none, some (.str old), some (.int old.length), some (.str more), none, none, none, none, none, none, none] h =
    .nx [some s, some (.ref 0), some (.int st), some (.int cnt), none, some (.str old), some (.int old.length), some (.str more), some (.int (a : Nat)), none, none, none, none, none, none] h' ∧ TapeAt h' ∧ a ≤ old.length := by
  obtain ⟨v1, h1, e1, b1, T1, _⟩ := take' T (m := old.length + 1) (by omega) (by omega)
  have e1 : F__law_take [.ref 0, .int ((old.length : Int) + 1)] h = .ok (.int v1) h1 := e1
  refine ⟨v1, h1, ?_, T1, by omega⟩
  unfold m_law_4
  simp [e1]
theorem law_5 (s : PV) (st cnt a : Nat) (old more : List Nat) (h : VH) (hl : old.length ≤ 200) (hm : more.length ≤ 30) (ha : a ≤ old.length) : m_law_5 [some s, some (.ref 0), some (.int st), some (.int cnt), none, some (.str old), some (.int old.length), some (.str more), some (.int a), none, none, none, none, none, none] h =
    .nx [some s, some (.ref 0), some (.int st), some (.int cnt), none, some (.str old), some (.int old.length), some (.str more), some (.int a), some (.str (old.take a ++ more ++ old.drop a)), none, none, none, none, none] h := by
  have l1 : min a old.length + more.length ≤ line := Nat.le_trans (show min a old.length + more.length ≤ 230 by omega) (by decide)
  have l2 : min a old.length + more.length + (old.length - a) ≤ line := Nat.le_trans (show min a old.length + more.length + (old.length - a) ≤ 430 by omega) (by decide)
  have l2' : min a old.length + (more.length + (old.length - a)) ≤ line := by omega
  unfold m_law_5
  simp [cut_hi, cut_lo, l1, l2, l2']
theorem law_6 (s : PV) (st cnt a : Nat) (old new more : List Nat) (h : VH) (ho : old.length ≤ 200) (hn : new.length ≤ 230) : ∃ g, m_law_6 [some s, some (.ref 0), some (.int st), some (.int cnt), none, some (.str old), some (.int old.length), some (.str more), some (.int a), some (.str new), none, none, none, none, none] h =
    .nx [some s, some (.ref 0), some (.int st), some (.int cnt), none, some (.str old), some (.int old.length), some (.str more), some (.int a), some (.str new), some (toldV old new), none, none, none, none] (h ++ g) := by
  obtain ⟨g, e⟩ := patch_ok old new h (by omega) (by omega)
  have e : F_patch [.str old, .str new] h = .ok (toldV old new) (h ++ g) := e
  refine ⟨g, ?_⟩
  unfold m_law_6
  simp [e]
theorem plen {a b : List Nat} (hb : b.length ≤ 1000000) : (parts a b).length ≤ line := Nat.le_trans (parts_len a b) (Nat.le_trans hb (by decide))
theorem law_7 (s : PV) (st cnt a : Nat) (old new more : List Nat) (h : VH) (ho : old.length ≤ 200) (hn : new.length ≤ 230) (ha : a ≤ old.length) (hs : sizeL (parts old new) = least a + more.length + least (old.length - a)) :
    ∃ g, m_law_7 [some s, some (.ref 0), some (.int st), some (.int cnt), none, some (.str old), some (.int old.length), some (.str more), some (.int a), some (.str new), some (toldV old new), none, none, none, none] h =
    .nx [some s, some (.ref 0), some (.int st), some (.int cnt), none, some (.str old), some (.int old.length), some (.str more), some (.int a), some (.str new), some (toldV old new), none, none, none, none] (h ++ g) := by
  obtain ⟨g1, e1⟩ := law_known_ok old new h (by omega) (by omega)
  obtain ⟨g2, e2⟩ := law_fine_ok old new (h ++ g1) (by omega) (by omega)
  refine ⟨g1 ++ g2, ?_⟩
  have es := size_ok (parts old new) h (plen (by omega))
  have v10 : ∀ h, mVar 10 [some s, some (.ref 0), some (.int st), some (.int cnt), none, some (.str old), some (.int old.length), some (.str more), some (.int a), some (.str new), some (toldV old new), none, none, none, none] h = .ok (toldV old new) h := fun h => rfl
  have ea : (old.length : Int) - (a : Int) = ((old.length - a : Nat) : Int) := by omega
  have en : (sizeL (parts old new) : Int) = (least a : Int) + (more.length : Int) + (least (old.length - a) : Int) := by omega
  unfold m_law_7
  simp only [sIf_e, mOr_e, mTest_e, mOp2_e, mCall_e, mCons_e, mC_e, mNil_e, v10, R.bnd_ok, told1, retO_some, es, vs9, vs8, vs7, vs6, vs5, vs4, vs3, vs2, vs1, v0_int, v0_str, least_ok, mBi_e, len_str, add_int, sub_int, ea, ne_int, en, mNot_e, mTruth_e, e1, e2, truth_bl]
  simp
theorem law_8 (s : PV) (st cnt a : Nat) (old new more : List Nat) (h : VH) (ha : a ≤ old.length) (hp : 8 ≤ a → a + 8 ≤ old.length → parts old new = [.c 0 a, .s more, .c a (old.length - a)]) :
    m_law_8 [some s, some (.ref 0), some (.int st), some (.int cnt), none, some (.str old), some (.int old.length), some (.str more), some (.int a), some (.str new), some (toldV old new), none, none, none, none] h =
    .nx [some s, some (.ref 0), some (.int st), some (.int cnt), none, some (.str old), some (.int old.length), some (.str more), some (.int a), some (.str new), some (toldV old new), none, none, none, none] h := by
  have v10 : ∀ h, mVar 10 [some s, some (.ref 0), some (.int st), some (.int cnt), none, some (.str old), some (.int old.length), some (.str more), some (.int a), some (.str new), some (toldV old new), none, none, none, none] h = .ok (toldV old new) h := fun h => rfl
  unfold m_law_8
  by_cases c1 : 8 ≤ a
  · have d1 : (8 : Int) ≤ (a : Int) := by omega
    by_cases c2 : a + 8 ≤ old.length
    · have d2 : (8 : Int) ≤ (old.length : Int) - (a : Int) := by omega
      have ep := hp c1 c2
      have ea : (old.length : Int) - (a : Int) = ((old.length - a : Nat) : Int) := by omega
      have l3 : 3 ≤ line := by decide
      have ne0 : cmpV .NotEq (.tup ((parts old new).map Pt.pv)) (.tup [.tup [.int 0, .int a], .str more, .tup [.int a, .int ((old.length : Int) - (a : Int))]]) h = some (.bl false) := by
        have ev : PV.tup ((parts old new).map Pt.pv) = .tup [.tup [.int 0, .int a], .str more, .tup [.int a, .int ((old.length : Int) - (a : Int))]] := by
          rw [ep, ea]; rfl
        rw [ev, ne_plain h rfl rfl (fun b z => by cases z) (by simp [look, PV.dep, PV.depL]) (by simp [look, PV.dep, PV.depL])]
        simp
      simp only [sIf_e, mAnd_e, mTest_e, mOp2_e, mTup_e, mCons_e, mC_e, mNil_e, v10, R.bnd_ok, told1, retO_some, vs9, vs8, vs7, vs6, vs5, vs4, vs3, vs2, vs1, v0_int, v0_str, sub_int, ge_int, d1, d2, decide_true, if_true, List.length_cons, List.length_nil, Nat.zero_add, two, l3, Nat.reduceAdd, ne0, R.thn_ok]
      simp
    · have d2 : ¬ (8 : Int) ≤ (old.length : Int) - (a : Int) := by omega
      simp only [sIf_e, mAnd_e, mTest_e, mOp2_e, mC_e, R.bnd_ok, retO_some, vs9, vs8, vs7, vs6, vs5, vs4, vs3, vs2, vs1, v0_int, v0_str, sub_int, ge_int, d1, d2, decide_true, if_true, decide_false]
      simp
  · have d1 : ¬ (8 : Int) ≤ (a : Int) := by omega
    simp only [sIf_e, mAnd_e, mTest_e, mOp2_e, mC_e, R.bnd_ok, retO_some, vs9, vs8, vs7, vs6, vs5, vs4, vs3, vs2, vs1, v0_int, v0_str, sub_int, ge_int, d1, decide_true, if_true, decide_false]
    simp
theorem law_9 (s w : PV) (st cnt a : Nat) (old new more : List Nat) (h : VH) (ho : old.length ≤ 200) :
    ∃ g, m_law_9 [some s, some (.ref 0), some (.int st), some (.int cnt), none, some (.str old), some (.int old.length), some (.str more), some (.int a), some (.str new), some w, none, none, none, none] h =
    .nx [some s, some (.ref 0), some (.int st), some (.int cnt), none, some (.str old), some (.int old.length), some (.str more), some (.int a), some (.str new), some w, none, none, none, none] (h ++ g) := by
  obtain ⟨g, e⟩ := law_known_ok old old h (by omega) (by omega)
  refine ⟨g, ?_⟩
  have l1 : 1 ≤ line := by decide
  have l0 : 0 ≤ line := Nat.zero_le _
  unfold m_law_9
  by_cases c1 : 8 ≤ old.length
  · have d1 : (8 : Int) ≤ (old.length : Int) := by omega
    rw [parts_self c1] at e
    have e : F__law_known [.str old, .str old, .tup [.tup [.int 0, .int old.length]]] h = .ok (.bl true) (h ++ g) := e
    simp [d1, two, l1, e]
  · have d1 : ¬ (8 : Int) ≤ (old.length : Int) := by omega
    rw [parts_short (by omega)] at e
    by_cases c2 : old = []
    · subst c2
      have e : F__law_known [.str [], .str [], .tup []] h = .ok (.bl true) (h ++ g) := e
      simp [l0, e]
    · have d2 : 0 < old.length := List.length_pos_iff.mpr c2
      have e : F__law_known [.str old, .str old, .tup [.str old]] h = .ok (.bl true) (h ++ g) := by
        unfold fl at e
        rw [if_neg c2] at e
        exact e
      simp [d1, d2, l1, e]
theorem rep_pv (n : Nat) : ∀ t : Nat, rep [PV.tup [.int 0, .int n]] t = (List.replicate t (Pt.c 0 n)).map Pt.pv
  | 0 => rfl
  | t + 1 => by
    unfold rep
    rw [rep_pv n t, List.replicate_succ, List.map_cons]
    rfl
theorem law_10 {h : VH} (T : TapeAt h) (s w : PV) (st cnt a : Nat) (old new more : List Nat) (ho : old.length ≤ 200) (u : uniq old) :
    ∃ x11 x12 h', m_law_10 [some s, some (.ref 0), some (.int st), some (.int cnt), none, some (.str old), some (.int old.length), some (.str more), some (.int a), some (.str new), some w, none, none, none, none] h =
    .nx [some s, some (.ref 0), some (.int st), some (.int cnt), none, some (.str old), some (.int old.length), some (.str more), some (.int a), some (.str new), some w, x11, x12, none, none] h' ∧ TapeAt h' := by
  unfold m_law_10
  by_cases c1 : 20 ≤ old.length
  · have d1 : (20 : Int) ≤ (old.length : Int) := by omega
    obtain ⟨v1, h1, e1, b1, T1, _⟩ := take' T (m := old.length - 15) (by omega) (by omega)
    have em : ((old.length - 15 : Nat) : Int) = (old.length : Int) - 15 := by omega
    rw [em] at e1
    have ec : (8 : Int) + (v1 : Int) = ((8 + v1 : Nat) : Int) := by omega
    obtain ⟨g1, e2⟩ := law_known_ok old (old.drop (8 + v1) ++ old.take (8 + v1)) h1 (by omega) (by simp; omega)
    rw [parts_turn u (by omega) (by omega)] at e2
    have e2 : F__law_known [.str old, .str (old.drop (8 + v1) ++ old.take (8 + v1)), .tup [.tup [.int (8 + v1 : Nat), .int (old.length - (8 + v1) : Nat)], .tup [.int 0, .int (8 + v1 : Nat)]]] h1 = .ok (.bl true) (h1 ++ g1) := e2
    have es : ((old.length - (8 + v1) : Nat) : Int) = (old.length : Int) - ((8 + v1 : Nat) : Int) := by omega
    rw [es] at e2
    obtain ⟨v2, h2, e3, b2, T2, _⟩ := take' (T1.app g1) (m := 4) (by decide) (by decide)
    have e3 : F__law_take [.ref 0, .int 4] (h1 ++ g1) = .ok (.int v2) h2 := e3
    have hl : (rep old v2).length ≤ 1000000 := by
      rw [rep_len]
      have : v2 * old.length ≤ 3 * 200 := Nat.mul_le_mul (by omega) ho
      omega
    obtain ⟨g2, e4⟩ := law_known_ok old (rep old v2) h2 (by omega) hl
    rw [parts_times (by omega), ← rep_pv] at e4
    refine ⟨some (.int (8 + v1 : Nat)), some (.int v2), h2 ++ g2, ?_, T2.app g2⟩
    have l4 : old.length - (8 + v1) + min (8 + v1) old.length ≤ line := Nat.le_trans (show _ ≤ 400 by omega) (by decide)
    have l5 : old.length * v2 ≤ line := Nat.le_trans (show old.length * v2 ≤ 600 from Nat.le_trans (Nat.mul_le_mul ho (show v2 ≤ 3 by omega)) (by decide)) (by decide)
    have l6 : 1 * v2 ≤ line := Nat.le_trans (show 1 * v2 ≤ 3 by omega) (by decide)
    have l6' : v2 ≤ line := by omega
    have l1 : 1 ≤ line := by decide
    have r2 : rngOk (v2 : Int) = true := rngOk_of (by omega) (by omega)
    rw [sIf_e]
    simp only [mTest_e, mOp2_e, vs6, vs5, vs4, vs3, vs2, vs1, v0_int, mC_e, R.bnd_ok, ge_int, retO_some, R.thn_ok, d1, decide_true, if_true]
    rw [seqE (σ' := [some s, some (.ref 0), some (.int st), some (.int cnt), none, some (.str old), some (.int old.length), some (.str more), some (.int a), some (.str new), some w, some (.int (8 + v1 : Nat)), none, none, none]) (h' := h1) (by
      simp only [sAsg_e, mOp2_e, mC_e, mCall_e, mCons_e, mNil_e, vs6, vs5, vs4, vs3, vs2, vs1, v0_int, v0_ref, R.bnd_ok, sub_int, retO_some, e1, add_int, ec, R.thn_ok, tName_e, List.set])]
    rw [seqE (σ' := [some s, some (.ref 0), some (.int st), some (.int cnt), none, some (.str old), some (.int old.length), some (.str more), some (.int a), some (.str new), some w, some (.int (8 + v1 : Nat)), none, none, none]) (h' := h1 ++ g1) (by
      simp only [sIf_e, mNot_e, mTruth_e, mCall_e, mCons_e, mNil_e, mOp2_e, mSl_e, mPart_e, mNoPart_e, mTup_e, mC_e, vs11, vs10, vs9, vs8, vs7, vs6, vs5, vs4, vs3, vs2, vs1, v0_int, v0_str, R.bnd_ok, sl_str, cut_lo, cut_hi, retO_some, add_str, List.length_drop, List.length_take, l4, if_true, sub_int, List.length_cons, List.length_nil, Nat.zero_add, two, Nat.reduceAdd, e2, truth_bl, Bool.not_true, Bool.false_eq_true, if_false, R.thn_ok, sSkip_e])]
    rw [seqE (σ' := [some s, some (.ref 0), some (.int st), some (.int cnt), none, some (.str old), some (.int old.length), some (.str more), some (.int a), some (.str new), some w, some (.int (8 + v1 : Nat)), some (.int v2), none, none]) (h' := h2) (by
      simp only [sAsg_e, mC_e, mCall_e, mCons_e, mNil_e, vs1, v0_ref, R.bnd_ok, e3, R.thn_ok, tName_e, List.set])]
    simp only [sIf_e, mNot_e, mTruth_e, mCall_e, mCons_e, mNil_e, mOp2_e, mTup_e, mC_e, vs12, vs11, vs10, vs9, vs8, vs7, vs6, vs5, vs4, vs3, vs2, vs1, v0_int, v0_str, R.bnd_ok, mul_str, mul_tup, Int.toNat_natCast, l5, l6, l6', r2, and_self, if_true, retO_some, List.length_cons, List.length_nil, Nat.zero_add, two, l1, Nat.reduceAdd, e4, truth_bl, Bool.not_true, Bool.false_eq_true, if_false, R.thn_ok, sSkip_e]
  · have d1 : ¬ (20 : Int) ≤ (old.length : Int) := by omega
    refine ⟨none, none, h, ?_, T⟩
    simp [d1]
/-- the row stands at r, the patches at r + 1 -/
structure Rows (h : VH) (r : Nat) (rows : List (List Nat)) (ts : List PV) : Prop where
  r0 : 0 < r
  row : h[r]? = some (.lst (rows.map PV.str))
  told : h[r + 1]? = some (.lst ts)
theorem Rows.keep {h h' : VH} {r : Nat} {rows : List (List Nat)} {ts : List PV} (Rw : Rows h r rows ts) (k : Keep h h') : Rows h' r rows ts := ⟨Rw.r0, by rw [k.2 r Rw.r0]; exact Rw.row, by rw [k.2 (r + 1) (by omega)]; exact Rw.told⟩
theorem Rows.app {h : VH} {r : Nat} {rows : List (List Nat)} {ts : List PV} (Rw : Rows h r rows ts) (g : VH) : Rows (h ++ g) r rows ts :=
  ⟨Rw.r0, by rw [List.getElem?_append_left (List.getElem?_eq_some_iff.mp Rw.row).1]; exact Rw.row, by rw [List.getElem?_append_left (List.getElem?_eq_some_iff.mp Rw.told).1]; exact Rw.told⟩
theorem Rows.addRow {h : VH} {r : Nat} {rows : List (List Nat)} {ts : List PV} (Rw : Rows h r rows ts) (x : List Nat) : Rows (h.set r (.lst (rows.map PV.str ++ [.str x]))) r (rows ++ [x]) ts :=
  ⟨Rw.r0, by rw [List.getElem?_set_self (List.getElem?_eq_some_iff.mp Rw.row).1, List.map_append]; rfl, by rw [List.getElem?_set_ne (by omega)]; exact Rw.told⟩
theorem Rows.addTold {h : VH} {r : Nat} {rows : List (List Nat)} {ts : List PV} (Rw : Rows h r rows ts) (x : PV) : Rows (h.set (r + 1) (.lst (ts ++ [x]))) r rows (ts ++ [x]) :=
  ⟨Rw.r0, by rw [List.getElem?_set_ne (by omega)]; exact Rw.row, List.getElem?_set_self (List.getElem?_eq_some_iff.mp Rw.told).1⟩
/-- the slots from the row on -/
abbrev sl15 (s : PV) (st cnt : Nat) (x4 : Option PV) (old : List Nat) (w6 w7 w8 w9 : PV) (r : Nat) (x11 x12 x14 : Option PV) : Sl :=
  [some s, some (.ref 0), some (.int st), some (.int cnt), x4, some (.str old), some w6, some w7, some w8, some w9, some (.ref (r + 1)), x11, x12, some (.ref r), x14]
theorem law_11 {h : VH} (T : TapeAt h) (s w : PV) (st cnt a : Nat) (old new more : List Nat) (x11 x12 : Option PV) : ∃ r h', m_law_11 [some s, some (.ref 0), some (.int st), some (.int cnt), none, some (.str old), some (.int old.length), some (.str more), some (.int a), some (.str new), some w, x11, x12, none, none] h =
    .nx (sl15 s st cnt none old (.int old.length) (.str more) (.int a) (.str new) r x11 x12 none) h' ∧ TapeAt h' ∧ Rows h' r [old, new] [] := by
  have hl : 0 < h.length := by
    obtain ⟨cs, a, l, s, z, T⟩ := T
    exact (List.getElem?_eq_some_iff.mp T.at_).1
  refine ⟨h.length, h ++ [.lst [.str old, .str new], .lst []], ?_, T.app _, hl, get_p, get_q⟩
  unfold m_law_11
  simp [two]
theorem last_it {l : List PV} {x : PV} : itO (l ++ [x]) (-1) = some x := by
  have e1 : atI (l.length + 1) (-1) = some l.length := by
    unfold atI
    rw [if_neg (by decide), if_pos (by omega)]
    congr 1
    omega
  unfold itO
  rw [List.length_append, List.length_singleton, e1]
  simp
theorem law_12_b {h : VH} (T : TapeAt h) (s : PV) (st cnt r : Nat) (old : List Nat) (w6 w7 w8 w9 : PV) (x4 x11 x12 x14 : Option PV) (rows : List (List Nat)) (y : List Nat) (ts : List PV) (Rw : Rows h r (rows ++ [y]) ts) (hy : y.length ≤ 400) (hr : rows.length ≤ 10) :
    ∃ x h', m_law_12_b (sl15 s st cnt x4 old w6 w7 w8 w9 r x11 x12 x14) h = .nx (sl15 s st cnt x4 old w6 w7 w8 w9 r x11 x12 x14) h' ∧ TapeAt h' ∧ Rows h' r ((rows ++ [y]) ++ [x]) ts ∧ x.length ≤ y.length + 60 := by
  obtain ⟨v1, h1, e1, b1, T1, K1⟩ := take' T (m := 16) (by decide) (by decide)
  have e1 : F__law_take [.ref 0, .int 16] h = .ok (.int v1) h1 := e1
  have hr1 : rngOk (v1 : Int) = true := rngOk_of (by omega) (by omega)
  obtain ⟨ys, h2, e2, ⟨T2, K2⟩, py, ly⟩ := lc_inv (tg := tName 14) (e := mOp2 (binO .Mult) (mOp2 ixO (mC t_ab) (mCall F__law_take (mCons (mVar 1) (mCons (mC (.int 2)) mNil)))) (mOp2 (binO .Add) (mC (.int 1)) (mCall F__law_take (mCons (mVar 1) (mCons (mC (.int 4)) mNil))))) (σ := sl15 s st cnt x4 old w6 w7 w8 w9 r x11 x12 none)
    (fun h' => TapeAt h' ∧ Keep h1 h') (fun y => ∃ z, y = .str z ∧ z.length ≤ 4) (rangeL 0 v1) [] h1 (by simp [rangeL]; exact Nat.le_trans (show v1 ≤ 16 by omega) (by decide)) ⟨T1, Keep.refl _⟩ fun x hx h ⟨T, K⟩ => by
      obtain ⟨v, h', e, b, T', K'⟩ := take' T (m := 2) (by decide) (by decide)
      have e : F__law_take [.ref 0, .int 2] h = .ok (.int v) h' := e
      obtain ⟨v3, h3, e3, b3, T3, K3⟩ := take' T' (m := 4) (by decide) (by decide)
      have e3 : F__law_take [.ref 0, .int 4] h' = .ok (.int v3) h3 := e3
      refine ⟨_, rfl, .str (rep [[97, 98].getD v 0] (1 + v3)), h3, ?_, ⟨T3, (K.trans K').trans K3⟩, _, rfl, ?_⟩
      · have ei : itO [97, 98] (v : Int) = some ([97, 98].getD v 0) := by
          rw [itO_nn]
          match v, b with
          | 0, _ => rfl
          | 1, _ => rfl
        have en : (1 : Int) + (v3 : Int) = ((1 + v3 : Nat) : Int) := by omega
        have l1 : 1 * (1 + v3) ≤ line := Nat.le_trans (show 1 * (1 + v3) ≤ 4 by omega) (by decide)
        have r1 : rngOk ((1 + v3 : Nat) : Int) = true := rngOk_of (by omega) (by omega)
        simp only [mOp2_e, mC_e, mCall_e, mCons_e, mNil_e, List.set, vs1, v0_ref, R.bnd_ok, e, ix_str, ei, Option.map_some, retO_some, e3, add_int, en, mul_str, List.length_singleton, Int.toNat_natCast, l1, r1, and_self, if_true]
      · rw [rep_len]
        simp
        omega
  rw [List.nil_append] at e2
  obtain ⟨us, es, pu, lu⟩ := strs_of py
  have ly : ys.length = v1 := by rw [ly]; simp [rangeL]
  have su : (us.map (·.length)).sum ≤ us.length * 4 := sum_len pu
  have su2 : us.length * 4 ≤ 60 := by omega
  have ej := join_ok (h := h2) es (Nat.le_trans su (Nat.le_trans su2 (by decide)))
  have fl_len : us.flatten.length ≤ 60 := by
    rw [List.length_flatten]
    show (us.map (·.length)).sum ≤ 60
    omega
  have K12 := K1.trans K2
  have R2 := Rw.keep K12
  have ei : ∀ h, h[r]? = some (.lst ((rows ++ [y]).map PV.str)) → ixO (.ref r) (.int (-1)) h = some (.str y) := fun h e => by
    rw [ix_refl e, List.map_append]
    exact last_it
  have ei2 := ei h2 R2.row
  obtain ⟨v4, h4, e4, b4, T4, K4⟩ := take' T2 (m := y.length + 1) (by omega) (by omega)
  have e4 : F__law_take [.ref 0, .int ((y.length : Int) + 1)] h2 = .ok (.int v4) h4 := e4
  have R4 := R2.keep K4
  have l5 : us.flatten.length + (y.length - v4) ≤ line := Nat.le_trans (show us.flatten.length + (y.length - v4) ≤ 460 by omega) (by decide)
  refine ⟨us.flatten ++ y.drop v4, h4.set r (.lst ((rows ++ [y]).map PV.str ++ [.str (us.flatten ++ y.drop v4)])), ?_, T4.set Rw.r0 _, R4.addRow _, by simp only [List.length_append, List.length_drop]; omega⟩
  have em : mMeth noC ["str"] bJoin (mC t_x0) (mCons (mFz (mLc (mRange (mCons (mCall F__law_take (mCons (mVar 1) (mCons (mC (.int 16)) mNil))) mNil)) (tName 14) mYes (mOp2 (binO .Mult) (mOp2 ixO (mC t_ab) (mCall F__law_take (mCons (mVar 1) (mCons (mC (.int 2)) mNil)))) (mOp2 (binO .Add) (mC (.int 1)) (mCall F__law_take (mCons (mVar 1) (mCons (mC (.int 4)) mNil))))) [14])) mNil)
      (sl15 s st cnt x4 old w6 w7 w8 w9 r x11 x12 x14) h = .ok (.str us.flatten) h2 := by
    rw [bm_str (h1 := h2) (s := []) (vs := [.lst ys]) (by simp) (by
      simp only [mCons_e, mFz_e, mLc_e, mRange_e, mCall_e, mC_e, mNil_e, vs1, v0_ref, R.bnd_ok, e1, hr1, if_true, Int.toNat_natCast, Y.wipe, List.set]
      rw [e2]
      rfl), ej]
    rfl
  unfold m_law_12_b
  rw [sExpr_e, bm_append (n := r) (l := (rows ++ [y]).map PV.str) (h1 := h4) (l1 := (rows ++ [y]).map PV.str) (v := .str (us.flatten ++ y.drop v4)) (by simp) Rw.row (by
    simp only [mCons_e, mOp2_e, em, R.bnd_ok, mSl_e, mOp1_e, mC_e, neg_int, retO_some, vs13, vs12, vs11, vs10, vs9, vs8, vs7, vs6, vs5, vs4, vs3, vs2, vs1, v0_ref, ei2, mPart_e, mCall_e, mNil_e, mBi_e, len_str, add_int, e4, mNoPart_e, sl_str, cut_lo, add_str, List.length_drop, l5, if_true]) R4.row (by simp; exact Nat.lt_of_le_of_lt (show rows.length + 1 ≤ 11 by omega) (by decide))]
  rfl
theorem law_13_b (s : PV) (st cnt r i : Nat) (old : List Nat) (w6 w7 w8 w9 : PV) (x11 x12 x14 : Option PV) (rows : List (List Nat)) (a b : List Nat) (ts : List PV) {h : VH} (Rw : Rows h r rows ts) (ha : rows[i]? = some a) (hb : rows[i + 1]? = some b) (la : a.length ≤ 1000000) (lb : b.length ≤ 1000000) (lt : ts.length ≤ 10) :
    ∃ h', m_law_13_b (sl15 s st cnt (some (.int i)) old w6 w7 w8 w9 r x11 x12 x14) h = .nx (sl15 s st cnt (some (.int i)) old w6 w7 w8 w9 r x11 x12 x14) h' ∧ Rows h' r rows (ts ++ [toldV a b]) := by
  obtain ⟨g1, e1⟩ := law_fine_ok a b h la lb
  have R1 := Rw.app g1
  obtain ⟨g2, e2⟩ := patch_ok a b (h ++ g1) la lb
  have e2 : F_patch [.str a, .str b] (h ++ g1) = .ok (toldV a b) (h ++ g1 ++ g2) := e2
  have R2 := R1.app g2
  have en : (i : Int) + 1 = ((i + 1 : Nat) : Int) := by omega
  have ei : ∀ h, Rows h r rows ts → ixO (.ref r) (.int (i : Int)) h = some (.str a) ∧ ixO (.ref r) (.int ((i + 1 : Nat) : Int)) h = some (.str b) := fun h Rw => by
    rw [ix_refl Rw.row, ix_refl Rw.row, itO_nn, itO_nn, List.getElem?_map, List.getElem?_map, ha, hb]
    exact ⟨rfl, rfl⟩
  refine ⟨_, ?_, R2.addTold _⟩
  unfold m_law_13_b
  rw [seqE (σ' := sl15 s st cnt (some (.int i)) old w6 w7 w8 w9 r x11 x12 x14) (h' := h ++ g1)]
  · unfold m_law_13_b_1
    rw [sExpr_e, bm_append (n := r + 1) (l := ts) (h1 := h ++ g1 ++ g2) (l1 := ts) (v := toldV a b) (by simp) R1.told (by
      simp only [mCons_e, mCall_e, mOp2_e, mC_e, mNil_e, vs13, vs12, vs11, vs10, vs9, vs8, vs7, vs6, vs5, vs4, vs3, vs2, vs1, v0_ref, v0_int, R.bnd_ok, (ei _ R1).1, (ei _ R1).2, add_int, en, retO_some, e2]) R2.told (Nat.lt_of_le_of_lt lt (by decide))]
    rfl
  · unfold m_law_13_b_0
    simp only [sIf_e, mNot_e, mTruth_e, mCons_e, mCall_e, mOp2_e, mC_e, mNil_e, vs13, vs12, vs11, vs10, vs9, vs8, vs7, vs6, vs5, vs4, vs3, vs2, vs1, v0_ref, v0_int, R.bnd_ok, (ei _ Rw).1, (ei _ Rw).2, add_int, en, retO_some, e1, truth_bl, R.thn_ok]
    simp
theorem law_15_b (s : PV) (st cnt r i : Nat) (old : List Nat) (w6 w7 w8 w9 : PV) (x11 x12 x14 : Option PV) (rows : List (List Nat)) (a b y : List Nat) (ts : List PV) {h : VH} (Rw : Rows h r rows ts) (ha : rows[i]? = some a) (hy : rows[2]? = some y) (ht : ts[i]? = some (toldV a b)) :
    m_law_15_b (sl15 s st cnt (some (.int i)) old w6 w7 w8 w9 r x11 x12 x14) h = .nx (sl15 s st cnt (some (.int i)) old w6 w7 w8 w9 r x11 x12 x14) h := by
  have ea : ixO (.ref r) (.int (i : Int)) h = some (.str a) := by rw [ix_refl Rw.row, itO_nn, List.getElem?_map, ha]; rfl
  have ey : ixO (.ref r) (.int 2) h = some (.str y) := by
    rw [ix_refl Rw.row, show (2 : Int) = ((2 : Nat) : Int) from rfl, itO_nn, List.getElem?_map, hy]; rfl
  have et : ixO (.ref (r + 1)) (.int (i : Int)) h = some (toldV a b) := by rw [ix_refl Rw.told, itO_nn, ht]
  unfold m_law_15_b
  by_cases hd : dig a = dig y
  · simp only [sIf_e, mAnd_e, mTest_e, mCons_e, mCall_e, mOp2_e, mC_e, mNil_e, vs13, vs12, vs11, vs10, vs9, vs8, vs7, vs6, vs5, vs4, vs3, vs2, vs1, v0_ref, v0_int, R.bnd_ok, ea, ey, retO_some, law_digest_ok, ne_str, hd, R.thn_ok]
    simp
  · have er := refused_ok y (dig a) (.str (dig b)) (.tup ((parts a b).map Pt.pv)) h rfl rfl fun z => hd z.symm
    have er : F__law_refused [.str y, toldV a b] h = .ok (.bl true) h := er
    simp only [sIf_e, mAnd_e, mTest_e, mNot_e, mTruth_e, mCons_e, mCall_e, mOp2_e, mC_e, mNil_e, vs13, vs12, vs11, vs10, vs9, vs8, vs7, vs6, vs5, vs4, vs3, vs2, vs1, v0_ref, v0_int, R.bnd_ok, ea, ey, et, retO_some, law_digest_ok, ne_str, hd, er, truth_bl, R.thn_ok, decide_false, Bool.not_false, if_true]
    simp
theorem law_14 (s : PV) (st cnt r : Nat) (x4 : Option PV) (old b2 c2 d2 e2 : List Nat) (w6 w7 w8 w9 : PV) (x11 x12 x14 : Option PV) {h : VH} (Rw : Rows h r [old, b2, c2, d2, e2] (tolds old [b2, c2, d2, e2])) (hl : ∀ b ∈ [b2, c2, d2, e2], b.length ≤ big) :
    m_law_14 (sl15 s st cnt x4 old w6 w7 w8 w9 r x11 x12 x14) h = .nx (sl15 s st cnt x4 old w6 w7 w8 w9 r x11 x12 x14) h := by
  have e1 := joined_ok [b2, c2, d2, e2] old h hl
  have e2' := joined_ok [d2, e2] c2 h fun b hb => hl b (List.mem_cons_of_mem _ (List.mem_cons_of_mem _ hb))
  have e3 := joined_ok [] old h (fun b hb => by cases hb)
  have i4 : ixO (.ref r) (.int 4) h = some (.str e2) := by rw [ix_refl Rw.row]; rfl
  have i2 : ixO (.ref r) (.int 2) h = some (.str c2) := by rw [ix_refl Rw.row]; rfl
  have et : slO (.ref (r + 1)) (some 2) none h = some (.lst (tolds c2 [d2, e2])) := by
    rw [sl_refl Rw.told, show (2 : Int) = ((2 : Nat) : Int) from rfl, cut_lo]; rfl
  have el := list_ref Rw.told
  have l0 : 0 ≤ line := Nat.zero_le _
  have e3 : F_joined_patches [.str old, .lst []] h = .ok (.str old) h := e3
  unfold m_law_14
  simp only [sIf_e, mOr_e, mTest_e, mOp2_e, mCall_e, mCons_e, mNil_e, mFz_e, mBiL_e, mNewL_e, mSl_e, mPart_e, mNoPart_e, mC_e, vs13, vs12, vs11, vs10, vs9, vs8, vs7, vs6, vs5, vs4, vs3, vs2, vs1, v0_ref, v0_str, R.bnd_ok, el, retO_some, e1, i4, i2, et, e2', List.length_nil, l0, if_true, e3, ne_str, R.thn_ok, lastOf]
  simp
theorem rng3 : rangeL 0 3 = [.int (0 : Nat), .int (1 : Nat), .int (2 : Nat)] := rfl
theorem rng4 : rangeL 0 4 = [.int (0 : Nat), .int (1 : Nat), .int (2 : Nat), .int (3 : Nat)] := rfl
theorem for_nx {tg : GM} {b : SM} {x : PV} {r : List PV} {σ σ1 σ2 : Sl} {h h1 h2 : VH} (e1 : tg x σ h = some (σ1, h1)) (e2 : b σ1 h1 = .nx σ2 h2) : forL tg b (x :: r) σ h = forL tg b r σ2 h2 := by
  rw [forL_cons, e1]
  simp only [e2, again_nx]
theorem law_true (ns : List Int) (hns : ns.length ≤ 63) : ∃ hh, F_law [.scr ns] [] = .ok (.bl true) hh := by
  obtain ⟨z, e0, z1, z2⟩ := tape_ok ns [] hns
  have T0 : TapeAt [.dct (tp (ns.map absI) 0 0 z 0)] := ⟨_, _, _, _, _, rfl, fun c hc => by
    obtain ⟨i, _, rfl⟩ := List.mem_map.mp hc
    unfold absI
    split <;> omega, Int.le_refl _, Int.le_refl _, z1, z2⟩
  have e0' : m_law_0 [some (.scr ns), none, none, none, none, none, none, none, none, none, none, none, none, none, none] [] = .nx [some (.scr ns), some (.ref 0), none, none, none, none, none, none, none, none, none, none, none, none, none] [.dct (tp (ns.map absI) 0 0 z 0)] := by
    have e0 : F__law_tape [.scr ns] [] = .ok (.ref 0) [.dct (tp (ns.map absI) 0 0 z 0)] := e0
    unfold m_law_0
    simp [e0]
  obtain ⟨st, cnt, h1, e1, T1, s1, s2, c1⟩ := law_1 T0 (.scr ns)
  have e2 := law_2 (.scr ns) st cnt h1 s1 s2 c1
  have lo := oldS_len st cnt
  have u := oldS_uniq (st := st) (cnt := cnt) s1 (by omega)
  have hch : ∀ c ∈ oldS st cnt, ¬ (65 ≤ c ∧ c < 68) := fun c hc q => by rcases oldS_ch hc with z | z <;> omega
  generalize oldS st cnt = old at e2 lo u hch
  have ho : old.length ≤ 200 := by omega
  obtain ⟨more, h3, e3, T3, m0, m1, m2⟩ := law_3 T1 (.scr ns) st cnt old
  obtain ⟨a, h4, e4, T4, ha⟩ := law_4 T3 (.scr ns) st cnt old more ho
  have e5 := law_5 (.scr ns) st cnt a old more h4 ho m1 ha
  have hf : ∀ c ∈ more, c ∉ old := fun c hc q => hch c q (m2 c hc)
  have hs := size_ins u m0 hf ha
  have hp : 8 ≤ a → a + 8 ≤ old.length → parts old (old.take a ++ more ++ old.drop a) = [.c 0 a, .s more, .c a (old.length - a)] := fun q1 q2 => parts_ins8 u m0 hf q1 q2
  have hn : (old.take a ++ more ++ old.drop a).length ≤ 230 := by simp; omega
  generalize old.take a ++ more ++ old.drop a = new at e5 hs hp hn
  obtain ⟨g6, e6⟩ := law_6 (.scr ns) st cnt a old new more h4 ho hn
  have T6 := T4.app g6
  obtain ⟨g7, e7⟩ := law_7 (.scr ns) st cnt a old new more (h4 ++ g6) ho hn ha hs
  have T7 := T6.app g7
  have e8 := law_8 (.scr ns) st cnt a old new more (h4 ++ g6 ++ g7) ha hp
  obtain ⟨g9, e9⟩ := law_9 (.scr ns) (toldV old new) st cnt a old new more (h4 ++ g6 ++ g7) ho
  have T9 := T7.app g9
  obtain ⟨x11, x12, h10, e10, T10⟩ := law_10 T9 (.scr ns) (toldV old new) st cnt a old new more ho u
  obtain ⟨r, h11, e11, T11, R11⟩ := law_11 T10 (.scr ns) (toldV old new) st cnt a old new more x11 x12
  -- three texts more
  obtain ⟨c2, q1, f1, U1, Q1, l1⟩ := law_12_b T11 (.scr ns) st cnt r old (.int old.length) (.str more) (.int a) (.str new) (some (.int (0 : Nat))) x11 x12 none [old] new [] R11 (by omega) (by simp)
  obtain ⟨d2, q2, f2, U2, Q2, l2⟩ := law_12_b U1 (.scr ns) st cnt r old (.int old.length) (.str more) (.int a) (.str new) (some (.int (1 : Nat))) x11 x12 none [old, new] c2 [] Q1 (by omega) (by simp)
  obtain ⟨y2, q3, f3, U3, Q3, l3⟩ := law_12_b U2 (.scr ns) st cnt r old (.int old.length) (.str more) (.int a) (.str new) (some (.int (2 : Nat))) x11 x12 none [old, new, c2] d2 [] Q2 (by omega) (by simp)
  have Q3 : Rows q3 r [old, new, c2, d2, y2] [] := Q3
  have e12 : m_law_12 (sl15 (.scr ns) st cnt none old (.int old.length) (.str more) (.int a) (.str new) r x11 x12 none) h11 = .nx (sl15 (.scr ns) st cnt (some (.int (2 : Nat))) old (.int old.length) (.str more) (.int a) (.str new) r x11 x12 none) q3 := by
    have r3 : rngOk 3 = true := rfl
    unfold m_law_12
    simp only [sFor_e, mRange_e, mCons_e, mC_e, mNil_e, R.bnd_ok, r3, if_true, R.thn_ok]
    rw [show (3 : Int).toNat = 3 from rfl, rng3]
    rw [for_nx rfl f1, for_nx rfl f2, for_nx rfl f3]
    rfl
  -- the four patches
  obtain ⟨p1, k1, P1⟩ := law_13_b (.scr ns) st cnt r 0 old (.int old.length) (.str more) (.int a) (.str new) x11 x12 none [old, new, c2, d2, y2] old new [] Q3 rfl rfl (by omega) (by omega) (by simp)
  obtain ⟨p2, k2, P2⟩ := law_13_b (.scr ns) st cnt r 1 old (.int old.length) (.str more) (.int a) (.str new) x11 x12 none [old, new, c2, d2, y2] new c2 _ P1 rfl rfl (by omega) (by omega) (by simp)
  obtain ⟨p3, k3, P3⟩ := law_13_b (.scr ns) st cnt r 2 old (.int old.length) (.str more) (.int a) (.str new) x11 x12 none [old, new, c2, d2, y2] c2 d2 _ P2 rfl rfl (by omega) (by omega) (by simp)
  obtain ⟨p4, k4, P4⟩ := law_13_b (.scr ns) st cnt r 3 old (.int old.length) (.str more) (.int a) (.str new) x11 x12 none [old, new, c2, d2, y2] d2 y2 _ P3 rfl rfl (by omega) (by omega) (by simp)
  have P4 : Rows p4 r [old, new, c2, d2, y2] (tolds old [new, c2, d2, y2]) := P4
  have r4 : rngOk 4 = true := rfl
  have e13 : m_law_13 (sl15 (.scr ns) st cnt (some (.int (2 : Nat))) old (.int old.length) (.str more) (.int a) (.str new) r x11 x12 none) q3 = .nx (sl15 (.scr ns) st cnt (some (.int (3 : Nat))) old (.int old.length) (.str more) (.int a) (.str new) r x11 x12 none) p4 := by
    unfold m_law_13
    simp only [sFor_e, mRange_e, mCons_e, mC_e, mNil_e, R.bnd_ok, r4, if_true, R.thn_ok]
    rw [show (4 : Int).toNat = 4 from rfl, rng4]
    rw [for_nx rfl k1, for_nx rfl k2, for_nx rfl k3, for_nx rfl k4]
    rfl
  have e14 := law_14 (.scr ns) st cnt r (some (.int (3 : Nat))) old new c2 d2 y2 (.int old.length) (.str more) (.int a) (.str new) x11 x12 none P4 fun b hb => by
    have hb2 : big = 1000000 := rfl
    simp at hb
    rcases hb with rfl | rfl | rfl | rfl <;> omega
  have j1 := law_15_b (.scr ns) st cnt r 0 old (.int old.length) (.str more) (.int a) (.str new) x11 x12 none [old, new, c2, d2, y2] old new c2 _ P4 rfl rfl rfl
  have j2 := law_15_b (.scr ns) st cnt r 1 old (.int old.length) (.str more) (.int a) (.str new) x11 x12 none [old, new, c2, d2, y2] new c2 c2 _ P4 rfl rfl rfl
  have j3 := law_15_b (.scr ns) st cnt r 2 old (.int old.length) (.str more) (.int a) (.str new) x11 x12 none [old, new, c2, d2, y2] c2 d2 c2 _ P4 rfl rfl rfl
  have j4 := law_15_b (.scr ns) st cnt r 3 old (.int old.length) (.str more) (.int a) (.str new) x11 x12 none [old, new, c2, d2, y2] d2 y2 c2 _ P4 rfl rfl rfl
  have e15 : m_law_15 (sl15 (.scr ns) st cnt (some (.int (3 : Nat))) old (.int old.length) (.str more) (.int a) (.str new) r x11 x12 none) p4 = .nx (sl15 (.scr ns) st cnt (some (.int (3 : Nat))) old (.int old.length) (.str more) (.int a) (.str new) r x11 x12 none) p4 := by
    unfold m_law_15
    simp only [sFor_e, mRange_e, mCons_e, mC_e, mNil_e, R.bnd_ok, r4, if_true, R.thn_ok]
    rw [show (4 : Int).toNat = 4 from rfl, rng4]
    rw [for_nx rfl j1, for_nx rfl j2, for_nx rfl j3, for_nx rfl j4]
    rfl
  refine ⟨p4, run_ret rfl ?_⟩
  show m_law [some (.scr ns), none, none, none, none, none, none, none, none, none, none, none, none, none, none] [] = _
  unfold m_law
  rw [seqE e0', seqE e1, seqE e2, seqE e3, seqE e4, seqE e5, seqE e6, seqE e7, seqE e8, seqE e9, seqE e10, seqE e11, seqE e12, seqE e13, seqE e14, seqE e15]
  rfl
end Y.k29

set_option maxHeartbeats 4000000
namespace Y.k29
open PySem PySem.Spec PyProof.Rows L2 Y

theorem caught_self {K : PySem.W.Frag} {S : Addr} (h1 : PySem.W.subIn K (.ref S) (.type "BaseException") = some true) (h2 : PySem.W.isClsIn K S = true) (h3 : PySem.W.typeIn K (.ref S) = some (.type "type")) (h4 : PySem.W.subIn K (.ref S) (.ref S) = some true) :
    PySem.W.exmOne K (.ref S) (.ref S) = some true := by
  have h2 : (PySem.W.clsIn K S).isSome = true := h2
  show (if (PySem.W.subIn K (.ref S) (.type "BaseException") == some true) = true then (if ((PySem.W.clsIn K S).isSome && PySem.W.typeIn K (.ref S) == some (.type "type")) = true then PySem.W.subIn K (.ref S) (.ref S) else none) else none) = some true
  rw [h1, h2, h3, h4]
  rfl
theorem lg_SIGNS : Lit "0123456789abcdef" [48, 49, 50, 51, 52, 53, 54, 55, 56, 57, 97, 98, 99, 100, 101, 102] := lit (by decide +kernel)
/-- law's: the script is handed in, True comes out -/
def spLaw (K : PySem.W.Frag) : Sp := fun vs H Q _ => ∃ (a : Addr) (ns : List Int), vs = [.ref a] ∧ SqL K H a (ns.map V.int) ∧ ns.length ≤ 63 ∧ ∀ H', Q (.bl true) H'
def tab (CNoPatch : Addr) : Tab := ⟨[], [], fun _ _ => false, [CNoPatch]⟩
theorem all_mk {l : PySem.W.OpenLaw} {w : World} {K : PySem.W.Frag} {h : Heap} {mg : Str → Option Value} {fa : Addr} (X : K.In h) (G : h.Ns mainGlobals mg) (hfa : mg "law" = some (.ref fa))
    {f0 : Addr} {od0 an0 : Option Addr} {sl0 : Array (Option Value)} {oc0 kV0 dc0 pm0 cd0 ct0 : Value}
    {f1 : Addr} {od1 an1 : Option Addr} {sl1 : Array (Option Value)} {oc1 kV1 dc1 pm1 cd1 ct1 : Value}
    {f2 : Addr} {od2 an2 : Option Addr} {sl2 : Array (Option Value)} {oc2 kV2 dc2 pm2 cd2 ct2 : Value}
    {f3 : Addr} {od3 an3 : Option Addr} {sl3 : Array (Option Value)} {oc3 kV3 dc3 pm3 cd3 ct3 : Value}
    {f4 : Addr} {od4 an4 : Option Addr} {sl4 : Array (Option Value)} {oc4 kV4 dc4 pm4 cd4 ct4 : Value}
    {f5 : Addr} {od5 an5 : Option Addr} {sl5 : Array (Option Value)} {oc5 kV5 dc5 pm5 cd5 ct5 : Value}
    {f6 : Addr} {od6 an6 : Option Addr} {sl6 : Array (Option Value)} {oc6 kV6 dc6 pm6 cd6 ct6 : Value}
    {f7 : Addr} {od7 an7 : Option Addr} {sl7 : Array (Option Value)} {oc7 kV7 dc7 pm7 cd7 ct7 : Value}
    {f8 : Addr} {od8 an8 : Option Addr} {sl8 : Array (Option Value)} {oc8 kV8 dc8 pm8 cd8 ct8 : Value}
    {f9 : Addr} {od9 an9 : Option Addr} {sl9 : Array (Option Value)} {oc9 kV9 dc9 pm9 cd9 ct9 : Value}
    {f10 : Addr} {od10 an10 : Option Addr} {sl10 : Array (Option Value)} {oc10 kV10 dc10 pm10 cd10 ct10 : Value}
    {f11 : Addr} {od11 an11 : Option Addr} {sl11 : Array (Option Value)} {oc11 kV11 dc11 pm11 cd11 ct11 : Value}
    {f12 : Addr} {od12 an12 : Option Addr} {sl12 : Array (Option Value)} {oc12 kV12 dc12 pm12 cd12 ct12 : Value}
    {f13 : Addr} {od13 an13 : Option Addr} {sl13 : Array (Option Value)} {oc13 kV13 dc13 pm13 cd13 ct13 : Value}
    {f14 : Addr} {od14 an14 : Option Addr} {sl14 : Array (Option Value)} {oc14 kV14 dc14 pm14 cd14 ct14 : Value}
    {f15 : Addr} {od15 an15 : Option Addr} {sl15 : Array (Option Value)} {oc15 kV15 dc15 pm15 cd15 ct15 : Value}
    {tBASE : Tok}
    {tBLOCK : Tok}
    {tPRIME : Tok}
    {tSIGNS : Tok}
    {CNoPatch : Addr}
    (a0 : PySem.W.nsIn K mainGlobals "number_of" = some (some (.ref f0)))
    (l0 : K.lookup f0 = some ⟨oc0, od0, .func (PySem.W.fnOf "number_of" "number_of" (defArgs s_number_of) (defBody s_number_of) (defScope s_number_of) .none kV0 dc0 pm0 an0 cd0 ct0), sl0⟩)
    (c0 : PySem.W.codeIn K cd0 "number_of" = true)
    (k0 : PySem.W.keepIn K (.ref f0) = true)
    (a1 : PySem.W.nsIn K mainGlobals "digest" = some (some (.ref f1)))
    (l1 : K.lookup f1 = some ⟨oc1, od1, .func (PySem.W.fnOf "digest" "digest" (defArgs s_digest) (defBody s_digest) (defScope s_digest) .none kV1 dc1 pm1 an1 cd1 ct1), sl1⟩)
    (c1 : PySem.W.codeIn K cd1 "digest" = true)
    (k1 : PySem.W.keepIn K (.ref f1) = true)
    (a2 : PySem.W.nsIn K mainGlobals "patch" = some (some (.ref f2)))
    (l2 : K.lookup f2 = some ⟨oc2, od2, .func (PySem.W.fnOf "patch" "patch" (defArgs s_patch) (defBody s_patch) (defScope s_patch) .none kV2 dc2 pm2 an2 cd2 ct2), sl2⟩)
    (c2 : PySem.W.codeIn K cd2 "patch" = true)
    (k2 : PySem.W.keepIn K (.ref f2) = true)
    (a3 : PySem.W.nsIn K mainGlobals "patched" = some (some (.ref f3)))
    (l3 : K.lookup f3 = some ⟨oc3, od3, .func (PySem.W.fnOf "patched" "patched" (defArgs s_patched) (defBody s_patched) (defScope s_patched) .none kV3 dc3 pm3 an3 cd3 ct3), sl3⟩)
    (c3 : PySem.W.codeIn K cd3 "patched" = true)
    (k3 : PySem.W.keepIn K (.ref f3) = true)
    (a4 : PySem.W.nsIn K mainGlobals "patch_size" = some (some (.ref f4)))
    (l4 : K.lookup f4 = some ⟨oc4, od4, .func (PySem.W.fnOf "patch_size" "patch_size" (defArgs s_patch_size) (defBody s_patch_size) (defScope s_patch_size) .none kV4 dc4 pm4 an4 cd4 ct4), sl4⟩)
    (c4 : PySem.W.codeIn K cd4 "patch_size" = true)
    (k4 : PySem.W.keepIn K (.ref f4) = true)
    (a5 : PySem.W.nsIn K mainGlobals "joined_patches" = some (some (.ref f5)))
    (l5 : K.lookup f5 = some ⟨oc5, od5, .func (PySem.W.fnOf "joined_patches" "joined_patches" (defArgs s_joined_patches) (defBody s_joined_patches) (defScope s_joined_patches) .none kV5 dc5 pm5 an5 cd5 ct5), sl5⟩)
    (c5 : PySem.W.codeIn K cd5 "joined_patches" = true)
    (k5 : PySem.W.keepIn K (.ref f5) = true)
    (a6 : PySem.W.nsIn K mainGlobals "_law_tape" = some (some (.ref f6)))
    (l6 : K.lookup f6 = some ⟨oc6, od6, .func (PySem.W.fnOf "_law_tape" "_law_tape" (defArgs s__law_tape) (defBody s__law_tape) (defScope s__law_tape) .none kV6 dc6 pm6 an6 cd6 ct6), sl6⟩)
    (c6 : PySem.W.codeIn K cd6 "_law_tape" = true)
    (k6 : PySem.W.keepIn K (.ref f6) = true)
    (a7 : PySem.W.nsIn K mainGlobals "_law_take" = some (some (.ref f7)))
    (l7 : K.lookup f7 = some ⟨oc7, od7, .func (PySem.W.fnOf "_law_take" "_law_take" (defArgs s__law_take) (defBody s__law_take) (defScope s__law_take) .none kV7 dc7 pm7 an7 cd7 ct7), sl7⟩)
    (c7 : PySem.W.codeIn K cd7 "_law_take" = true)
    (k7 : PySem.W.keepIn K (.ref f7) = true)
    (a8 : PySem.W.nsIn K mainGlobals "_law_digest" = some (some (.ref f8)))
    (l8 : K.lookup f8 = some ⟨oc8, od8, .func (PySem.W.fnOf "_law_digest" "_law_digest" (defArgs s__law_digest) (defBody s__law_digest) (defScope s__law_digest) .none kV8 dc8 pm8 an8 cd8 ct8), sl8⟩)
    (c8 : PySem.W.codeIn K cd8 "_law_digest" = true)
    (k8 : PySem.W.keepIn K (.ref f8) = true)
    (a9 : PySem.W.nsIn K mainGlobals "_law_least" = some (some (.ref f9)))
    (l9 : K.lookup f9 = some ⟨oc9, od9, .func (PySem.W.fnOf "_law_least" "_law_least" (defArgs s__law_least) (defBody s__law_least) (defScope s__law_least) .none kV9 dc9 pm9 an9 cd9 ct9), sl9⟩)
    (c9 : PySem.W.codeIn K cd9 "_law_least" = true)
    (k9 : PySem.W.keepIn K (.ref f9) = true)
    (a10 : PySem.W.nsIn K mainGlobals "_law_laid" = some (some (.ref f10)))
    (l10 : K.lookup f10 = some ⟨oc10, od10, .func (PySem.W.fnOf "_law_laid" "_law_laid" (defArgs s__law_laid) (defBody s__law_laid) (defScope s__law_laid) .none kV10 dc10 pm10 an10 cd10 ct10), sl10⟩)
    (c10 : PySem.W.codeIn K cd10 "_law_laid" = true)
    (k10 : PySem.W.keepIn K (.ref f10) = true)
    (a11 : PySem.W.nsIn K mainGlobals "_law_size" = some (some (.ref f11)))
    (l11 : K.lookup f11 = some ⟨oc11, od11, .func (PySem.W.fnOf "_law_size" "_law_size" (defArgs s__law_size) (defBody s__law_size) (defScope s__law_size) .none kV11 dc11 pm11 an11 cd11 ct11), sl11⟩)
    (c11 : PySem.W.codeIn K cd11 "_law_size" = true)
    (k11 : PySem.W.keepIn K (.ref f11) = true)
    (a12 : PySem.W.nsIn K mainGlobals "_law_fine" = some (some (.ref f12)))
    (l12 : K.lookup f12 = some ⟨oc12, od12, .func (PySem.W.fnOf "_law_fine" "_law_fine" (defArgs s__law_fine) (defBody s__law_fine) (defScope s__law_fine) .none kV12 dc12 pm12 an12 cd12 ct12), sl12⟩)
    (c12 : PySem.W.codeIn K cd12 "_law_fine" = true)
    (k12 : PySem.W.keepIn K (.ref f12) = true)
    (a13 : PySem.W.nsIn K mainGlobals "_law_known" = some (some (.ref f13)))
    (l13 : K.lookup f13 = some ⟨oc13, od13, .func (PySem.W.fnOf "_law_known" "_law_known" (defArgs s__law_known) (defBody s__law_known) (defScope s__law_known) .none kV13 dc13 pm13 an13 cd13 ct13), sl13⟩)
    (c13 : PySem.W.codeIn K cd13 "_law_known" = true)
    (k13 : PySem.W.keepIn K (.ref f13) = true)
    (a14 : PySem.W.nsIn K mainGlobals "_law_refused" = some (some (.ref f14)))
    (l14 : K.lookup f14 = some ⟨oc14, od14, .func (PySem.W.fnOf "_law_refused" "_law_refused" (defArgs s__law_refused) (defBody s__law_refused) (defScope s__law_refused) .none kV14 dc14 pm14 an14 cd14 ct14), sl14⟩)
    (c14 : PySem.W.codeIn K cd14 "_law_refused" = true)
    (k14 : PySem.W.keepIn K (.ref f14) = true)
    (a15 : PySem.W.nsIn K mainGlobals "law" = some (some (.ref f15)))
    (l15 : K.lookup f15 = some ⟨oc15, od15, .func (PySem.W.fnOf "law" "law" (defArgs s_law) (defBody s_law) (defScope s_law) .none kV15 dc15 pm15 an15 cd15 ct15), sl15⟩)
    (c15 : PySem.W.codeIn K cd15 "law" = true)
    (k15 : PySem.W.keepIn K (.ref f15) = true)
    (gBASE : PySem.W.nsIn K mainGlobals "BASE" = some (some (.int 2000003 tBASE)))
    (gBLOCK : PySem.W.nsIn K mainGlobals "BLOCK" = some (some (.int 8 tBLOCK)))
    (gPRIME : PySem.W.nsIn K mainGlobals "PRIME" = some (some (.int 2305843009213693951 tPRIME)))
    (gSIGNS : PySem.W.nsIn K mainGlobals "SIGNS" = some (some (.str "0123456789abcdef" tSIGNS)))
    (z_abs : PySem.W.nsIn K mainGlobals "abs" = some none)
    (z_any : PySem.W.nsIn K mainGlobals "any" = some none)
    (z_int : PySem.W.nsIn K mainGlobals "int" = some none)
    (z_isinstance : PySem.W.nsIn K mainGlobals "isinstance" = some none)
    (z_len : PySem.W.nsIn K mainGlobals "len" = some none)
    (z_list : PySem.W.nsIn K mainGlobals "list" = some none)
    (z_ord : PySem.W.nsIn K mainGlobals "ord" = some none)
    (z_range : PySem.W.nsIn K mainGlobals "range" = some none)
    (z_str : PySem.W.nsIn K mainGlobals "str" = some none)
    (z_sum : PySem.W.nsIn K mainGlobals "sum" = some none)
    (z_tuple : PySem.W.nsIn K mainGlobals "tuple" = some none)
    (aNoPatch : PySem.W.nsIn K mainGlobals "NoPatch" = some (some (.ref CNoPatch)))
    (xNoPatch : PySem.W.excIn K CNoPatch [.type "ValueError", .type "Exception", .type "BaseException", .type "object"] "ValueError.__new__" = true)
    (kNoPatch : PySem.W.keepIn K (.ref CNoPatch) = true)
    (bNoPatch : PySem.W.subIn K (.ref CNoPatch) (.type "BaseException") = some true)
    (tNoPatch : PySem.W.typeIn K (.ref CNoPatch) = some (.type "type"))
    (iNoPatch : PySem.W.isClsIn K CNoPatch = true)
    (sNoPatch : PySem.W.subIn K (.ref CNoPatch) (.ref CNoPatch) = some true)
    : ∃ fd : FuncData, (∀ (s : Shared) (v : Value), BindsTo s fd ⟨[v], []⟩ [("script", v)]) ∧ ∀ base : Heap, K.In base → base.Ns mainGlobals mg → FnOk l.prog w K mg base (L2.CX l.prog w) 5 fa fd ["script"] (spLaw K) := by
  have e := hfa.symm.trans (PySem.W.mg_of X G a15)
  cases e
  have tok : Tab.Ok (tab CNoPatch) K := ⟨fun c C e => by simp [tab] at e, List.nodup_nil, fun c C f x e => by simp [tab] at e⟩
  have T : Txt K mg (tab CNoPatch) CNoPatch := ⟨tok, ⟨_, .int _, PySem.W.mg_of X G gBASE, ⟨_, rfl⟩, fun _ _ _ => .int _⟩, ⟨_, .int _, PySem.W.mg_of X G gBLOCK, ⟨_, rfl⟩, fun _ _ _ => .int _⟩, ⟨_, .int _, PySem.W.mg_of X G gPRIME, ⟨_, rfl⟩, fun _ _ _ => .int _⟩, ⟨_, .str _, PySem.W.mg_of X G gSIGNS, ⟨_, rfl⟩, fun _ _ _ => .str ⟨lg_SIGNS.eq, lg_SIGNS.len, lg_SIGNS.ok⟩⟩, PySem.W.mg_none_of X G z_abs, PySem.W.mg_none_of X G z_any, PySem.W.mg_none_of X G z_int, PySem.W.mg_none_of X G z_isinstance, PySem.W.mg_none_of X G z_len, PySem.W.mg_none_of X G z_list, PySem.W.mg_none_of X G z_ord, PySem.W.mg_none_of X G z_range, PySem.W.mg_none_of X G z_str, PySem.W.mg_none_of X G z_sum, PySem.W.mg_none_of X G z_tuple, ⟨_, _, _, _, _, rfl, PySem.F.excBase_ValueError, xNoPatch, PySem.W.mg_of X G aNoPatch, kNoPatch, bNoPatch, tNoPatch⟩, PySem.W.mg_of X G aNoPatch, fun n C b eC eb => by
      unfold cs_NoPatch at eb
      split at eb
      · rename_i en
        subst en
        cases eb
        cases eC
        exact caught_self bNoPatch iNoPatch tNoPatch sNoPatch
      · cases eb⟩
  have F0 := fun_mk (st := s_number_of) l0 c0 k0
  have F1 := fun_mk (st := s_digest) l1 c1 k1
  have F2 := fun_mk (st := s_patch) l2 c2 k2
  have F3 := fun_mk (st := s_patched) l3 c3 k3
  have F4 := fun_mk (st := s_patch_size) l4 c4 k4
  have F5 := fun_mk (st := s_joined_patches) l5 c5 k5
  have F6 := fun_mk (st := s__law_tape) l6 c6 k6
  have F7 := fun_mk (st := s__law_take) l7 c7 k7
  have F8 := fun_mk (st := s__law_digest) l8 c8 k8
  have F9 := fun_mk (st := s__law_least) l9 c9 k9
  have F10 := fun_mk (st := s__law_laid) l10 c10 k10
  have F11 := fun_mk (st := s__law_size) l11 c11 k11
  have F12 := fun_mk (st := s__law_fine) l12 c12 k12
  have F13 := fun_mk (st := s__law_known) l13 c13 k13
  have F14 := fun_mk (st := s__law_refused) l14 c14 k14
  have F15 := fun_mk (st := s_law) l15 c15 k15
  refine ⟨PySem.W.fnOf "law" "law" (defArgs s_law) (defBody s_law) (defScope s_law) .none kV15 dc15 pm15 an15 cd15 ct15, fun s v => .of_eq rfl, fun base _ _ => ?_⟩
  have C_number_of : Cal l.prog w K mg base (tab CNoPatch) 1 "number_of" F_number_of := ⟨_, _, _, ok_number_of F0 T, PySem.W.mg_of X G a0, k0, F0.binds (ps := ["text"]) fun _ _ _ _ _ _ us hl => match us, hl with | [_], _ => rfl⟩
  have C_digest : Cal l.prog w K mg base (tab CNoPatch) 2 "digest" F_digest := ⟨_, _, _, ok_digest F1 T C_number_of, PySem.W.mg_of X G a1, k1, F1.binds (ps := ["text"]) fun _ _ _ _ _ _ us hl => match us, hl with | [_], _ => rfl⟩
  have C_patch : Cal l.prog w K mg base (tab CNoPatch) 3 "patch" F_patch := ⟨_, _, _, ok_patch F2 T C_digest, PySem.W.mg_of X G a2, k2, F2.binds (ps := ["old", "new"]) fun _ _ _ _ _ _ us hl => match us, hl with | [_, _], _ => rfl⟩
  have C_patched : Cal l.prog w K mg base (tab CNoPatch) 3 "patched" F_patched := ⟨_, _, _, ok_patched F3 T C_digest, PySem.W.mg_of X G a3, k3, F3.binds (ps := ["old", "told"]) fun _ _ _ _ _ _ us hl => match us, hl with | [_, _], _ => rfl⟩
  have C_patch_size : Cal l.prog w K mg base (tab CNoPatch) 1 "patch_size" F_patch_size := ⟨_, _, _, ok_patch_size F4 T, PySem.W.mg_of X G a4, k4, F4.binds (ps := ["told"]) fun _ _ _ _ _ _ us hl => match us, hl with | [_], _ => rfl⟩
  have C_joined_patches : Cal l.prog w K mg base (tab CNoPatch) 4 "joined_patches" F_joined_patches := ⟨_, _, _, ok_joined_patches F5 T C_patched, PySem.W.mg_of X G a5, k5, F5.binds (ps := ["old", "row"]) fun _ _ _ _ _ _ us hl => match us, hl with | [_, _], _ => rfl⟩
  have C__law_tape : Cal l.prog w K mg base (tab CNoPatch) 1 "_law_tape" F__law_tape := ⟨_, _, _, ok__law_tape F6 T, PySem.W.mg_of X G a6, k6, F6.binds (ps := ["script"]) fun _ _ _ _ _ _ us hl => match us, hl with | [_], _ => rfl⟩
  have C__law_take : Cal l.prog w K mg base (tab CNoPatch) 1 "_law_take" F__law_take := ⟨_, _, _, ok__law_take F7 T, PySem.W.mg_of X G a7, k7, F7.binds (ps := ["tape", "many"]) fun _ _ _ _ _ _ us hl => match us, hl with | [_, _], _ => rfl⟩
  have C__law_digest : Cal l.prog w K mg base (tab CNoPatch) 1 "_law_digest" F__law_digest := ⟨_, _, _, ok__law_digest F8 T, PySem.W.mg_of X G a8, k8, F8.binds (ps := ["text"]) fun _ _ _ _ _ _ us hl => match us, hl with | [_], _ => rfl⟩
  have C__law_least : Cal l.prog w K mg base (tab CNoPatch) 1 "_law_least" F__law_least := ⟨_, _, _, ok__law_least F9 T, PySem.W.mg_of X G a9, k9, F9.binds (ps := ["many"]) fun _ _ _ _ _ _ us hl => match us, hl with | [_], _ => rfl⟩
  have C__law_laid : Cal l.prog w K mg base (tab CNoPatch) 1 "_law_laid" F__law_laid := ⟨_, _, _, ok__law_laid F10 T, PySem.W.mg_of X G a10, k10, F10.binds (ps := ["old", "parts"]) fun _ _ _ _ _ _ us hl => match us, hl with | [_, _], _ => rfl⟩
  have C__law_size : Cal l.prog w K mg base (tab CNoPatch) 1 "_law_size" F__law_size := ⟨_, _, _, ok__law_size F11 T, PySem.W.mg_of X G a11, k11, F11.binds (ps := ["parts"]) fun _ _ _ _ _ _ us hl => match us, hl with | [_], _ => rfl⟩
  have C__law_fine : Cal l.prog w K mg base (tab CNoPatch) 4 "_law_fine" F__law_fine := ⟨_, _, _, ok__law_fine F12 T C__law_digest C__law_laid C__law_size C_patch C_patch_size C_patched, PySem.W.mg_of X G a12, k12, F12.binds (ps := ["old", "new"]) fun _ _ _ _ _ _ us hl => match us, hl with | [_, _], _ => rfl⟩
  have C__law_known : Cal l.prog w K mg base (tab CNoPatch) 4 "_law_known" F__law_known := ⟨_, _, _, ok__law_known F13 T C__law_digest C__law_size C_patch C_patch_size C_patched, PySem.W.mg_of X G a13, k13, F13.binds (ps := ["old", "new", "parts"]) fun _ _ _ _ _ _ us hl => match us, hl with | [_, _, _], _ => rfl⟩
  have C__law_refused : Cal l.prog w K mg base (tab CNoPatch) 4 "_law_refused" F__law_refused := ⟨_, _, _, ok__law_refused F14 T C_patched, PySem.W.mg_of X G a14, k14, F14.binds (ps := ["old", "told"]) fun _ _ _ _ _ _ us hl => match us, hl with | [_, _], _ => rfl⟩
  exact (ok_law F15 T C__law_digest C__law_fine C__law_known C__law_least C__law_refused C__law_size C__law_take C__law_tape C_joined_patches C_patch).imp fun vs H Q E hs => by
    obtain ⟨a, ns, rfl, hS, hl, q⟩ := hs
    obtain ⟨hh, e⟩ := law_true ns hl
    refine ⟨[], [], [], [.scr ns], ⟨rfl, fun n m a e => by simp at e, fun a ha => (by simp at ha), fun n o p e => by simp at e⟩, .cons (.scr (hS.elim (fun z => .inl ⟨z, fun ⟨n, e⟩ => by simp at e, by simp⟩) fun z => .inr z)) .nil, ?_⟩
    rw [e]
    intro ρ' H' _ _ x rx
    cases rx
    exact q H'
theorem walk {l : PySem.W.OpenLaw} {q : Program} {loose : List Str} {XP : (Str → Option Value) → Heap → Prop} {YP : World → Heap → Prop} {d : DefRec} {K : Params → PySem.W.Frag} (hn : l.most = some 63) (hdf : d.params.defaults = [])
    (hY : ∀ (w : World) (h : Heap), YP w h → (K w.params).In h)
    (F : ∀ (w : World) (mg : Str → Option Value) (fa : Addr) (h : Heap), (K w.params).In h → h.Ns mainGlobals mg → mg d.name = some (.ref fa) →
      ∃ fd : FuncData, (∀ (s : Shared) (u : Value), BindsTo s fd ⟨[u], []⟩ [("script", u)]) ∧ ∀ base : Heap, (K w.params).In base → base.Ns mainGlobals mg → FnOk l.prog w (K w.params) mg base (L2.CX l.prog w) 5 fa fd ["script"] (spLaw (K w.params))) :
    PySem.W.WalkO q loose XP YP l.row.toRowW d [] (fun f vs => PySem.call f vs) :=
  L2.walk_of (n := 63) (k := 5) (x := "script") (CX := fun w => L2.CX l.prog w) (sp := fun w => spLaw (K w.params)) hn (by decide) hdf ⟨rfl, by decide, by decide⟩ hY F (fun _ _ a ns hl _ hS => ⟨a, ns, rfl, hS, hl, fun _ => rfl⟩) fun _ _ _ _ _ z => by
    obtain ⟨_, _, _, _, _, _, _, _, _, _, _, _, z⟩ := z
    exact z
end Y.k29
open PySem PySem.W PyProof.Rows
set_option maxRecDepth 100000 in
set_option maxHeartbeats 0 in
theorem PySem.Challenge.cw_sameinsameout_k29_whole_patches_of_known_holds : PySem.Challenge.rw_sameinsameout_k29_whole_patches_of_known.Holds := by
  w_on; o_law; k_head; (case hw => w_witness2)
  k_fill
  refine Y.k29.walk (l := PySem.Challenge.rw_sameinsameout_k29_whole_patches_of_known) rfl rfl (fun w h Y => PySem.W.kIn_of Y) ?F
  case F =>
    intro w mg fa h KX G hmg
    refine' Y.k29.all_mk KX G hmg ?a0 ?l0 ?c0 ?k0 ?a1 ?l1 ?c1 ?k1 ?a2 ?l2 ?c2 ?k2 ?a3 ?l3 ?c3 ?k3 ?a4 ?l4 ?c4 ?k4 ?a5 ?l5 ?c5 ?k5 ?a6 ?l6 ?c6 ?k6 ?a7 ?l7 ?c7 ?k7 ?a8 ?l8 ?c8 ?k8 ?a9 ?l9 ?c9 ?k9 ?a10 ?l10 ?c10 ?k10 ?a11 ?l11 ?c11 ?k11 ?a12 ?l12 ?c12 ?k12 ?a13 ?l13 ?c13 ?k13 ?a14 ?l14 ?c14 ?k14 ?a15 ?l15 ?c15 ?k15 ?gBASE ?gBLOCK ?gPRIME ?gSIGNS ?z_abs ?z_any ?z_int ?z_isinstance ?z_len ?z_list ?z_ord ?z_range ?z_str ?z_sum ?z_tuple ?aNoPatch ?xNoPatch ?kNoPatch ?bNoPatch ?tNoPatch ?iNoPatch ?sNoPatch
    (case a0 => k_is)
    (case l0 => k_is)
    (case c0 => k_is)
    (case k0 => k_is)
    (case a1 => k_is)
    (case l1 => k_is)
    (case c1 => k_is)
    (case k1 => k_is)
    (case a2 => k_is)
    (case l2 => k_is)
    (case c2 => k_is)
    (case k2 => k_is)
    (case a3 => k_is)
    (case l3 => k_is)
    (case c3 => k_is)
    (case k3 => k_is)
    (case a4 => k_is)
    (case l4 => k_is)
    (case c4 => k_is)
    (case k4 => k_is)
    (case a5 => k_is)
    (case l5 => k_is)
    (case c5 => k_is)
    (case k5 => k_is)
    (case a6 => k_is)
    (case l6 => k_is)
    (case c6 => k_is)
    (case k6 => k_is)
    (case a7 => k_is)
    (case l7 => k_is)
    (case c7 => k_is)
    (case k7 => k_is)
    (case a8 => k_is)
    (case l8 => k_is)
    (case c8 => k_is)
    (case k8 => k_is)
    (case a9 => k_is)
    (case l9 => k_is)
    (case c9 => k_is)
    (case k9 => k_is)
    (case a10 => k_is)
    (case l10 => k_is)
    (case c10 => k_is)
    (case k10 => k_is)
    (case a11 => k_is)
    (case l11 => k_is)
    (case c11 => k_is)
    (case k11 => k_is)
    (case a12 => k_is)
    (case l12 => k_is)
    (case c12 => k_is)
    (case k12 => k_is)
    (case a13 => k_is)
    (case l13 => k_is)
    (case c13 => k_is)
    (case k13 => k_is)
    (case a14 => k_is)
    (case l14 => k_is)
    (case c14 => k_is)
    (case k14 => k_is)
    (case a15 => k_is)
    (case l15 => k_is)
    (case c15 => k_is)
    (case k15 => k_is)
    (case gBASE => k_is)
    (case gBLOCK => k_is)
    (case gPRIME => k_is)
    (case gSIGNS => k_is)
    (case z_abs => k_is)
    (case z_any => k_is)
    (case z_int => k_is)
    (case z_isinstance => k_is)
    (case z_len => k_is)
    (case z_list => k_is)
    (case z_ord => k_is)
    (case z_range => k_is)
    (case z_str => k_is)
    (case z_sum => k_is)
    (case z_tuple => k_is)
    (case aNoPatch => k_is)
    (case xNoPatch => k_exc)
    (case kNoPatch => k_is)
    (case bNoPatch => k_is)
    (case tNoPatch => k_is)
    (case iNoPatch => k_is)
    (case sNoPatch => first | rfl | k_is)

