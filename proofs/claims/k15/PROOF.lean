import PyProof.Rows.All
import Wide.All
import OpenK.AllK
import Wide.FinOn
import KE.KStateDown
import HandS.ForMost
import HandS.Exc
import HandS.TryOnly
import HandS.ExcOwn
import HandS.WordsExc
import HandS.Walk
import HandS.CallSlots
import HandS.IsInst
import HandS.Flow
import HandS.SortInts
import HandS.Lambda
import HandS.TupMul
import HandS.TupAny
import HandS.TupLe
import HandS.Text
import HandS.Deep
import KE.DataMinMax
import PyProof.ReprLen
import KE.SortData
import HandS.Iter
import HandS.Comp
import HandS.Zip
import KE.GoesMore
import KE.GoesEnum
import PyProof.EnumMake
import HandS.Defaults
import HandS.ExcIs
import HandS.Style
import HandS.CallLocal
import HandS.Conv
import HandS.Strs
import HandS.SetFor
import HandS.Dict
import KE.KDictList
import HandS.SortRule
import HandS.Head0
import HandS.Head1
import HandS.Head2
import HandS.HeadEnd
import HandS.HeadHook1
import HandS.HeadHook2
import HandS.HeadHook3
import HandS.HeadHook4
import HandS.HeadWalk
import HandS.EndTab
import HandS.FStr
import HandS.Small
import HandS.Gcd
import PySem.Challenge.RW_postshire_k15_whole_hours_open
set_option Elab.async false
set_option linter.all false
/-! Ev, part D: data, results, the operations of Python as plain functions. -/
namespace Ev

/-- data -/
inductive D where
  | non | bl (b : Bool) | int (i : Int) | str (x : List Nat)
  | tup (xs : List D) | lst (xs : List D) | src (xs : List D) | dct (ks vs : List D)
  | fn (n : String) | ins (c : String) (ns : List String) (ds : List D)

/-- a result: a value, an exception of the program's own (its class, its fields), nothing told, or any digit below n, then on -/
inductive R (α : Type) where
  | ok (a : α) | exc (c : String) (fs : List (String × D)) | stuck | draw (n : Nat) (k : Nat → R α)

namespace R
variable {α β γ : Type}
def bind : R α → (α → R β) → R β
  | .ok a, f => f a
  | .exc c fs, _ => .exc c fs
  | .stuck, _ => .stuck
  | .draw n k, f => .draw n fun i => (k i).bind f
@[simp] theorem bind_ok (a : α) (f : α → R β) : (R.ok a).bind f = f a := rfl
@[simp] theorem bind_exc (c : String) (fs : List (String × D)) (f : α → R β) : (R.exc c fs : R α).bind f = .exc c fs := rfl
@[simp] theorem bind_stuck (f : α → R β) : (R.stuck : R α).bind f = .stuck := rfl
@[simp] theorem bind_draw (n : Nat) (k : Nat → R α) (f : α → R β) : (R.draw n k).bind f = .draw n fun i => (k i).bind f := rfl
theorem bind_assoc (m : R α) (f : α → R β) (g : β → R γ) : (m.bind f).bind g = m.bind fun a => (f a).bind g := by
  induction m with
  | draw n k ih => simp only [bind_draw]; congr 1; funext i; exact ih i
  | _ => rfl
@[simp] theorem bind_pure (m : R α) : m.bind R.ok = m := by
  induction m with
  | draw n k ih => simp only [bind_draw]; congr 1; funext i; exact ih i
  | _ => rfl
def map (f : α → β) (m : R α) : R β := m.bind fun a => .ok (f a)
@[simp] theorem map_ok (a : α) (f : α → β) : (R.ok a).map f = .ok (f a) := rfl
@[simp] theorem map_exc (c : String) (fs : List (String × D)) (f : α → β) : (R.exc c fs : R α).map f = .exc c fs := rfl
@[simp] theorem map_stuck (f : α → β) : (R.stuck : R α).map f = .stuck := rfl
@[simp] theorem map_draw (n : Nat) (k : Nat → R α) (f : α → β) : (R.draw n k).map f = .draw n fun i => (k i).map f := rfl
/-- each end is a value with P or an exception with E -/
def sat : R α → (α → Prop) → (String → List (String × D) → Prop) → Prop
  | .ok a, P, _ => P a
  | .exc c fs, _, E => E c fs
  | .stuck, _, _ => False
  | .draw n k, P, E => ∀ i, i < n → (k i).sat P E
@[simp] theorem sat_ok (a : α) (P : α → Prop) (E : String → List (String × D) → Prop) : (R.ok a).sat P E = P a := rfl
@[simp] theorem sat_exc (c : String) (fs : List (String × D)) (P : α → Prop) (E : String → List (String × D) → Prop) : (R.exc c fs : R α).sat P E = E c fs := rfl
@[simp] theorem sat_stuck (P : α → Prop) (E : String → List (String × D) → Prop) : (R.stuck : R α).sat P E = False := rfl
theorem sat_draw (n : Nat) (k : Nat → R α) (P : α → Prop) (E : String → List (String × D) → Prop) : (R.draw n k).sat P E = ∀ i, i < n → (k i).sat P E := rfl
theorem sat_bind {m : R α} {f : α → R β} {P : β → Prop} {E : String → List (String × D) → Prop} : (m.bind f).sat P E ↔ m.sat (fun a => (f a).sat P E) E := by
  induction m with
  | draw n k ih => exact ⟨fun h i hi => (ih i).mp (h i hi), fun h i hi => (ih i).mpr (h i hi)⟩
  | _ => exact Iff.rfl
theorem sat_map {m : R α} {f : α → β} {P : β → Prop} {E : String → List (String × D) → Prop} : (m.map f).sat P E ↔ m.sat (fun a => P (f a)) E := sat_bind
theorem sat_mono {m : R α} {P P' : α → Prop} {E E' : String → List (String × D) → Prop} (h : m.sat P E) (hp : ∀ a, P a → P' a) (he : ∀ c fs, E c fs → E' c fs) : m.sat P' E' := by
  induction m with
  | ok a => exact hp a h
  | exc c fs => exact he c fs h
  | stuck => exact h
  | draw n k ih => exact fun i hi => ih i (h i hi)
theorem sat_and {m : R α} {P P' : α → Prop} {E E' : String → List (String × D) → Prop} (h : m.sat P E) (h' : m.sat P' E') : m.sat (fun a => P a ∧ P' a) (fun c fs => E c fs ∧ E' c fs) := by
  induction m with
  | draw n k ih => exact fun i hi => ih i (h i hi) (h' i hi)
  | stuck => exact h
  | _ => exact ⟨h, h'⟩
end R

/-- the longest list, text -/
def SZ : Nat := 16777216
theorem sz_ok {n : Nat} (h : n ≤ 1000000) : n ≤ SZ := Nat.le_trans h (by decide)

/-! ### kinds -/
def D.tyName : D → String
  | .non => "NoneType" | .bl _ => "bool" | .int _ => "int" | .str _ => "str" | .tup _ => "tuple" | .lst _ => "list" | .src _ => "list" | .dct _ _ => "dict"
  | .fn _ => "function" | .ins c _ _ => c

/-! ### truth -/
def truthy : D → R Bool
  | .non => .ok false
  | .bl b => .ok b
  | .int i => .ok (i != 0)
  | .str x => if x.length ≤ SZ then .ok (!x.isEmpty) else .stuck
  | .tup xs => .ok (!xs.isEmpty)
  | .lst xs => .ok (!xs.isEmpty)
  | _ => .stuck
@[simp] theorem truthy_non : truthy .non = .ok false := rfl
@[simp] theorem truthy_bl (b : Bool) : truthy (.bl b) = .ok b := rfl
@[simp] theorem truthy_int (i : Int) : truthy (.int i) = .ok (i != 0) := rfl
@[simp] theorem truthy_tup (x : List D) : truthy (.tup x) = .ok (!x.isEmpty) := rfl
@[simp] theorem truthy_lst (x : List D) : truthy (.lst x) = .ok (!x.isEmpty) := rfl
/-- an expression as a test -/
def tst (m : R D) : R Bool := m.bind truthy
@[simp] theorem tst_ok (d : D) : tst (.ok d) = truthy d := rfl
@[simp] theorem tst_exc (c : String) (fs : List (String × D)) : tst (.exc c fs) = .exc c fs := rfl
def ifR {α : Type} (c : R Bool) (a b : R α) : R α := c.bind fun k => if k = true then a else b
@[simp] theorem ifR_true {α : Type} (a b : R α) : ifR (.ok true) a b = a := rfl
@[simp] theorem ifR_false {α : Type} (a b : R α) : ifR (.ok false) a b = b := rfl
@[simp] theorem ifR_exc {α : Type} (c : String) (fs : List (String × D)) (a b : R α) : ifR (.exc c fs) a b = .exc c fs := rfl
theorem ifR_ok {α : Type} (k : Bool) (a b : R α) : ifR (.ok k) a b = if k = true then a else b := rfl
def andB (a b : R Bool) : R Bool := ifR a b (.ok false)
def orB (a b : R Bool) : R Bool := ifR a (.ok true) b
def notB (a : R Bool) : R Bool := a.map (!·)
@[simp] theorem andB_true (b : R Bool) : andB (.ok true) b = b := rfl
@[simp] theorem andB_false (b : R Bool) : andB (.ok false) b = .ok false := rfl
@[simp] theorem orB_true (b : R Bool) : orB (.ok true) b = .ok true := rfl
@[simp] theorem orB_false (b : R Bool) : orB (.ok false) b = b := rfl
@[simp] theorem notB_ok (b : Bool) : notB (.ok b) = .ok (!b) := rfl
/-- two tests whose answers are known -/
theorem andB_ok (a b : Bool) : andB (.ok a) (.ok b) = .ok (a && b) := by cases a <;> rfl
theorem orB_ok (a b : Bool) : orB (.ok a) (.ok b) = .ok (a || b) := by cases a <;> rfl
/-- and, or, not as values -/
def andV (a b : R D) : R D := a.bind fun x => ifR (truthy x) b (.ok x)
def orV (a b : R D) : R D := a.bind fun x => ifR (truthy x) (.ok x) b
def notV (a : R D) : R D := (tst a).map fun k => .bl (!k)
@[simp] theorem andV_true (b : R D) : andV (.ok (.bl true)) b = b := rfl
@[simp] theorem andV_false (b : R D) : andV (.ok (.bl false)) b = .ok (.bl false) := rfl
@[simp] theorem orV_true (b : R D) : orV (.ok (.bl true)) b = .ok (.bl true) := rfl
@[simp] theorem orV_false (b : R D) : orV (.ok (.bl false)) b = b := rfl
@[simp] theorem notV_bl (b : Bool) : notV (.ok (.bl b)) = .ok (.bl (!b)) := rfl

/-- a < b < c: b told once -/
def chD (f g : D → D → R D) (a b c : R D) : R D := a.bind fun x => b.bind fun y => (f x y).bind fun z => match z with
  | .bl true => c.bind fun w => g y w
  | .bl false => .ok (.bl false)
  | _ => .stuck

/-! ### lifting -/
def l1 (f : D → R D) (a : R D) : R D := a.bind f
def l2 (f : D → D → R D) (a b : R D) : R D := a.bind fun x => b.bind fun y => f x y
@[simp] theorem l1_ok (f : D → R D) (a : D) : l1 f (.ok a) = f a := rfl
@[simp] theorem l2_ok (f : D → D → R D) (a b : D) : l2 f (.ok a) (.ok b) = f a b := rfl
/-- arguments, from the left -/
def args : List (R D) → R (List D)
  | [] => .ok []
  | m :: ms => m.bind fun d => (args ms).bind fun ds => .ok (d :: ds)
@[simp] theorem args_nil : args [] = .ok [] := rfl
@[simp] theorem args_cons (d : D) (ms : List (R D)) : args (.ok d :: ms) = (args ms).bind fun ds => .ok (d :: ds) := rfl
/-- displays -/
def tupR (ms : List (R D)) : R D := (args ms).map .tup
def lstR (ms : List (R D)) : R D := (args ms).map .lst
/-- a call: the arguments, then f of them -/
def apR (f : List D → R D) (ms : List (R D)) : R D := (args ms).bind f

/-! ### numbers -/
/-- a bool as a number -/
def b2n (b : Bool) : Int := if b then 1 else 0
def addD : D → D → R D
  | .int a, .int b => .ok (.int (a + b))
  | .str a, .str b => if a.length + b.length ≤ SZ then .ok (.str (a ++ b)) else .stuck
  | .lst a, .lst b => if a.length + b.length ≤ SZ then .ok (.lst (a ++ b)) else .stuck
  | .tup a, .tup b => if a.length + b.length ≤ SZ then .ok (.tup (a ++ b)) else .stuck
  | _, _ => .stuck
def subD : D → D → R D
  | .int a, .int b => .ok (.int (a - b))
  | _, _ => .stuck
/-- the sizes that a product may have -/
def mulOk (a b : Int) : Bool := decide (a.natAbs < 2 ^ 64) || decide (b.natAbs < 2 ^ 64)
def rep {α : Type} (xs : List α) : Nat → List α
  | 0 => []
  | n + 1 => xs ++ rep xs n
def mulD : D → D → R D
  | .int a, .int b => if mulOk a b then .ok (.int (a * b)) else .stuck
  | .lst a, .int n => if (-(2 ^ 63) ≤ n ∧ n < 2 ^ 31) ∧ a.length * n.toNat ≤ SZ then .ok (.lst (rep a n.toNat)) else .stuck
  | .tup a, .int n => if a.length ≠ 0 ∧ 2 ≤ n ∧ n ≤ 1000 ∧ a.length ≤ 1000 then .ok (.tup (rep a n.toNat)) else if n = 1 then .ok (.tup a) else .stuck
  | _, _ => .stuck
def fdivD : D → D → R D
  | .int a, .int b => if b ≠ 0 ∧ b.natAbs < 1073741824 then .ok (.int (a.fdiv b)) else .stuck
  | _, _ => .stuck
def modD : D → D → R D
  | .int a, .int b => if b ≠ 0 then .ok (.int (a.fmod b)) else .stuck
  | _, _ => .stuck
def powD : D → D → R D
  | .int a, .int b => if 0 ≤ b ∧ b ≤ 10000 ∧ a.natAbs < 2 ^ 64 then .ok (.int (a ^ b.toNat)) else .stuck
  | _, _ => .stuck
def negD : D → R D
  | .int a => .ok (.int (-a))
  | _ => .stuck
def absD : D → R D
  | .int a => .ok (.int (if a < 0 then -a else a))
  | _ => .stuck
def intD : D → R D
  | .int a => .ok (.int a)
  | .bl b => .ok (.int (b2n b))
  | _ => .stuck
@[simp] theorem addD_int (a b : Int) : addD (.int a) (.int b) = .ok (.int (a + b)) := rfl
@[simp] theorem subD_int (a b : Int) : subD (.int a) (.int b) = .ok (.int (a - b)) := rfl
@[simp] theorem negD_int (a : Int) : negD (.int a) = .ok (.int (-a)) := rfl
@[simp] theorem absD_int (a : Int) : absD (.int a) = .ok (.int (if a < 0 then -a else a)) := rfl
@[simp] theorem intD_int (a : Int) : intD (.int a) = .ok (.int a) := rfl
@[simp] theorem intD_bl (a : Bool) : intD (.bl a) = .ok (.int (b2n a)) := rfl
theorem mulD_int {a b : Int} (h : mulOk a b = true) : mulD (.int a) (.int b) = .ok (.int (a * b)) := by simp [mulD, h]
theorem fdivD_int {a b : Int} (h0 : b ≠ 0) (h1 : b.natAbs < 1073741824) : fdivD (.int a) (.int b) = .ok (.int (a.fdiv b)) := by simp [fdivD, h0, h1]
theorem modD_int {a b : Int} (h0 : b ≠ 0) : modD (.int a) (.int b) = .ok (.int (a.fmod b)) := by simp [modD, h0]

/-! ### equality -/
mutual
def eqv : D → D → Bool
  | .non, .non => true
  | .bl a, .bl b => a == b
  | .bl a, .int j => b2n a == j
  | .int i, .bl b => i == b2n b
  | .int i, .int j => i == j
  | .str x, .str y => x == y
  | .lst xs, .lst ys => eqvL xs ys
  | .tup xs, .tup ys => eqvL xs ys
  | _, _ => false
def eqvL : List D → List D → Bool
  | [], [] => true
  | x :: xs, y :: ys => eqv x y && eqvL xs ys
  | _, _ => false
end
def strOk (x : List Nat) : Bool := x.all fun c => decide (c < 1114112)
mutual
/-- data without dicts, functions, instances, no deeper than so much -/
def flat : Nat → D → Bool
  | _, .non => true
  | _, .bl _ => true
  | _, .int _ => true
  | _, .str x => strOk x
  | n + 1, .lst xs => flatL n xs
  | n + 1, .tup xs => flatL n xs
  | _, _ => false
def flatL : Nat → List D → Bool
  | _, [] => true
  | n, x :: xs => flat n x && flatL n xs
end
@[simp] theorem flat_non (n : Nat) : flat n .non = true := by cases n <;> rfl
@[simp] theorem flat_bl (n : Nat) (b : Bool) : flat n (.bl b) = true := by cases n <;> rfl
@[simp] theorem flat_int (n : Nat) (i : Int) : flat n (.int i) = true := by cases n <;> rfl
@[simp] theorem flat_str (n : Nat) (x : List Nat) : flat n (.str x) = strOk x := by cases n <;> rfl
@[simp] theorem flat_lst (n : Nat) (x : List D) : flat (n + 1) (.lst x) = flatL n x := rfl
@[simp] theorem flat_tup (n : Nat) (x : List D) : flat (n + 1) (.tup x) = flatL n x := rfl
@[simp] theorem flatL_nil (n : Nat) : flatL n [] = true := by cases n <;> rfl
@[simp] theorem flatL_cons (n : Nat) (x : D) (xs : List D) : flatL n (x :: xs) = (flat n x && flatL n xs) := by cases n <;> rfl
theorem flatL_all {n : Nat} : ∀ {xs : List D}, (∀ x ∈ xs, flat n x = true) → flatL n xs = true
  | [], _ => flatL_nil n
  | x :: xs, h => by rw [flatL_cons, h x List.mem_cons_self, flatL_all fun y hy => h y (List.mem_cons_of_mem _ hy)]; rfl
theorem flatL_mem {n : Nat} : ∀ {xs : List D}, flatL n xs = true → ∀ x ∈ xs, flat n x = true
  | x :: xs, h, y, hy => by
    rw [flatL_cons, Bool.and_eq_true] at h
    rcases List.mem_cons.mp hy with rfl | hy
    · exact h.1
    · exact flatL_mem h.2 y hy
mutual
theorem flat_up : ∀ {n m : Nat} {d : D}, n ≤ m → flat n d = true → flat m d = true
  | _, _, .non, _, _ => flat_non _
  | _, _, .bl _, _, _ => flat_bl _ _
  | _, _, .int _, _, _ => flat_int _ _
  | _, _, .str _, _, h => by rw [flat_str] at h ⊢; exact h
  | 0, _, .lst _, _, h => by cases h
  | 0, _, .tup _, _, h => by cases h
  | _ + 1, 0, _, l, _ => by omega
  | n + 1, m + 1, .lst xs, l, h => flatL_up (Nat.le_of_succ_le_succ l) h
  | n + 1, m + 1, .tup xs, l, h => flatL_up (Nat.le_of_succ_le_succ l) h
  | n, _, .src _, _, h => by cases n <;> cases h
  | n, _, .dct _ _, _, h => by cases n <;> cases h
  | n, _, .fn _, _, h => by cases n <;> cases h
  | n, _, .ins _ _ _, _, h => by cases n <;> cases h
theorem flatL_up : ∀ {n m : Nat} {xs : List D}, n ≤ m → flatL n xs = true → flatL m xs = true
  | _, _, [], _, _ => flatL_nil _
  | n, m, x :: xs, l, h => by
    rw [flatL_cons, Bool.and_eq_true] at h ⊢
    exact ⟨flat_up l h.1, flatL_up l h.2⟩
end
/-- equality of data -/
def eqD : D → D → R D
  | .str x, .str y => .ok (.bl (x == y))
  | a, b => if flat 64 a = true ∧ flat 64 b = true then .ok (.bl (eqv a b)) else .stuck
def neD : D → D → R D
  | .str x, .str y => .ok (.bl (!(x == y)))
  | a, b => if flat 64 a = true ∧ flat 64 b = true then .ok (.bl (!eqv a b)) else .stuck
@[simp] theorem eqD_int (a b : Int) : eqD (.int a) (.int b) = .ok (.bl (a == b)) := by simp [eqD, eqv]
@[simp] theorem neD_int (a b : Int) : neD (.int a) (.int b) = .ok (.bl (!(a == b))) := by simp [neD, eqv]
@[simp] theorem eqD_str (a b : List Nat) : eqD (.str a) (.str b) = .ok (.bl (a == b)) := rfl
@[simp] theorem neD_str (a b : List Nat) : neD (.str a) (.str b) = .ok (.bl (!(a == b))) := rfl
theorem eqD_of {a b : D} (ha : flat 64 a = true) (hb : flat 64 b = true) : eqD a b = .ok (.bl (eqv a b)) := by
  unfold eqD
  split
  · simp [eqv]
  · simp [ha, hb]
theorem neD_of {a b : D} (ha : flat 64 a = true) (hb : flat 64 b = true) : neD a b = .ok (.bl (!eqv a b)) := by
  unfold neD
  split
  · simp [eqv]
  · simp [ha, hb]
mutual
theorem eqv_refl : ∀ {n : Nat} {d : D}, flat n d = true → eqv d d = true
  | _, .non, _ => rfl
  | _, .bl _, _ => by simp [eqv]
  | _, .int _, _ => by simp [eqv]
  | _, .str _, _ => by simp [eqv]
  | n + 1, .lst xs, h => by rw [eqv]; exact eqvL_refl h
  | n + 1, .tup xs, h => by rw [eqv]; exact eqvL_refl h
  | 0, .lst xs, h => by cases h
  | 0, .tup xs, h => by cases h
  | n, .src _, h => by cases n <;> cases h
  | n, .dct _ _, h => by cases n <;> cases h
  | n, .fn _, h => by cases n <;> cases h
  | n, .ins _ _ _, h => by cases n <;> cases h
theorem eqvL_refl : ∀ {n : Nat} {xs : List D}, flatL n xs = true → eqvL xs xs = true
  | _, [], _ => by rw [eqvL]
  | n, x :: xs, h => by
    rw [flatL_cons, Bool.and_eq_true] at h
    rw [eqvL, eqv_refl h.1, eqvL_refl h.2]; rfl
end

/-! ### order -/
mutual
/-- two that can be compared -/
def cmpb : D → D → Bool
  | .int _, .int _ => true
  | .str _, .str _ => true
  | .tup xs, .tup ys => cmpbL xs ys
  | _, _ => false
def cmpbL : List D → List D → Bool
  | x :: xs, y :: ys => (eqv x y || cmpb x y) && cmpbL xs ys
  | _, _ => true
end
mutual
def cmpw (f : Int → Int → Bool) (g : List Nat → List Nat → Bool) (z : Nat → Nat → Bool) : D → D → Bool
  | .int a, .int b => f a b
  | .str a, .str b => g a b
  | .tup xs, .tup ys => cmpwL f g z xs ys
  | _, _ => false
def cmpwL (f : Int → Int → Bool) (g : List Nat → List Nat → Bool) (z : Nat → Nat → Bool) : List D → List D → Bool
  | x :: xs, y :: ys => if eqv x y = true then cmpwL f g z xs ys else cmpw f g z x y
  | [], ys => z 0 ys.length
  | xs, [] => z xs.length 0
end
def ltb : D → D → Bool := cmpw (fun a b => decide (a < b)) (fun a b => decide (a < b)) (fun a b => decide (a < b))
def leb : D → D → Bool := cmpw (fun a b => decide (a ≤ b)) (fun a b => !decide (b < a)) (fun a b => decide (a ≤ b))
def gtb : D → D → Bool := cmpw (fun a b => decide (b < a)) (fun a b => decide (b < a)) (fun a b => decide (b < a))
def geb : D → D → Bool := cmpw (fun a b => decide (b ≤ a)) (fun a b => !decide (a < b)) (fun a b => decide (b ≤ a))
def cmpD (w : D → D → Bool) (a b : D) : R D := if flat 60 a = true ∧ flat 60 b = true ∧ cmpb a b = true then .ok (.bl (w a b)) else .stuck
def ordD (w : Int → Int → Bool) (o : D → D → Bool) : D → D → R D
  | .int a, .int b => .ok (.bl (w a b))
  | a, b => cmpD o a b
def ltD : D → D → R D := ordD (fun a b => decide (a < b)) ltb
def leD : D → D → R D := ordD (fun a b => decide (a ≤ b)) leb
def gtD : D → D → R D := ordD (fun a b => decide (b < a)) gtb
def geD : D → D → R D := ordD (fun a b => decide (b ≤ a)) geb
@[simp] theorem ltD_int (a b : Int) : ltD (.int a) (.int b) = .ok (.bl (decide (a < b))) := rfl
@[simp] theorem leD_int (a b : Int) : leD (.int a) (.int b) = .ok (.bl (decide (a ≤ b))) := rfl
@[simp] theorem gtD_int (a b : Int) : gtD (.int a) (.int b) = .ok (.bl (decide (b < a))) := rfl
@[simp] theorem geD_int (a b : Int) : geD (.int a) (.int b) = .ok (.bl (decide (b ≤ a))) := rfl

/-! ### is -/
def isNon : D → Bool
  | .non => true
  | _ => false
def isD : D → D → R D
  | a, .non => .ok (.bl (isNon a))
  | .bl a, .bl b => .ok (.bl (a == b))
  | _, _ => .stuck
def isnD (a b : D) : R D := l1 (fun d => match d with | .bl b => .ok (.bl (!b)) | _ => .stuck) (isD a b)
@[simp] theorem isD_non : isD .non .non = .ok (.bl true) := rfl
@[simp] theorem isD_int (i : Int) : isD (.int i) .non = .ok (.bl false) := rfl
@[simp] theorem isD_tup (i : List D) : isD (.tup i) .non = .ok (.bl false) := rfl
@[simp] theorem isD_lst (i : List D) : isD (.lst i) .non = .ok (.bl false) := rfl
@[simp] theorem isD_str (i : List Nat) : isD (.str i) .non = .ok (.bl false) := rfl
@[simp] theorem isD_bl (a b : Bool) : isD (.bl a) (.bl b) = .ok (.bl (a == b)) := rfl
@[simp] theorem isnD_non : isnD .non .non = .ok (.bl false) := rfl
@[simp] theorem isnD_int (i : Int) : isnD (.int i) .non = .ok (.bl true) := rfl
@[simp] theorem isnD_tup (i : List D) : isnD (.tup i) .non = .ok (.bl true) := rfl
@[simp] theorem isnD_lst (i : List D) : isnD (.lst i) .non = .ok (.bl true) := rfl
@[simp] theorem isnD_str (i : List Nat) : isnD (.str i) .non = .ok (.bl true) := rfl
@[simp] theorem isnD_bl (a b : Bool) : isnD (.bl a) (.bl b) = .ok (.bl (!(a == b))) := rfl

/-! ### in -/
def anyEq (x : D) (xs : List D) : Bool := xs.any fun y => eqv y x
def inD : D → D → R D
  | .str [c], .str y => .ok (.bl (y.contains c))
  | a, .lst xs => if flat 60 a = true ∧ flatL 60 xs = true then .ok (.bl (anyEq a xs)) else .stuck
  | a, .tup xs => if flat 60 a = true ∧ flatL 60 xs = true then .ok (.bl (anyEq a xs)) else .stuck
  | a, .dct ks _ => if flat 60 a = true then .ok (.bl (anyEq a ks)) else .stuck
  | _, _ => .stuck

/-! ### repr -/
mutual
def toP : D → PySem.PyData
  | .non => .none
  | .bl b => .bool b
  | .int i => .int i
  | .str x => .str ⟨x.toArray⟩
  | .lst xs => .list (toPL xs)
  | .tup xs => .tuple (toPL xs)
  | _ => .none
def toPL : List D → List PySem.PyData
  | [] => []
  | x :: xs => toP x :: toPL xs
end
def shw (d : D) : List Nat := (PySem.PyData.shown (toP d)).cps.toList
mutual
/-- no shorter than what repr tells -/
def wt : D → Nat
  | .non => 5
  | .bl _ => 5
  | .int i => if i.natAbs < 10 ^ 40 then 140 else 10 ^ 9
  | .str x => 10 * x.length + 2
  | .lst xs => wtL xs + 3
  | .tup xs => wtL xs + 3
  | _ => 10 ^ 9
def wtL : List D → Nat
  | [] => 0
  | x :: xs => wt x + 2 + wtL xs
end
theorem wtL_le {M : Nat} : ∀ {xs : List D}, (∀ x ∈ xs, wt x ≤ M) → wtL xs ≤ xs.length * (M + 2)
  | [], _ => by rw [wtL]; exact Nat.zero_le _
  | x :: xs, h => by
    have h1 := h x List.mem_cons_self
    have h2 := wtL_le (M := M) fun y hy => h y (List.mem_cons_of_mem _ hy)
    rw [wtL, List.length_cons, Nat.succ_mul]
    omega
/-- it can be told -/
def tellable (d : D) : Prop := flat 64 d = true ∧ wt d ≤ 8000000
instance (d : D) : Decidable (tellable d) := by unfold tellable; infer_instance
/-- {} -/
def noneIn : D → Bool
  | .dct [] [] => true
  | _ => false
def reprD (d : D) : R D := if tellable d then .ok (.str (shw d)) else if noneIn d = true then .ok (.str [123, 125]) else .stuck
theorem reprD_of {d : D} (h : tellable d) : reprD d = .ok (.str (shw d)) := if_pos h

/-! ### built-in functions -/
def un1 (f : D → R D) : List D → R D
  | [a] => f a
  | _ => .stuck
def un2 (f : D → D → R D) : List D → R D
  | [a, b] => f a b
  | _ => .stuck
def un3 (f : D → D → D → R D) : List D → R D
  | [a, b, c] => f a b c
  | _ => .stuck
theorem ap_un1 (f : D → R D) (a : R D) : (args [a]).bind (un1 f) = l1 f a := by simp only [args, R.bind_assoc, R.bind_ok]; rfl
theorem ap_un2 (f : D → D → R D) (a b : R D) : (args [a, b]).bind (un2 f) = l2 f a b := by simp only [args, R.bind_assoc, R.bind_ok]; rfl
def l3 (f : D → D → D → R D) (a b c : R D) : R D := a.bind fun x => b.bind fun y => c.bind fun z => f x y z
@[simp] theorem l3_ok (f : D → D → D → R D) (a b c : D) : l3 f (.ok a) (.ok b) (.ok c) = f a b c := rfl
theorem ap_un3 (f : D → D → D → R D) (a b c : R D) : (args [a, b, c]).bind (un3 f) = l3 f a b c := by simp only [args, R.bind_assoc, R.bind_ok]; rfl
def un0 (f : R D) : List D → R D
  | [] => f
  | _ => .stuck
def un4 (f : D → D → D → D → R D) : List D → R D
  | [x0, x1, x2, x3] => f x0 x1 x2 x3
  | _ => .stuck
def l4 (f : D → D → D → D → R D) (mx0 mx1 mx2 mx3 : R D) : R D := mx0.bind fun x0 => mx1.bind fun x1 => mx2.bind fun x2 => mx3.bind fun x3 => f x0 x1 x2 x3
@[simp] theorem l4_ok (f : D → D → D → D → R D) (x0 x1 x2 x3 : D) : l4 f (.ok x0) (.ok x1) (.ok x2) (.ok x3) = f x0 x1 x2 x3 := rfl
theorem ap_un4 (f : D → D → D → D → R D) (x0 x1 x2 x3 : R D) : (args [x0, x1, x2, x3]).bind (un4 f) = l4 f x0 x1 x2 x3 := by simp only [args, R.bind_assoc, R.bind_ok]; rfl
def un5 (f : D → D → D → D → D → R D) : List D → R D
  | [x0, x1, x2, x3, x4] => f x0 x1 x2 x3 x4
  | _ => .stuck
def l5 (f : D → D → D → D → D → R D) (mx0 mx1 mx2 mx3 mx4 : R D) : R D := mx0.bind fun x0 => mx1.bind fun x1 => mx2.bind fun x2 => mx3.bind fun x3 => mx4.bind fun x4 => f x0 x1 x2 x3 x4
@[simp] theorem l5_ok (f : D → D → D → D → D → R D) (x0 x1 x2 x3 x4 : D) : l5 f (.ok x0) (.ok x1) (.ok x2) (.ok x3) (.ok x4) = f x0 x1 x2 x3 x4 := rfl
theorem ap_un5 (f : D → D → D → D → D → R D) (x0 x1 x2 x3 x4 : R D) : (args [x0, x1, x2, x3, x4]).bind (un5 f) = l5 f x0 x1 x2 x3 x4 := by simp only [args, R.bind_assoc, R.bind_ok]; rfl
def un6 (f : D → D → D → D → D → D → R D) : List D → R D
  | [x0, x1, x2, x3, x4, x5] => f x0 x1 x2 x3 x4 x5
  | _ => .stuck
def l6 (f : D → D → D → D → D → D → R D) (mx0 mx1 mx2 mx3 mx4 mx5 : R D) : R D := mx0.bind fun x0 => mx1.bind fun x1 => mx2.bind fun x2 => mx3.bind fun x3 => mx4.bind fun x4 => mx5.bind fun x5 => f x0 x1 x2 x3 x4 x5
@[simp] theorem l6_ok (f : D → D → D → D → D → D → R D) (x0 x1 x2 x3 x4 x5 : D) : l6 f (.ok x0) (.ok x1) (.ok x2) (.ok x3) (.ok x4) (.ok x5) = f x0 x1 x2 x3 x4 x5 := rfl
theorem ap_un6 (f : D → D → D → D → D → D → R D) (x0 x1 x2 x3 x4 x5 : R D) : (args [x0, x1, x2, x3, x4, x5]).bind (un6 f) = l6 f x0 x1 x2 x3 x4 x5 := by simp only [args, R.bind_assoc, R.bind_ok]; rfl
def un7 (f : D → D → D → D → D → D → D → R D) : List D → R D
  | [x0, x1, x2, x3, x4, x5, x6] => f x0 x1 x2 x3 x4 x5 x6
  | _ => .stuck
def l7 (f : D → D → D → D → D → D → D → R D) (mx0 mx1 mx2 mx3 mx4 mx5 mx6 : R D) : R D := mx0.bind fun x0 => mx1.bind fun x1 => mx2.bind fun x2 => mx3.bind fun x3 => mx4.bind fun x4 => mx5.bind fun x5 => mx6.bind fun x6 => f x0 x1 x2 x3 x4 x5 x6
@[simp] theorem l7_ok (f : D → D → D → D → D → D → D → R D) (x0 x1 x2 x3 x4 x5 x6 : D) : l7 f (.ok x0) (.ok x1) (.ok x2) (.ok x3) (.ok x4) (.ok x5) (.ok x6) = f x0 x1 x2 x3 x4 x5 x6 := rfl
theorem ap_un7 (f : D → D → D → D → D → D → D → R D) (x0 x1 x2 x3 x4 x5 x6 : R D) : (args [x0, x1, x2, x3, x4, x5, x6]).bind (un7 f) = l7 f x0 x1 x2 x3 x4 x5 x6 := by simp only [args, R.bind_assoc, R.bind_ok]; rfl
def un8 (f : D → D → D → D → D → D → D → D → R D) : List D → R D
  | [x0, x1, x2, x3, x4, x5, x6, x7] => f x0 x1 x2 x3 x4 x5 x6 x7
  | _ => .stuck
def l8 (f : D → D → D → D → D → D → D → D → R D) (mx0 mx1 mx2 mx3 mx4 mx5 mx6 mx7 : R D) : R D := mx0.bind fun x0 => mx1.bind fun x1 => mx2.bind fun x2 => mx3.bind fun x3 => mx4.bind fun x4 => mx5.bind fun x5 => mx6.bind fun x6 => mx7.bind fun x7 => f x0 x1 x2 x3 x4 x5 x6 x7
@[simp] theorem l8_ok (f : D → D → D → D → D → D → D → D → R D) (x0 x1 x2 x3 x4 x5 x6 x7 : D) : l8 f (.ok x0) (.ok x1) (.ok x2) (.ok x3) (.ok x4) (.ok x5) (.ok x6) (.ok x7) = f x0 x1 x2 x3 x4 x5 x6 x7 := rfl
theorem ap_un8 (f : D → D → D → D → D → D → D → D → R D) (x0 x1 x2 x3 x4 x5 x6 x7 : R D) : (args [x0, x1, x2, x3, x4, x5, x6, x7]).bind (un8 f) = l8 f x0 x1 x2 x3 x4 x5 x6 x7 := by simp only [args, R.bind_assoc, R.bind_ok]; rfl
def isKind (T : String) (d : D) : Bool := d.tyName == T || (T == "int" && d.tyName == "bool")
def plainKind : D → Bool
  | .non => true | .bl _ => true | .int _ => true | .str _ => true | .tup _ => true | .lst _ => true | .dct _ _ => true
  | _ => false
def isiD (T : String) (d : D) : R D := if plainKind d = true then .ok (.bl (isKind T d)) else .stuck
/-- the items of a list, a tuple -/
def seqD : D → R (List D)
  | .lst xs => .ok xs
  | .tup xs => .ok xs
  | .src xs => .ok xs
  | _ => .stuck
@[simp] theorem seqD_lst (xs : List D) : seqD (.lst xs) = .ok xs := rfl
@[simp] theorem seqD_tup (xs : List D) : seqD (.tup xs) = .ok xs := rfl
def lenD : D → R D
  | .lst xs => .ok (.int xs.length)
  | .tup xs => .ok (.int xs.length)
  | .src xs => .ok (.int xs.length)
  | .str x => if x.length ≤ SZ then .ok (.int x.length) else .stuck
  | .dct ks _ => .ok (.int ks.length)
  | _ => .stuck
@[simp] theorem lenD_lst (xs : List D) : lenD (.lst xs) = .ok (.int xs.length) := rfl
@[simp] theorem lenD_tup (xs : List D) : lenD (.tup xs) = .ok (.int xs.length) := rfl
/-- the ints of a list -/
def ints? : List D → Option (List Int)
  | [] => some []
  | .int i :: xs => (ints? xs).map (i :: ·)
  | _ :: _ => none
def bools? : List D → Option (List Bool)
  | [] => some []
  | .bl i :: xs => (bools? xs).map (i :: ·)
  | _ :: _ => none
@[simp] theorem ints?_map (xs : List Int) : ints? (xs.map D.int) = some xs := by
  induction xs with
  | nil => rfl
  | cons x xs ih => simp [ints?, ih]
@[simp] theorem bools?_map (xs : List Bool) : bools? (xs.map D.bl) = some xs := by
  induction xs with
  | nil => rfl
  | cons x xs ih => simp [bools?, ih]
theorem ints?_eq : ∀ {xs : List D} {is : List Int}, ints? xs = some is → xs = is.map D.int
  | [], is, h => by cases h; rfl
  | .int i :: xs, is, h => by
    rw [ints?, Option.map_eq_some_iff] at h
    obtain ⟨js, e, rfl⟩ := h
    rw [ints?_eq e]; rfl
  | .non :: _, _, h => by cases h
  | .bl _ :: _, _, h => by cases h
  | .str _ :: _, _, h => by cases h
  | .tup _ :: _, _, h => by cases h
  | .lst _ :: _, _, h => by cases h
  | .src _ :: _, _, h => by cases h
  | .dct _ _ :: _, _, h => by cases h
  | .fn _ :: _, _, h => by cases h
  | .ins _ _ _ :: _, _, h => by cases h
theorem bools?_eq : ∀ {xs : List D} {is : List Bool}, bools? xs = some is → xs = is.map D.bl
  | [], is, h => by cases h; rfl
  | .bl i :: xs, is, h => by
    rw [bools?, Option.map_eq_some_iff] at h
    obtain ⟨js, e, rfl⟩ := h
    rw [bools?_eq e]; rfl
  | .non :: _, _, h => by cases h
  | .int _ :: _, _, h => by cases h
  | .str _ :: _, _, h => by cases h
  | .tup _ :: _, _, h => by cases h
  | .lst _ :: _, _, h => by cases h
  | .src _ :: _, _, h => by cases h
  | .dct _ _ :: _, _, h => by cases h
  | .fn _ :: _, _, h => by cases h
  | .ins _ _ _ :: _, _, h => by cases h
def ofO {α : Type} : Option α → R α
  | some a => .ok a
  | none => .stuck
@[simp] theorem ofO_some {α : Type} (a : α) : ofO (some a) = .ok a := rfl
def intsD (d : D) : R (List Int) := (seqD d).bind fun xs => ofO (ints? xs)
def boolsD (d : D) : R (List Bool) := (seqD d).bind fun xs => ofO (bools? xs)
@[simp] theorem intsD_lst (xs : List Int) : intsD (.lst (xs.map D.int)) = .ok xs := by simp [intsD]
@[simp] theorem intsD_tup (xs : List Int) : intsD (.tup (xs.map D.int)) = .ok xs := by simp [intsD]
@[simp] theorem boolsD_lst (xs : List Bool) : boolsD (.lst (xs.map D.bl)) = .ok xs := by simp [boolsD]
/-- sum, all, any of a list -/
def isLst : D → Bool
  | .lst _ => true
  | _ => false
def sumD (d : D) : R D := if isLst d = true then (intsD d).map fun xs => .int xs.sum else (match d with | .tup _ => (intsD d).map fun xs => .int xs.sum | _ => .stuck)
def allD (d : D) : R D := if isLst d = true then (boolsD d).map fun xs => .bl (xs.all id) else .stuck
def anyD (d : D) : R D := if isLst d = true then (boolsD d).map fun xs => .bl (xs.any id) else .stuck
@[simp] theorem sumD_lst (xs : List Int) : sumD (.lst (xs.map D.int)) = .ok (.int xs.sum) := by simp [sumD, isLst]
@[simp] theorem sumD_tup (xs : List Int) : sumD (.tup (xs.map D.int)) = .ok (.int xs.sum) := by simp [sumD, isLst]
@[simp] theorem allD_lst (xs : List Bool) : allD (.lst (xs.map D.bl)) = .ok (.bl (xs.all id)) := by simp [allD, isLst]
@[simp] theorem anyD_lst (xs : List Bool) : anyD (.lst (xs.map D.bl)) = .ok (.bl (xs.any id)) := by simp [anyD, isLst]
def tupleD (d : D) : R D := (seqD d).map .tup
def listD (d : D) : R D := (seqD d).map .lst
@[simp] theorem tupleD_lst (xs : List D) : tupleD (.lst xs) = .ok (.tup xs) := rfl
@[simp] theorem tupleD_tup (xs : List D) : tupleD (.tup xs) = .ok (.tup xs) := rfl
@[simp] theorem listD_lst (xs : List D) : listD (.lst xs) = .ok (.lst xs) := rfl
@[simp] theorem listD_tup (xs : List D) : listD (.tup xs) = .ok (.lst xs) := rfl
mutual
/-- two of one kind, place by place -/
def cmps : D → D → Bool
  | .int _, .int _ => true
  | .str _, .str _ => true
  | .tup xs, .tup ys => cmpsL xs ys
  | _, _ => false
def cmpsL : List D → List D → Bool
  | x :: xs, y :: ys => cmps x y && cmpsL xs ys
  | _, _ => true
end
/-- all can be told apart by order -/
def okAll (xs : List D) : Bool := flatL 60 xs && xs.all fun x => xs.all (cmps x)
def leastL : List D → R D
  | [] => .stuck
  | x :: xs => if okAll (x :: xs) = true then .ok (xs.foldl (fun a y => if ltb y a = true then y else a) x) else .stuck
def mostL : List D → R D
  | [] => .stuck
  | x :: xs => if okAll (x :: xs) = true then .ok (xs.foldl (fun a y => if ltb a y = true then y else a) x) else .stuck
def min2D : D → D → R D
  | .int a, .int b => .ok (.int (if b < a then b else a))
  | .tup xs, .tup ys => leastL [.tup xs, .tup ys]
  | _, _ => .stuck
def max2D : D → D → R D
  | .int a, .int b => .ok (.int (if b > a then b else a))
  | .tup xs, .tup ys => mostL [.tup xs, .tup ys]
  | _, _ => .stuck
def minLD : D → R D
  | .lst xs => leastL xs
  | .tup xs => leastL xs
  | _ => .stuck
def maxLD : D → R D
  | .lst xs => mostL xs
  | .tup xs => mostL xs
  | _ => .stuck
@[simp] theorem min2D_int (a b : Int) : min2D (.int a) (.int b) = .ok (.int (if b < a then b else a)) := rfl
@[simp] theorem max2D_int (a b : Int) : max2D (.int a) (.int b) = .ok (.int (if b > a then b else a)) := rfl

/-! ### subscripts -/
/-- the place of an index -/
def ixAt (n : Nat) (i : Int) : Option Nat := if 0 ≤ i then (if i < n then some i.toNat else none) else if -(n : Int) ≤ i then some (i + n).toNat else none
def getAt {α : Type} (xs : List α) (i : Int) : Option α := (ixAt xs.length i).bind fun j => xs[j]?
def idxD : D → D → R D
  | .lst xs, .int i => ofO (getAt xs i)
  | .tup xs, .int i => ofO (getAt xs i)
  | .src xs, .int i => ofO (getAt xs i)
  | .str x, .int i => if x.length ≤ SZ then (ofO (getAt x i)).map fun c => .str [c] else .stuck
  | _, _ => .stuck
theorem getAt_nat {α : Type} {xs : List α} {i : Nat} {a : α} (h : xs[i]? = some a) : getAt xs (i : Int) = some a := by
  obtain ⟨hi, _⟩ := List.getElem?_eq_some_iff.mp h
  unfold getAt ixAt
  rw [if_pos (by omega), if_pos (by omega)]
  simpa using h
theorem getAt_last {α : Type} (xs : List α) (a : α) : getAt (xs ++ [a]) (-1) = some a := by
  unfold getAt ixAt
  rw [if_neg (by omega), if_pos (by rw [List.length_append, List.length_singleton]; omega)]
  have : ((-1 : Int) + ((xs ++ [a]).length : Int)).toNat = xs.length := by rw [List.length_append, List.length_singleton]; omega
  show (xs ++ [a])[((-1 : Int) + ((xs ++ [a]).length : Int)).toNat]? = some a
  rw [this]
  simp
/-- a slice's ends -/
def clip (n dflt : Nat) : Option Int → Nat
  | none => dflt
  | some i => if i < 0 then (i + n).toNat else min i.toNat n
def cut {α : Type} (xs : List α) (lo hi : Option Int) : List α := (xs.drop (clip xs.length 0 lo)).take (clip xs.length xs.length hi - clip xs.length 0 lo)
/-- a slice's end as it is written -/
def part (m : Option (R D)) : R (Option Int) := match m with
  | none => .ok none
  | some m => m.bind fun d => match d with
    | .int i => .ok (some i)
    | _ => .stuck
def sliceD (d : D) (lo hi : Option Int) : R D := match d with
  | .lst xs => .ok (.lst (cut xs lo hi))
  | .src xs => .ok (.lst (cut xs lo hi))
  | .tup xs => .ok (.tup (cut xs lo hi))
  | .str x => if x.length ≤ SZ then .ok (.str (cut x lo hi)) else .stuck
  | _ => .stuck
def sliceR (m : R D) (lo hi : Option (R D)) : R D := m.bind fun d => (part lo).bind fun l => (part hi).bind fun h => sliceD d l h
@[simp] theorem part_none : part none = .ok none := rfl
@[simp] theorem part_int (i : Int) : part (some (.ok (.int i))) = .ok (some i) := rfl

/-- a method of a list, of a text: the receiver's kind told first -/
def kL (a : D) (m : R D) : R D := match a with
  | .lst _ => m
  | .tup _ => m
  | _ => .stuck
def kS (a : D) (m : R D) : R D := match a with
  | .str _ => m
  | _ => .stuck
def mthL (f : D → D → R D) (a b : R D) : R D := a.bind fun x => kL x (b.bind fun y => f x y)
def mthS (f : D → D → R D) (a b : R D) : R D := a.bind fun x => kS x (b.bind fun y => f x y)
def mthS0 (f : D → R D) (a : R D) : R D := a.bind fun x => kS x (f x)
/-- xs.count(d), xs.index(d) -/
def cntX (xs : List D) (d : D) : R D := if flatL 60 xs = true ∧ flat 60 d = true then .ok (.int (xs.countP fun x => eqv x d : Nat)) else .stuck
def idxX (xs : List D) (d : D) : R D := if flatL 60 xs = true ∧ flat 60 d = true then (match xs.findIdx? fun x => eqv x d with
  | some j => .ok (.int (j : Nat))
  | none => .stuck) else .stuck
def onL (f : List D → D → R D) (a d : D) : R D := match a with
  | .lst xs => f xs d
  | _ => .stuck
def onT (f : List D → D → R D) (a d : D) : R D := match a with
  | .tup xs => f xs d
  | _ => .stuck
def onB (f : List D → D → R D) (a d : D) : R D := match a with
  | .lst xs => f xs d
  | .tup xs => f xs d
  | _ => .stuck
abbrev countD (a d : D) : R D := onB cntX a d
abbrev indexD (a d : D) : R D := onB idxX a d

/-! ### what is walked -/
def mapR {α β : Type} (f : α → R β) : List α → R (List β)
  | [] => .ok []
  | x :: xs => (f x).bind fun y => (mapR f xs).map (y :: ·)
def filR {α β : Type} (f : α → R (Option β)) : List α → R (List β)
  | [] => .ok []
  | x :: xs => (f x).bind fun o => (filR f xs).map fun ys => match o with
    | some y => y :: ys
    | none => ys
theorem mapR_ok {α β : Type} {f : α → R β} {g : α → β} : ∀ {xs : List α}, (∀ x ∈ xs, f x = .ok (g x)) → mapR f xs = .ok (xs.map g)
  | [], _ => rfl
  | x :: xs, h => by rw [mapR, h x List.mem_cons_self, R.bind_ok, mapR_ok fun y hy => h y (List.mem_cons_of_mem _ hy)]; rfl
theorem filR_ok {α β : Type} {f : α → R (Option β)} {g : α → Option β} : ∀ {xs : List α}, (∀ x ∈ xs, f x = .ok (g x)) → filR f xs = .ok (xs.filterMap g)
  | [], _ => rfl
  | x :: xs, h => by
    rw [filR, h x List.mem_cons_self, R.bind_ok, filR_ok fun y hy => h y (List.mem_cons_of_mem _ hy), List.filterMap_cons]
    cases g x <;> rfl
/-- what a for or a comprehension walks -/
def itD : D → R (List D)
  | .lst xs => .ok xs
  | .tup xs => .ok xs
  | .src xs => .ok xs
  | .str x => if x.length ≤ SZ then .ok (x.map fun c => .str [c]) else .stuck
  | _ => .stuck
def itR (m : R D) : R (List D) := m.bind itD
@[simp] theorem itR_lst (xs : List D) : itR (.ok (.lst xs)) = .ok xs := rfl
@[simp] theorem itR_tup (xs : List D) : itR (.ok (.tup xs)) = .ok xs := rfl
def rngL (a : Int) (n : Nat) : List D := (List.range n).map fun i => .int (a + (i : Nat))
def rngD (a b : D) : R (List D) := match a, b with
  | .int i, .int j => if (-(2 ^ 62) ≤ i ∧ i < 2 ^ 62 ∧ -(2 ^ 62) ≤ j ∧ j < 2 ^ 62) ∧ (j - i).toNat ≤ SZ then .ok (rngL i (j - i).toNat) else .stuck
  | _, _ => .stuck
/-- list(range(a, b)) -/
def lrng (m : R (List D)) : R D := m.map .lst
def trng (m : R (List D)) : R D := m.map .tup
def rng1 (b : R D) : R (List D) := b.bind fun y => rngD (.int 0) y
def rng2 (a b : R D) : R (List D) := a.bind fun x => b.bind fun y => rngD x y
def enumL (xs : List D) : List D := xs.zipIdx.map fun p => .tup [.int (p.2 : Nat), p.1]
def zipL (xs ys : List D) : List D := (xs.zip ys).map fun p => .tup [p.1, p.2]
def enumD (m : R D) : R (List D) := (m.bind itD).map enumL
/-- lists and tuples -/
def zipD (a b : R D) : R (List D) := a.bind fun x => b.bind fun y => match x, y with
  | .lst xs, .lst ys => if (zipL xs ys).length ≤ SZ then .ok (zipL xs ys) else .stuck
  | .tup xs, .tup ys => if (zipL xs ys).length ≤ SZ then .ok (zipL xs ys) else .stuck
  | .tup xs, .lst ys => if (zipL xs ys).length ≤ SZ then .ok (zipL xs ys) else .stuck
  | .lst xs, .tup ys => if (zipL xs ys).length ≤ SZ then .ok (zipL xs ys) else .stuck
  | _, _ => .stuck
/-- exceptions told of no more -/
def nx {α : Type} : R α → R α
  | .ok a => .ok a
  | .exc _ _ => .stuck
  | .stuck => .stuck
  | .draw n k => .draw n fun i => nx (k i)
@[simp] theorem nx_ok {α : Type} (a : α) : nx (.ok a) = .ok a := rfl
theorem nx_sat {α : Type} {m : R α} {P : α → Prop} {E E' : String → List (String × D) → Prop} (h : (nx m).sat P E) : m.sat P E' := by
  induction m with
  | draw n k ih => exact fun i hi => ih i (h i hi)
  | exc c fs => exact h.elim
  | _ => exact h
def lcR (it : R (List D)) (f : D → R D) : R D := it.bind fun xs => (mapR (fun x => nx (f x)) xs).map .lst
def lfR (it : R (List D)) (f : D → R (Option D)) : R D := it.bind fun xs => (filR (fun x => nx (f x)) xs).map .lst
/-- if c then the element -/
def keep (c : R Bool) (e : R D) : R (Option D) := ifR c (e.map some) (.ok none)
def unp2 {α : Type} (d : D) (k : D → D → R α) : R α := match d with
  | .tup [a, b] => k a b
  | _ => .stuck
def unp3 {α : Type} (d : D) (k : D → D → D → R α) : R α := match d with
  | .tup [a, b, c] => k a b c
  | _ => .stuck
@[simp] theorem unp2_tup {α : Type} (a b : D) (k : D → D → R α) : unp2 (.tup [a, b]) k = k a b := rfl
@[simp] theorem unp3_tup {α : Type} (a b c : D) (k : D → D → D → R α) : unp3 (.tup [a, b, c]) k = k a b c := rfl
/-- a target that is a name; a pair; a triple -/
abbrev U1 (γ : Type) (d : D) (f : D → R γ) : R γ := f d
abbrev U2 (γ : Type) (d : D) (f : D × D → R γ) : R γ := unp2 d fun a b => f (a, b)
abbrev U3 (γ : Type) (d : D) (f : D × D × D → R γ) : R γ := unp3 d fun a b c => f (a, b, c)
/-- xs.append(d) -/
def appL (xs : List D) (d : D) : R (List D) := if xs.length < SZ then .ok (xs ++ [d]) else .stuck
mutual
/-- nothing that may be changed in it -/
def hard : D → Bool
  | .non => true | .bl _ => true | .int _ => true | .str _ => true | .fn _ => true
  | .tup xs => hardL xs
  | _ => false
def hardL : List D → Bool
  | [] => true
  | x :: xs => hard x && hardL xs
end
def hardR (d : D) : R D := if hard d = true then .ok d else .stuck
/-- targets within targets -/
def uNil (γ : Type) (xs : List D) (f : Unit → R γ) : R γ := match xs with
  | [] => f ()
  | _ => .stuck
def uCons {A B : Type} (u : (γ : Type) → D → (A → R γ) → R γ) (us : (γ : Type) → List D → (B → R γ) → R γ) (γ : Type) (xs : List D) (f : A × B → R γ) : R γ := match xs with
  | x :: r => u γ x fun a => us γ r fun b => f (a, b)
  | [] => .stuck
def uT {A : Type} (n : Nat) (us : (γ : Type) → List D → (A → R γ) → R γ) (γ : Type) (d : D) (f : A → R γ) : R γ := match d with
  | .tup xs => if xs.length = n then us γ xs f else .stuck
  | _ => .stuck
/-- a for without a way out -/
def forR {S : Type} (f : S → D → R S) : S → List D → R S
  | s, [] => .ok s
  | s, x :: xs => (f s x).bind fun s => forR f s xs
/-- [F for .. in it if C for .. in it2 if C2] -/
def l2R {T S : Type} (it : R (List D)) (U : (γ : Type) → D → (T → R γ) → R γ) (C : T → R Bool) (it2 : T → R (List D)) (V : (γ : Type) → D → (S → R γ) → R γ) (C2 : T → S → R Bool) (F : T → S → R D) : R D :=
  (it.bind fun xs => forR (fun acc x => nx (U (List D) x fun t => ifR (C t) ((it2 t).bind fun ys => forR (fun acc y => V (List D) y fun s => ifR (C2 t s) ((F t s).bind fun d => appL acc d) (.ok acc)) acc ys) (.ok acc))) [] xs).map .lst
/-- going on, or done with the def -/
inductive Ct (S : Type) where | go (s : S) | ret (d : D)
def forC {S : Type} (f : S → D → R (Ct S)) : S → List D → R (Ct S)
  | s, [] => .ok (.go s)
  | s, x :: xs => (f s x).bind fun c => match c with
    | .go s => forC f s xs
    | .ret d => .ok (.ret d)
def whR {S : Type} (c : S → R Bool) (f : S → R S) : Nat → S → R S
  | 0, _ => .stuck
  | n + 1, s => ifR (c s) ((f s).bind fun s => whR c f n s) (.ok s)
def whC {S : Type} (c : S → R Bool) (f : S → R (Ct S)) : Nat → S → R (Ct S)
  | 0, _ => .stuck
  | n + 1, s => ifR (c s) ((f s).bind fun k => match k with
    | .go s => whC c f n s
    | .ret d => .ok (.ret d)) (.ok (.go s))
/-- behind what may be done with the def -/
def thenC {S α : Type} (m : R (Ct S)) (r : D → R α) (k : S → R α) : R α := m.bind fun c => match c with
  | .go s => k s
  | .ret d => r d
/-- an object of one's own -/
def ownD : D → R D
  | .lst xs => .ok (.lst xs)
  | .dct ks vs => .ok (.dct ks vs)
  | _ => .stuck
@[simp] theorem ownD_lst (xs : List D) : ownD (.lst xs) = .ok (.lst xs) := rfl
@[simp] theorem ownD_dct (xs ys : List D) : ownD (.dct xs ys) = .ok (.dct xs ys) := rfl
/-- a list of one's own -/
def ownL : D → R (List D)
  | .lst xs => .ok xs
  | _ => .stuck
@[simp] theorem ownL_lst (xs : List D) : ownL (.lst xs) = .ok xs := rfl
/-- a variable that holds a list of one's own (true), any data (false) -/
abbrev OV : Bool → Type
  | true => List D
  | false => D
def toD : (o : Bool) → OV o → D
  | true, xs => .lst xs
  | false, d => d
def tk (o : Bool) {α : Type} (d : D) (k : OV o → R α) : R α := match o, k with
  | true, k => (ownL d).bind k
  | false, k => k d
@[simp] theorem tk_false {α : Type} (d : D) (k : D → R α) : tk false d k = k d := rfl
@[simp] theorem tk_true {α : Type} (xs : List D) (k : List D → R α) : tk true (.lst xs) k = k xs := rfl
/-- xs[i] = d -/
def setL (xs : List D) (i d : D) : R (List D) := match i with
  | .int i => match ixAt xs.length i with
    | some j => .ok (xs.set j d)
    | none => .stuck
  | _ => .stuck
/-- try: m except C: h -/
def tryR {α : Type} : R α → (String → List (String × D) → R α) → R α
  | .ok a, _ => .ok a
  | .exc c fs, h => h c fs
  | .stuck, _ => .stuck
  | .draw n k, h => .draw n fun i => tryR (k i) h
@[simp] theorem tryR_ok {α : Type} (a : α) (h : String → List (String × D) → R α) : tryR (.ok a) h = .ok a := rfl
@[simp] theorem tryR_exc {α : Type} (c : String) (fs : List (String × D)) (h : String → List (String × D) → R α) : tryR (.exc c fs) h = h c fs := rfl
/-- try: m except PostFault: h; else r. Only exceptions without fields, of the classes p -/
def tryX {α : Type} (p : String → Bool) : R D → (String → R α) → (D → R α) → R α
  | .ok d, _, r => r d
  | .exc c fs, h, _ => if (p c && fs.isEmpty) = true then h c else .stuck
  | .stuck, _, _ => .stuck
  | .draw n k, h, r => .draw n fun i => tryX p (k i) h r
@[simp] theorem tryX_ok {α : Type} (p : String → Bool) (d : D) (h : String → R α) (r : D → R α) : tryX p (.ok d) h r = r d := rfl
theorem tryX_exc {α : Type} {p : String → Bool} {c : String} (hp : p c = true) (h : String → R α) (r : D → R α) : tryX p (.exc c []) h r = h c := by simp [tryX, hp]
theorem tryX_sat {α : Type} {p : String → Bool} {m : R D} {h : String → R α} {r : D → R α} {P : α → Prop} {E : String → List (String × D) → Prop} (q : (tryX p m h r).sat P E) : m.sat (fun d => (r d).sat P E) fun c fs => p c = true ∧ fs = [] ∧ (h c).sat P E := by
  induction m with
  | ok d => exact q
  | exc c fs =>
    unfold tryX at q
    split at q
    · rename_i e
      rw [Bool.and_eq_true, List.isEmpty_iff] at e
      exact ⟨e.1, e.2, q⟩
    · exact q.elim
  | stuck => exact q
  | draw n k ih => exact fun i hi => ih i (q i hi)
/-- a call of what a name holds -/
def disp (tbl : List (String × (List D → R D))) (d : D) (k : (List D → R D) → R D) : R D := match d with
  | .fn n => match tbl.lookup n with
    | some f => k f
    | none => .stuck
  | _ => .stuck
/-- a drawn digit -/
def drawD : D → R D
  | .int n => if 0 < n ∧ n < 1073741824 then .draw n.toNat fun i => .ok (.int i) else .stuck
  | _ => .stuck
/-- what the hand of draws is made of -/
def handD (cs : List Int) (i j k l : Int) : D := .lst [.lst (cs.map D.int), .int i, .int j, .int k, .int l]
def handC (cs : List Int) (i j k l : Int) : Bool := cs.all (fun c => decide (0 ≤ c)) && decide (0 ≤ i) && decide (0 ≤ j) && decide (0 ≤ k) && decide (0 ≤ l)
def handB : D → Bool
  | .lst [.lst xs, .int i, .int j, .int k, .int l] => match ints? xs with
    | some cs => handC cs i j k l
    | none => false
  | _ => false
/-- from here on it is the hand -/
def sealR {α : Type} (d : D) (m : R α) : R α := if handB d = true then m else .stuck
end Ev


set_option Elab.async false
set_option linter.all false
set_option maxRecDepth 100000
/-! Ev, part R: how data lies in the heap, the frame's invariant, readings of expressions. -/
namespace Ev
open PySem PySem.Spec PyProof.Rows L2

/-- what stands at an address, a lock looked through -/
def gt (H : Hp) (a : Addr) : Option HO := match H a with
  | some (.frz _ u) => some u
  | o => o
/-- all that was there is there -/
def Gr (H H' : Hp) : Prop := ∀ a u, H a = some u → H' a = some u
theorem Gr.gt {H H' : Hp} (g : Gr H H') {a : Addr} {u : HO} (h : gt H a = some u) : Ev.gt H' a = some u := by
  unfold Ev.gt at h ⊢
  cases e : H a with
  | none => rw [e] at h; cases h
  | some w =>
    rw [e] at h
    rw [g a w e]
    exact h
theorem Gr.refl (H : Hp) : Gr H H := fun _ _ h => h
theorem Gr.trans {H H1 H2 : Hp} (a : Gr H H1) (b : Gr H1 H2) : Gr H H2 := fun x u h => b x u (a x u h)
theorem gt_none {H : Hp} {a : Addr} : gt H a = none ↔ H a = none := by
  unfold gt
  constructor
  · intro h
    split at h
    · cases h
    · exact h
  · intro h
    rw [h]
theorem gt_of {H : Hp} {a : Addr} {u : HO} (h : H a = some u) (n : ∀ o w, u ≠ .frz o w) : gt H a = some u := by
  unfold gt
  rw [h]
  cases u with
  | frz o w => exact absurd rfl (n o w)
  | _ => rfl
theorem gt_upd_same {H : Hp} {a : Addr} {u : HO} (n : ∀ o w, u ≠ .frz o w) : gt (upd H a u) a = some u := gt_of upd_same n
theorem gt_upd_ne {H : Hp} {a b : Addr} {u : HO} (h : b ≠ a) : gt (upd H a u) b = gt H b := by
  unfold gt
  rw [upd_ne h]
theorem Gr.laid {H : Hp} {p : Addr} {u : HO} (h : H p = none) : Gr H (upd H p u) := fun a w e => by
  rw [upd_ne (ne_of_none e h)]
  exact e
theorem Gr.none {H H' : Hp} {a : Addr} (g : Gr H H') (h : H' a = none) : H a = none := by
  cases e : H a with
  | none => rfl
  | some u => rw [g a u e] at h; cases h
theorem gt_rd {H : Hp} {a : Addr} {u : HO} (h : gt H a = some u) : Rd H a u := by
  unfold gt at h
  split at h
  · rename_i o w e
    cases h
    exact .inr ⟨_, e⟩
  · exact .inl h

/-- what the module holds -/
structure Bs where
  K : PySem.W.Frag
  mg : Str → Option Value
abbrev _root_.L2.Cx.bs (X : Cx) : Bs := ⟨X.K, X.mg⟩

/-- a list, a tuple of the written part -/
def KLst (K : PySem.W.Frag) (a : Addr) (xs : List V) : Prop := ∃ (o : Obj) (its : Array Value) (n : Nat), K.lookup a = some o ∧ o.cls = .type "list" ∧ o.dict = none ∧ o.data = .seq its n ∧ its.size ≤ sizeLine ∧ Vals xs its.toList
def KTup (K : PySem.W.Frag) (a : Addr) (xs : List V) : Prop := ∃ (o : Obj) (its : Array Value) (n : Nat), K.lookup a = some o ∧ o.cls = .type "tuple" ∧ o.dict = none ∧ o.data = .seq its n ∧ its.size ≤ sizeLine ∧ Vals xs its.toList
/-- a tuple known to its object, which has no dict -/
def XTup (H : Hp) (a : Addr) (xs : List V) : Prop := ∃ o : Obj, H a = some (.frz o (.tup xs)) ∧ o.dict = none
abbrev Ad := Addr → Prop
/-- a list that is read only (the script) -/
def SrcAt (B : Bs) (H : Hp) (O : Ad) (a : Addr) (xs : List V) : Prop := (Rd H a (.lst xs) ∧ ¬ O a) ∨ KLst B.K a xs
def TupAt (B : Bs) (H : Hp) (O : Ad) (a : Addr) (xs : List V) : Prop := (XTup H a xs ∧ ¬ O a) ∨ KTup B.K a xs
theorem SrcAt.seq {B : Bs} {H : Hp} {O : Ad} {a : Addr} {xs : List V} (h : SrcAt B H O a xs) : SqL B.K H a xs := by
  rcases h with ⟨h, _⟩ | h
  · exact .inl h
  · exact .inr h
theorem TupAt.seq {B : Bs} {H : Hp} {O : Ad} {a : Addr} {xs : List V} (h : TupAt B H O a xs) : SqT B.K H a xs := by
  rcases h with ⟨⟨o, h, _⟩, _⟩ | ⟨o, its, n, e, hc, _, r⟩
  · exact .inl (.inr ⟨o, h⟩)
  · exact .inr ⟨o, its, n, e, hc, r⟩
/-- a text's object -/
abbrev tx (x : List Nat) : Str := ⟨x.toArray⟩

mutual
/-- v stands for d: what may be changed (O) is not in it -/
def Rep (B : Bs) (H : Hp) (O : Ad) : D → V → Prop
  | .non, v => v = .non
  | .bl b, v => v = .bl b
  | .int i, v => v = .int i
  | .str x, v => v = .str (tx x)
  | .tup ds, v => ∃ a vs, v = .ref a ∧ TupAt B H O a vs ∧ RepL B H O ds vs
  | .lst ds, v => ∃ a vs, v = .ref a ∧ (H a = some (.lst vs) ∧ ¬ O a) ∧ RepL B H O ds vs
  | .src ds, v => ∃ a vs, v = .ref a ∧ SrcAt B H O a vs ∧ RepL B H O ds vs
  | .dct ks ds, v => ∃ a kvs, v = .ref a ∧ (gt H a = some (.dK kvs) ∧ ¬ O a) ∧ RepL B H O ks (kvs.map fun p => kV p.1) ∧ RepL B H O ds (kvs.map (·.2))
  | .fn n, v => ∃ a, v = .ref a ∧ B.mg (Str.ofString n) = some (.ref a)
  | .ins c ns ds, v => ∃ a C dx fs, v = .ref a ∧ (H a = some (.ins C dx fs) ∧ ¬ O a) ∧ B.mg (Str.ofString c) = some (.ref C) ∧ fs.map (·.1) = ns.map Str.ofString ∧ RepL B H O ds (fs.map (·.2))
def RepL (B : Bs) (H : Hp) (O : Ad) : List D → List V → Prop
  | [], vs => vs = []
  | d :: ds, vs => ∃ v vr, vs = v :: vr ∧ Rep B H O d v ∧ RepL B H O ds vr
end
section
variable {B : Bs} {H H' : Hp} {O O' : Ad}
/-- no table of code objects -/
def NT (u : HO) : Prop := ∀ ps, u ≠ .tbl ps
theorem nt_lst {xs : List V} : NT (.lst xs) := fun _ z => by cases z
theorem nt_tup {xs : List V} : NT (.tup xs) := fun _ z => by cases z
theorem nt_dK {xs : List (Key × V)} : NT (.dK xs) := fun _ z => by cases z
theorem nt_frz {o : Obj} {u : HO} : NT (.frz o u) := fun _ z => by cases z
theorem TupAt.still {H2 : Hp} {a : Addr} {xs : List V} (t : TupAt B H O a xs) (st : ∀ u, NT u → H a = some u → ¬ O a → H2 a = some u) : SqT B.K H2 a xs := by
  rcases t with ⟨⟨o, h, _⟩, n⟩ | ⟨o, its, n, e, hc, _, r⟩
  · exact .inl (.inr ⟨o, st _ nt_frz h n⟩)
  · exact .inr ⟨o, its, n, e, hc, r⟩
theorem nt_ins {C dx : Addr} {fs : List (Str × V)} : NT (.ins C dx fs) := fun _ z => by cases z
/-- no more than a table of code objects stands there; something else does -/
def Fre (H : Hp) (a : Addr) : Prop := ∀ u, H a = some u → ¬ NT u
def Thr (H : Hp) (a : Addr) : Prop := ∃ u, NT u ∧ H a = some u
theorem Fre.of {H : Hp} {a : Addr} (h : H a = none) : Fre H a := fun u e => by rw [h] at e; cases e
theorem Fre.no {H : Hp} {a : Addr} (h : Fre H a) (t : Thr H a) : False := let ⟨u, n, e⟩ := t; h u e n
theorem Thr.ex {H : Hp} {a : Addr} (t : Thr H a) : ∃ u, H a = some u := let ⟨u, _, e⟩ := t; ⟨u, e⟩
/-- from one heap to another: what data leans on is kept -/
structure Kp (H H' : Hp) (O O' : Ad) : Prop where
  no : ∀ a u, NT u → H a = some u → ¬ O a → ¬ O' a
  ls : ∀ a xs, H a = some (.lst xs) → ¬ O a → H' a = some (.lst xs)
  tp : ∀ a xs, XTup H a xs → ¬ O a → XTup H' a xs
  dk : ∀ a kvs, gt H a = some (.dK kvs) → ¬ O a → gt H' a = some (.dK kvs)
  is : ∀ a C dx fs, H a = some (.ins C dx fs) → ¬ O a → H' a = some (.ins C dx fs)
  sr : ∀ a xs, Rd H a (.lst xs) → ¬ O a → Rd H' a (.lst xs)
theorem Kp.of (g : ∀ a u, NT u → H a = some u → ¬ O a → H' a = some u ∧ ¬ O' a) : Kp H H' O O' where
  no := fun a u t e n => (g a u t e n).2
  ls := fun a xs e n => (g a _ nt_lst e n).1
  tp := fun a xs ⟨o, e, d⟩ n => ⟨o, (g a _ nt_frz e n).1, d⟩
  dk := fun a kvs e n => by
    unfold gt at e ⊢
    cases q : H a with
    | none => rw [q] at e; cases e
    | some w =>
      rw [q] at e
      have t : NT w := by rintro ps rfl; cases e
      rw [(g a w t q n).1]; exact e
  is := fun a C dx fs e n => (g a _ nt_ins e n).1
  sr := fun a xs e n => by
    rcases e with e | ⟨o, e⟩
    · exact .inl (g a _ nt_lst e n).1
    · exact .inr ⟨o, (g a _ nt_frz e n).1⟩
mutual
theorem Rep.kp (g : Kp H H' O O') : ∀ {d : D} {v : V}, Rep B H O d v → Rep B H' O' d v
  | .non, _, h => h
  | .bl _, _, h => h
  | .int _, _, h => h
  | .str _, _, h => h
  | .tup _, _, h => by
    obtain ⟨a, vs, e, h1, h2⟩ := (show ∃ a vs, _ from h)
    refine ⟨a, vs, e, ?_, RepL.kp g h2⟩
    rcases h1 with ⟨h1, n⟩ | h1
    · exact .inl ⟨g.tp _ _ h1 n, let ⟨o, e, _⟩ := h1; g.no _ _ nt_frz e n⟩
    · exact .inr h1
  | .lst _, _, h => by
    obtain ⟨a, vs, e, ⟨h1, n1⟩, h2⟩ := (show ∃ a vs, _ from h)
    exact ⟨a, vs, e, ⟨g.ls _ _ h1 n1, g.no _ _ nt_lst h1 n1⟩, RepL.kp g h2⟩
  | .src _, _, h => by
    obtain ⟨a, vs, e, h1, h2⟩ := (show ∃ a vs, _ from h)
    refine ⟨a, vs, e, ?_, RepL.kp g h2⟩
    rcases h1 with ⟨h1, n⟩ | h1
    · refine .inl ⟨g.sr _ _ h1 n, ?_⟩
      rcases h1 with h1 | ⟨o, h1⟩
      · exact g.no _ _ nt_lst h1 n
      · exact g.no _ _ nt_frz h1 n
    · exact .inr h1
  | .dct _ _, _, h => by
    obtain ⟨a, kvs, e, ⟨h1, n1⟩, h2, h3⟩ := (show ∃ a kvs, _ from h)
    refine ⟨a, kvs, e, ⟨g.dk _ _ h1 n1, ?_⟩, RepL.kp g h2, RepL.kp g h3⟩
    cases q : H a with
    | none => rw [gt_none.mpr q] at h1; cases h1
    | some w =>
      have t : NT w := by
        rintro ps rfl
        unfold gt at h1
        rw [q] at h1
        cases h1
      exact g.no _ _ t q n1
  | .fn _, _, h => h
  | .ins _ _ _, _, h => by
    obtain ⟨a, C, dx, fs, e, ⟨h1, n1⟩, h2, h3, h4⟩ := (show ∃ a C dx fs, _ from h)
    exact ⟨a, C, dx, fs, e, ⟨g.is _ _ _ _ h1 n1, g.no _ _ nt_ins h1 n1⟩, h2, h3, RepL.kp g h4⟩
theorem RepL.kp (g : Kp H H' O O') : ∀ {ds : List D} {vs : List V}, RepL B H O ds vs → RepL B H' O' ds vs
  | [], _, h => h
  | _ :: _, _, h => by
    obtain ⟨v, vr, e, h1, h2⟩ := (show ∃ v vr, _ from h)
    exact ⟨v, vr, e, Rep.kp g h1, RepL.kp g h2⟩
end
theorem Rep.mono (g : ∀ a u, NT u → H a = some u → ¬ O a → H' a = some u ∧ ¬ O' a) {d : D} {v : V} (h : Rep B H O d v) : Rep B H' O' d v := h.kp (.of g)
theorem RepL.mono (g : ∀ a u, NT u → H a = some u → ¬ O a → H' a = some u ∧ ¬ O' a) {d : List D} {v : List V} (h : RepL B H O d v) : RepL B H' O' d v := h.kp (.of g)
theorem Rep.gr (g : Gr H H') {d : D} {v : V} (h : Rep B H O d v) : Rep B H' O d v := h.mono fun a u _ e n => ⟨g a u e, n⟩
theorem RepL.gr (g : Gr H H') {d : List D} {v : List V} (h : RepL B H O d v) : RepL B H' O d v := h.mono fun a u _ e n => ⟨g a u e, n⟩
/-- fewer may be changed -/
theorem Rep.less (g : ∀ a, O' a → O a) {d : D} {v : V} (h : Rep B H O d v) : Rep B H O' d v := h.mono fun a u _ e n => ⟨e, fun z => n (g a z)⟩
theorem RepL.less (g : ∀ a, O' a → O a) {d : List D} {v : List V} (h : RepL B H O d v) : RepL B H O' d v := h.mono fun a u _ e n => ⟨e, fun z => n (g a z)⟩
/-- a place that was free may be changed, too -/
theorem Rep.more {p : Addr} (e : H p = none) {d : D} {v : V} (h : Rep B H O d v) : Rep B H (fun a => O a ∨ a = p) d v := h.mono fun a u _ q n => ⟨q, fun z => z.elim n fun z => by rw [z, e] at q; cases q⟩
theorem RepL.more {p : Addr} (e : H p = none) {d : List D} {v : List V} (h : RepL B H O d v) : RepL B H (fun a => O a ∨ a = p) d v := h.mono fun a u _ q n => ⟨q, fun z => z.elim n fun z => by rw [z, e] at q; cases q⟩
theorem RepL.length : ∀ {ds : List D} {vs : List V}, RepL B H O ds vs → vs.length = ds.length
  | [], _, h => by cases (show _ = [] from h); rfl
  | _ :: _, _, h => by
    obtain ⟨v, vr, e, h1, h2⟩ := (show ∃ v vr, _ from h)
    rw [e, List.length_cons, List.length_cons, RepL.length h2]
theorem RepL.nil : RepL B H O [] [] := rfl
theorem RepL.cons {d : D} {ds : List D} {v : V} {vs : List V} (h : Rep B H O d v) (t : RepL B H O ds vs) : RepL B H O (d :: ds) (v :: vs) := ⟨v, vs, rfl, h, t⟩
theorem RepL.append : ∀ {ds es : List D} {vs ws : List V}, RepL B H O ds vs → RepL B H O es ws → RepL B H O (ds ++ es) (vs ++ ws)
  | [], _, _, _, h, t => by cases (show _ = [] from h); exact t
  | _ :: _, _, _, _, h, t => by
    obtain ⟨v, vr, e, h1, h2⟩ := (show ∃ v vr, _ from h)
    rw [e]
    exact ⟨v, _, rfl, h1, RepL.append h2 t⟩
theorem RepL.get : ∀ {ds : List D} {vs : List V} {i : Nat} {d : D}, RepL B H O ds vs → ds[i]? = some d → ∃ v, vs[i]? = some v ∧ Rep B H O d v
  | [], _, _, _, _, e => by simp at e
  | _ :: _, _, 0, _, h, e => by
    obtain ⟨v, vr, q, h1, h2⟩ := (show ∃ v vr, _ from h)
    cases (Option.some.inj e)
    exact ⟨v, by rw [q]; rfl, h1⟩
  | _ :: _, _, i + 1, _, h, e => by
    obtain ⟨v, vr, q, h1, h2⟩ := (show ∃ v vr, _ from h)
    obtain ⟨x, e1, e2⟩ := RepL.get h2 (i := i) (by simpa using e)
    exact ⟨x, by rw [q]; simpa using e1, e2⟩
theorem RepL.getV : ∀ {ds : List D} {vs : List V} {i : Nat} {v : V}, RepL B H O ds vs → vs[i]? = some v → ∃ d, ds[i]? = some d ∧ Rep B H O d v := fun {ds vs i v} h e => by
  have hl := h.length
  obtain ⟨hi, _⟩ := List.getElem?_eq_some_iff.mp e
  obtain ⟨w, e1, e2⟩ := h.get (i := i) (d := ds[i]'(by omega)) (List.getElem?_eq_getElem _)
  rw [e] at e1
  cases e1
  exact ⟨_, List.getElem?_eq_getElem _, e2⟩
theorem RepL.set : ∀ {ds : List D} {vs : List V} {i : Nat} {d : D} {v : V}, RepL B H O ds vs → Rep B H O d v → RepL B H O (ds.set i d) (vs.set i v)
  | [], _, _, _, _, h, _ => by cases (show _ = [] from h); exact rfl
  | _ :: _, _, 0, _, _, h, r => by
    obtain ⟨v, vr, q, h1, h2⟩ := (show ∃ v vr, _ from h)
    rw [q]
    exact ⟨_, _, rfl, r, h2⟩
  | _ :: _, _, i + 1, _, _, h, r => by
    obtain ⟨v, vr, q, h1, h2⟩ := (show ∃ v vr, _ from h)
    rw [q]
    exact ⟨_, _, rfl, h1, RepL.set h2 r⟩
theorem RepL.drop : ∀ {ds : List D} {vs : List V} (n : Nat), RepL B H O ds vs → RepL B H O (ds.drop n) (vs.drop n)
  | _, _, 0, h => by simpa using h
  | [], _, _ + 1, h => by cases (show _ = [] from h); exact rfl
  | _ :: _, _, n + 1, h => by
    obtain ⟨v, vr, q, h1, h2⟩ := (show ∃ v vr, _ from h)
    rw [q]
    exact RepL.drop n h2
theorem RepL.take : ∀ {ds : List D} {vs : List V} (n : Nat), RepL B H O ds vs → RepL B H O (ds.take n) (vs.take n)
  | _, _, 0, h => rfl
  | [], _, _ + 1, h => by cases (show _ = [] from h); exact rfl
  | _ :: _, _, n + 1, h => by
    obtain ⟨v, vr, q, h1, h2⟩ := (show ∃ v vr, _ from h)
    rw [q]
    exact ⟨_, _, rfl, h1, RepL.take n h2⟩
theorem RepL.rev {ds : List D} {vs : List V} (h : RepL B H O ds vs) : RepL B H O ds.reverse vs.reverse := by
  induction ds generalizing vs with
  | nil => cases (show vs = [] from h); exact rfl
  | cons d ds ih =>
    obtain ⟨v, vr, q, h1, h2⟩ := (show ∃ v vr, _ from h)
    rw [q, List.reverse_cons, List.reverse_cons]
    exact (ih h2).append ⟨v, [], rfl, h1, rfl⟩
theorem RepL.one {d : D} {vs : List V} (h : RepL B H O [d] vs) : ∃ v, vs = [v] ∧ Rep B H O d v := by
  obtain ⟨v, vr, q, h1, h2⟩ := (show ∃ v vr, _ from h)
  cases (show vr = [] from h2)
  exact ⟨v, q, h1⟩
theorem RepL.two {d e : D} {vs : List V} (h : RepL B H O [d, e] vs) : ∃ v w, vs = [v, w] ∧ Rep B H O d v ∧ Rep B H O e w := by
  obtain ⟨v, vr, q, h1, h2⟩ := (show ∃ v vr, _ from h)
  obtain ⟨w, q2, h3⟩ := h2.one
  exact ⟨v, w, by rw [q, q2], h1, h3⟩
end

/-- an object that may be changed -/
def OwnAt (B : Bs) (H : Hp) (O : Ad) : D → Addr → Prop
  | .lst ds, a => ∃ vs, H a = some (.lst vs) ∧ RepL B H O ds vs
  | .dct ks ds, a => ∃ kvs, H a = some (.dK kvs) ∧ RepL B H O ks (kvs.map fun p => kV p.1) ∧ RepL B H O ds (kvs.map (·.2))
  | _, _ => False
theorem OwnAt.there {B : Bs} {H : Hp} {O : Ad} {d : D} {a : Addr} (h : OwnAt B H O d a) : ∃ u, H a = some u ∧ gt H a = some u ∧ Mut (some u) := by
  cases d with
  | lst ds => obtain ⟨vs, e, _⟩ := h; exact ⟨_, e, gt_of e (fun _ _ z => by cases z), True.intro⟩
  | dct ks ds => obtain ⟨kvs, e, _⟩ := h; exact ⟨_, e, gt_of e (fun _ _ z => by cases z), True.intro⟩
  | _ => exact h.elim
/-- it is given out of the hand: from now on it does not change -/
theorem OwnAt.rep {B : Bs} {H : Hp} {O O' : Ad} {d : D} {a : Addr} (h : OwnAt B H O d a) (l : ∀ b, O' b → O b) (n : ¬ O' a) : Rep B H O' d (.ref a) := by
  cases d with
  | lst ds => obtain ⟨vs, e, r⟩ := h; exact ⟨a, vs, rfl, ⟨e, n⟩, r.less l⟩
  | dct ks ds => obtain ⟨kvs, e, r, r'⟩ := h; exact ⟨a, kvs, rfl, ⟨gt_of e (fun _ _ z => by cases z), n⟩, r.less l, r'.less l⟩
  | _ => exact h.elim

/-- how a value is held: borrowed (looked at, not kept), shared, raw (if it is a list or dict: new, nobody else's; H the heap ahead) -/
inductive Fl where | bo | sh | ra
def RepX (B : Bs) (hd : Ad) (H₀ H : Hp) (O : Ad) : Fl → D → V → Prop
  | .sh, d, v => Rep B H O d v
  | .bo, d, v => Rep B H O d v ∨ ∃ a, v = .ref a ∧ OwnAt B H O d a ∧ ¬ hd a
  | .ra, d, v => match d with
    | .lst ds => ∃ a, v = .ref a ∧ Fre H₀ a ∧ OwnAt B H (fun b => O b ∨ b = a) (.lst ds) a
    | .dct ks ds => ∃ a, v = .ref a ∧ Fre H₀ a ∧ OwnAt B H (fun b => O b ∨ b = a) (.dct ks ds) a
    | d => Rep B H O d v
section
variable {B : Bs} {hd O O' : Ad} {H₀ H H' : Hp} {d : D} {v : V} {a : Addr} {f : Fl}
theorem RepX.sh (h : RepX B hd H₀ H O .ra d v) (n : ∀ a, O a → Thr H₀ a) : Rep B H O d v := by
  have key : ∀ {d : D} {a : Addr}, Fre H₀ a → OwnAt B H (fun b => O b ∨ b = a) d a → Rep B H O d (.ref a) := fun {d a} e h => h.rep (fun b z => .inl z) fun z => e.no (n _ z)
  cases d with
  | lst ds => obtain ⟨a, rfl, e, h⟩ := h; exact key e h
  | dct ks ds => obtain ⟨a, rfl, e, h⟩ := h; exact key e h
  | _ => exact h
theorem OwnAt.gr (g : Gr H H') (h : OwnAt B H O d a) : OwnAt B H' O d a := by
  cases d with
  | lst ds => obtain ⟨vs, e, r⟩ := h; exact ⟨vs, g _ _ e, r.gr g⟩
  | dct ks ds => obtain ⟨kvs, e, r, r'⟩ := h; exact ⟨kvs, g _ _ e, r.gr g, r'.gr g⟩
  | _ => exact h.elim
theorem OwnAt.kp (k : Kp H H' O O') (e : ∀ u, NT u → H a = some u → H' a = some u) (h : OwnAt B H O d a) : OwnAt B H' O' d a := by
  cases d with
  | lst ds => obtain ⟨vs, q, r⟩ := h; exact ⟨vs, e _ nt_lst q, r.kp k⟩
  | dct ks ds => obtain ⟨kvs, q, r, r'⟩ := h; exact ⟨kvs, e _ nt_dK q, r.kp k, r'.kp k⟩
  | _ => exact h.elim
theorem OwnAt.less (l : ∀ b, O' b → O b) (h : OwnAt B H O d a) : OwnAt B H O' d a := by
  cases d with
  | lst ds => obtain ⟨vs, e, r⟩ := h; exact ⟨vs, e, r.less l⟩
  | dct ks ds => obtain ⟨kvs, e, r, r'⟩ := h; exact ⟨kvs, e, r.less l, r'.less l⟩
  | _ => exact h.elim
/-- the hand of draws stands at a, its cells at p -/
def HandP (H : Hp) (a p : Addr) : Prop := ∃ (cs : List Int) (i j k l : Int), handC cs i j k l = true ∧ H a = some (.lst [.ref p, .int i, .int j, .int k, .int l]) ∧ H p = some (.lst (cs.map V.int))
/-- all that was there is there, but what stands in the hand -/
structure Pg (T : List (Addr × Str)) (hd : Ad) (H H' : Hp) : Prop where
  kp : ∀ a u, NT u → H a = some u → ¬ hd a → H' a = some u
  hs : ∀ a p, hd a → HandP H a p → HandP H' a p
  th : ∀ a, Thr H a → Thr H' a
  tb : LamX.Tabs T H → LamX.Tabs T H'
section
variable {T : List (Addr × Str)}
theorem Pg.refl (T : List (Addr × Str)) (hd : Ad) (H : Hp) : Pg T hd H H := ⟨fun _ _ _ e _ => e, fun _ _ _ h => h, fun _ h => h, fun h => h⟩
theorem Pg.trans {H1 H2 : Hp} (g : Pg T hd H H1) (g' : Pg T hd H1 H2) : Pg T hd H H2 := ⟨fun a u t e n => g'.kp a u t (g.kp a u t e n) n, fun a p h q => g'.hs a p h (g.hs a p h q), fun a h => g'.th a (g.th a h), fun h => g'.tb (g.tb h)⟩
theorem Gr.pg (g : Gr H H') : Pg T hd H H' := ⟨fun a u _ e _ => g a u e, fun a p _ h => by
  obtain ⟨cs, i, j, k, l, c, h1, h2⟩ := h
  exact ⟨cs, i, j, k, l, c, g _ _ h1, g _ _ h2⟩, fun a ⟨u, t, e⟩ => ⟨u, t, g a u e⟩, fun h => h.ext g⟩
end
theorem HandP.there {p : Addr} (h : HandP H a p) : Thr H a := by
  obtain ⟨cs, i, j, k, l, _, h, _⟩ := h
  exact ⟨_, nt_lst, h⟩
theorem HandP.cells {p : Addr} (h : HandP H a p) : Thr H p := by
  obtain ⟨cs, i, j, k, l, _, _, h⟩ := h
  exact ⟨_, nt_lst, h⟩
variable {T : List (Addr × Str)}
theorem Pg.k (g : Pg T hd H H') (s : ∀ a, hd a → O a) : Kp H H' O O := .of fun a u t e n => ⟨g.kp a u t e fun z => n (s a z), n⟩
/-- a place that is free behind was free ahead -/
theorem Pg.none (g : Pg T hd H H') (e : Fre H' a) : Fre H a := fun u q t => e.no (g.th a ⟨u, t, q⟩)
theorem RepX.pg (g : Pg T hd H H') (s : ∀ a, hd a → O a) (n : ∀ a, hd a → Thr H₀ a) (h : RepX B hd H₀ H O f d v) : RepX B hd H₀ H' O f d v := by
  cases f with
  | sh => exact Rep.kp (g.k s) h
  | bo =>
    rcases h with h | ⟨a, e, h, z⟩
    · exact .inl (h.kp (g.k s))
    · exact .inr ⟨a, e, h.kp (g.k s) (fun u t e => g.kp _ u t e z), z⟩
  | ra =>
    have key : ∀ {d : D} {a : Addr}, Fre H₀ a → OwnAt B H (fun b => O b ∨ b = a) d a → OwnAt B H' (fun b => O b ∨ b = a) d a := fun {d a} e h => by
      have z : ¬ hd a := fun z => e.no (n a z)
      refine h.kp (.of fun b u t e n => ⟨g.kp b u t e fun z => n (.inl (s b z)), n⟩) fun u t e => g.kp _ u t e z
    cases d with
    | lst ds => obtain ⟨a, e, n, h⟩ := h; exact ⟨a, e, n, key n h⟩
    | dct ks ds => obtain ⟨a, e, n, h⟩ := h; exact ⟨a, e, n, key n h⟩
    | _ => exact Rep.kp (g.k s) h
theorem RepX.gr (g : Gr H H') (h : RepX B hd H₀ H O f d v) : RepX B hd H₀ H' O f d v := by
  cases f with
  | sh => exact Rep.gr g h
  | bo =>
    rcases h with h | ⟨a, e, h⟩
    · exact .inl (h.gr g)
    · exact .inr ⟨a, e, h.1.gr g, h.2⟩
  | ra =>
    cases d with
    | lst ds => obtain ⟨a, e, n, h⟩ := h; exact ⟨a, e, n, h.gr g⟩
    | dct ks ds => obtain ⟨a, e, n, h⟩ := h; exact ⟨a, e, n, h.gr g⟩
    | _ => exact Rep.gr g h
/-- raw, seen from further back -/
theorem RepX.back {H₁ : Hp} (n : ∀ a, Fre H₁ a → Fre H₀ a) (h : RepX B hd H₁ H O .ra d v) : RepX B hd H₀ H O .ra d v := by
  cases d with
  | lst ds => obtain ⟨p, e, q, r⟩ := h; exact ⟨p, e, n _ q, r⟩
  | dct ks ds => obtain ⟨p, e, q, r⟩ := h; exact ⟨p, e, n _ q, r⟩
  | _ => exact h
end

/-! ### the frame -/
/-- a slot: nothing known, data, an object in hand, the hand of draws, just this value -/
inductive Sl where | no | sh (d : D) | ow (d : D) | hd | va (v : V)
/-- a frame: what its callers have in hand, the hand of draws, the heap at its entry, the heaps since which only so much was changed -/
structure Fr where
  O0 : Ad
  hd : Ad
  H0 : Hp
  T : List (Addr × Str)
  sn : Hp → Ad → Prop
/-- the addresses in hand -/
def inHand (ρ : List Sl) (σ : L2.St) (a : Addr) : Prop := ∃ (i : Nat) (d : D), ρ[i]? = some (.ow d) ∧ σ[i]? = some (some (.ref a))
def OA (c : Fr) (ρ : List Sl) (σ : L2.St) : Ad := fun a => c.O0 a ∨ inHand ρ σ a
structure WI (B : Bs) (c : Fr) (ρ : List Sl) (σ : L2.St) (H : Hp) : Prop where
  len : ρ.length = σ.length
  shs : ∀ (i : Nat) (d : D), ρ[i]? = some (.sh d) → ∃ v, σ[i]? = some (some v) ∧ Rep B H (OA c ρ σ) d v
  ows : ∀ (i : Nat) (d : D), ρ[i]? = some (.ow d) → ∃ a, σ[i]? = some (some (.ref a)) ∧ OwnAt B H (OA c ρ σ) d a ∧ Fre c.H0 a ∧ ¬ c.hd a ∧ ¬ c.O0 a
  hsl : ∀ (i : Nat), ρ[i]? = some .hd → ∃ a, σ[i]? = some (some (.ref a)) ∧ c.hd a
  vas : ∀ (i : Nat) (v : V), ρ[i]? = some (.va v) → σ[i]? = some (some v)
  dj : ∀ (i j : Nat) (d e : D) (a : Addr), ρ[i]? = some (.ow d) → ρ[j]? = some (.ow e) → σ[i]? = some (some (.ref a)) → σ[j]? = some (some (.ref a)) → i = j
  o0 : ∀ a, c.O0 a → Thr H a
  hdo : ∀ a, c.hd a → c.O0 a
  hds : ∀ a, c.hd a → ∃ p, HandP H a p ∧ ¬ OA c ρ σ p
  ext : Pg c.T c.hd c.H0 H
  h00 : ∀ a, c.hd a → ∃ p, HandP c.H0 a p
  tbs : LamX.Tabs c.T H
  snE : ∀ Hs Os, c.sn Hs Os → ∀ a u, NT u → Hs a = some u → ¬ Os a → H a = some u
  snT : ∀ Hs Os, c.sn Hs Os → ∀ a, Thr Hs a → Thr H a
  snO : ∀ Hs Os, c.sn Hs Os → ∀ a, OA c ρ σ a → Fre Hs a ∨ Os a
  snH : ∀ Hs Os, c.sn Hs Os → ∀ a, c.hd a → Os a
section
variable {B : Bs} {c : Fr} {ρ : List Sl} {σ : L2.St} {H H' : Hp}
/-- what is in hand is there -/
theorem OwnAt.thr {O : Ad} {d : D} {a : Addr} (h : OwnAt B H O d a) : Thr H a := by
  cases d with
  | lst ds => obtain ⟨vs, e, _⟩ := h; exact ⟨_, nt_lst, e⟩
  | dct ks ds => obtain ⟨vs, e, _⟩ := h; exact ⟨_, nt_dK, e⟩
  | _ => exact h.elim
theorem WI.thr (w : WI B c ρ σ H) : ∀ a, OA c ρ σ a → Thr H a := fun a h => by
  rcases h with h | ⟨i, d, e1, e2⟩
  · exact w.o0 a h
  · obtain ⟨b, e3, h, _⟩ := w.ows i d e1
    rw [e2] at e3
    cases e3
    exact h.thr
theorem WI.there (w : WI B c ρ σ H) : ∀ a, OA c ρ σ a → ∃ u, H a = some u := fun a h => (w.thr a h).ex
theorem WI.hdO (w : WI B c ρ σ H) : ∀ a, c.hd a → OA c ρ σ a := fun a h => .inl (w.hdo a h)
theorem WI.hth (w : WI B c ρ σ H) : ∀ a, c.hd a → Thr H a := fun a h => let ⟨_, q, _⟩ := w.hds a h; q.there
theorem WI.pg (w : WI B c ρ σ H) (g : Pg c.T c.hd H H') : WI B c ρ σ H' where
  len := w.len
  shs := fun i d e => let ⟨v, e1, r⟩ := w.shs i d e; ⟨v, e1, r.kp (g.k w.hdO)⟩
  ows := fun i d e => let ⟨a, e1, r, f, n, m⟩ := w.ows i d e; ⟨a, e1, r.kp (g.k w.hdO) (fun u t e => g.kp a u t e n), f, n, m⟩
  hsl := w.hsl
  vas := w.vas
  dj := w.dj
  o0 := fun a z => g.th a (w.o0 a z)
  hdo := w.hdo
  hds := fun a m => let ⟨p, q, n⟩ := w.hds a m; ⟨p, g.hs a p m q, n⟩
  ext := w.ext.trans g
  h00 := w.h00
  tbs := g.tb w.tbs
  snE := fun Hs Os z a u t e n => g.kp a u t (w.snE Hs Os z a u t e n) fun m => n (w.snH Hs Os z a m)
  snT := fun Hs Os z a h => g.th a (w.snT Hs Os z a h)
  snO := w.snO
  snH := w.snH
theorem WI.gr (w : WI B c ρ σ H) (g : Gr H H') : WI B c ρ σ H' := w.pg g.pg
theorem WI.none (w : WI B c ρ σ H) (g : Pg c.T c.hd H H') {a : Addr} (e : Fre H' a) : Fre H a := g.none e
theorem WI.fresh (w : WI B c ρ σ H) {a : Addr} (e : Fre H a) : Fre c.H0 a := w.ext.none e
/-- an object of one's own is a list or a dict -/
theorem OwnAt.kind {O : Ad} {d : D} {a : Addr} (h : OwnAt B H O d a) : ∃ u, H a = some u ∧ NT u ∧ ∀ φ, u ≠ .ext φ := by
  cases d with
  | lst ds => obtain ⟨vs, e, _⟩ := h; exact ⟨_, e, nt_lst, fun _ z => by cases z⟩
  | dct ks ds => obtain ⟨vs, e, _⟩ := h; exact ⟨_, e, nt_dK, fun _ z => by cases z⟩
  | _ => exact h.elim
theorem tab_upd {P : Addr} {q : Str} {a : Addr} {u0 u : HO} (e : H a = some u0) (t : NT u0) (x : ∀ φ, u0 ≠ .ext φ) (h : LamX.TabS H P q) : LamX.TabS (upd H a u) P q := by
  obtain ⟨ps, h1, h2, h3⟩ := h
  refine ⟨ps, by rw [upd_ne fun z => by rw [z, e] at h1; exact t ps (Option.some.inj h1)]; exact h1, h2, fun pos cv hc => ?_⟩
  obtain ⟨c, e1, e2⟩ := h3 pos cv hc
  exact ⟨c, e1, by rw [upd_ne fun z => by rw [z, e] at e2; exact x _ (Option.some.inj e2)]; exact e2⟩
end
end Ev


set_option Elab.async false
set_option linter.all false
set_option maxRecDepth 100000
/-! Ev, part J: readings of results, the judgements, the plain expressions. -/
namespace Ev
open PySem PySem.Spec PyProof.Rows L2

/-! ### weaker readings -/
theorem PE.imp {X : Cx} {e : Expr} {t u : TE} (h : PE X e t) (i : ∀ σ H Q, u σ H Q → t σ H Q) : PE X e u := ⟨fun pins s σ H Q I q => h.run pins s σ H Q I (i σ H Q q)⟩
theorem PT.imp {X : Cx} {e : Expr} {t u : TT} (h : PT X e t) (i : ∀ σ H Q, u σ H Q → t σ H Q) : PT X e u := ⟨fun pins s σ H Q I q => h.run pins s σ H Q I (i σ H Q q)⟩
theorem PW.imp {X : Cx} {e : Expr} {t u : TT} (h : PW X e t) (i : ∀ σ H Q, u σ H Q → t σ H Q) : PW X e u := ⟨fun wh pins s σ H Q I q => h.run wh pins s σ H Q I (i σ H Q q)⟩
theorem PA.imp {X : Cx} {e : List Expr} {t u : TA} (h : PA X e t) (i : ∀ σ H Q, u σ H Q → t σ H Q) : PA X e u := ⟨fun pos pins s σ H Q I q => h.run pos pins s σ H Q I (i σ H Q q)⟩
theorem PS.imp {X : Cx} {e : Stmt} {t u : TS} (h : PS X e t) (i : ∀ D σ H, u D σ H → t D σ H) : PS X e u := ⟨fun pins s σ H Q I q => h.run pins s σ H Q I (i Q σ H q)⟩
theorem PSs.imp {X : Cx} {e : List Stmt} {t u : TS} (h : PSs X e t) (i : ∀ D σ H, u D σ H → t D σ H) : PSs X e u := ⟨fun pins s σ H Q I q => h.run pins s σ H Q I (i Q σ H q)⟩

/-- an exception of the program's own: its class, its fields -/
def ExcV (B : Bs) (H : Hp) (cl : String) (fs : List (String × D)) (x : Value) (dd : Option Addr) : Prop :=
  ∃ C, x = .ref C ∧ B.mg (Str.ofString cl) = some (.ref C) ∧
    ((fs = [] ∧ dd = none) ∨ ∃ d xs, fs ≠ [] ∧ dd = some d ∧ H d = some (.xd xs) ∧ xs.map (·.1) = fs.map (fun p => Str.ofString p.1) ∧ RepL B H (fun _ => False) (fs.map (·.2)) (xs.map (·.2)))

/-- the reading of a result: the frame is so; each end is a value with P or an exception with W -/
def Wd (X : Cx) (W : WX) (c : Fr) (ρ : List Sl) (σ : L2.St) {α : Type} (m : R α) (H : Hp) (P : α → Hp → Prop) : Prop :=
  WI X.bs c ρ σ H ∧ m.sat (fun a => ∀ H', Pg c.T c.hd H H' → P a H') fun cl fs => ∀ x dd H', Pg c.T c.hd H H' → ExcV X.bs H' cl fs x dd → W x dd σ H'
/-- no exception of the program's own, no draw -/
def Calm {α : Type} (m : R α) : Prop := (∀ cl fs, m ≠ .exc cl fs) ∧ ∀ n k, m ≠ .draw n k
section
variable {X : Cx} {W : WX} {c : Fr} {ρ : List Sl} {σ : L2.St} {H : Hp} {α β : Type}
theorem Wd.mono {m : R α} {P P' : α → Hp → Prop} (h : Wd X W c ρ σ m H P) (i : ∀ a H', Pg c.T c.hd H H' → P a H' → P' a H') : Wd X W c ρ σ m H P' :=
  ⟨h.1, R.sat_mono h.2 (fun a p H' g => i a H' g (p H' g)) fun _ _ z => z⟩
theorem Wd.bind {m : R α} {f : α → R β} {P : β → Hp → Prop} (h : Wd X W c ρ σ (m.bind f) H P) : Wd X W c ρ σ m H fun a H' => Wd X W c ρ σ (f a) H' P :=
  ⟨h.1, R.sat_mono (R.sat_bind.mp h.2) (fun a p H' g => ⟨h.1.pg g, R.sat_mono p (fun b q H2 g2 => q H2 (g.trans g2)) fun cl fs q x dd H2 g2 ev => q x dd H2 (g.trans g2) ev⟩) fun _ _ z => z⟩
theorem Wd.map {m : R α} {f : α → β} {P : β → Hp → Prop} (h : Wd X W c ρ σ (m.map f) H P) : Wd X W c ρ σ m H fun a H' => P (f a) H' :=
  Wd.mono (Wd.bind h) fun a H' g q => q.2 H' (.refl _ _ _)
theorem Wd.now {a : α} {P : α → Hp → Prop} (h : Wd X W c ρ σ (.ok a) H P) : P a H := h.2 H (.refl _ _ _)
/-- a result that is no exception, no draw is a value -/
theorem Wd.val {m : R α} {P : α → Hp → Prop} (h : Wd X W c ρ σ m H P) (n : Calm m) : ∃ a, m = .ok a ∧ ∀ H', Pg c.T c.hd H H' → P a H' := by
  cases m with
  | ok a => exact ⟨a, rfl, h.2⟩
  | exc cl fs => exact absurd rfl (n.1 cl fs)
  | stuck => exact h.2.elim
  | draw k f => exact absurd rfl (n.2 k f)
theorem Wd.ifR {k : R Bool} {a b : R α} {P : α → Hp → Prop} (h : Wd X W c ρ σ (ifR k a b) H P) : Wd X W c ρ σ k H fun q H' => if q = true then Wd X W c ρ σ a H' P else Wd X W c ρ σ b H' P :=
  Wd.mono (Wd.bind h) fun q H' g z => by
    cases q with
    | true => exact z
    | false => exact z
end

/-! ### the judgements -/
def tE (X : Cx) (W : WX) (c : Fr) (ρ : List Sl) (f : Fl) (m : R D) : TE := fun σ H Q => Wd X W c ρ σ m H fun d H' => ∀ v, RepX X.bs c.hd H H' (OA c ρ σ) f d v → Q v H'
def tB (X : Cx) (W : WX) (c : Fr) (ρ : List Sl) (m : R Bool) : TT := fun σ H Q => Wd X W c ρ σ m H Q
/-- an expression computes m -/
abbrev JE (X : Cx) (W : WX) (c : Fr) (ρ : List Sl) (f : Fl) (e : Expr) (m : R D) : Prop := PE X e (tE X W c ρ f m)
/-- a test computes m -/
abbrev JT (X : Cx) (W : WX) (c : Fr) (ρ : List Sl) (e : Expr) (m : R Bool) : Prop := PT X e (tB X W c ρ m)
abbrev JW (X : Cx) (W : WX) (c : Fr) (ρ : List Sl) (e : Expr) (m : R Bool) : Prop := PW X e (tB X W c ρ m)
def BoL (B : Bs) (hd : Ad) (H : Hp) (O : Ad) : List D → List V → Prop
  | [], vs => vs = []
  | d :: ds, vs => ∃ v vr, vs = v :: vr ∧ RepX B hd H H O .bo d v ∧ BoL B hd H O ds vr
theorem bo_at {B : Bs} {hd : Ad} {H₀ H₁ H : Hp} {O : Ad} {d : D} {v : V} (h : RepX B hd H₀ H O .bo d v) : RepX B hd H₁ H O .bo d v := h
theorem BoL.pg {B : Bs} {T : List (Addr × Str)} {hd : Ad} {H H' : Hp} {O : Ad} (g : Pg T hd H H') (s : ∀ a, hd a → O a) (n : ∀ a, hd a → Thr H a) : ∀ {ds : List D} {vs : List V}, BoL B hd H O ds vs → BoL B hd H' O ds vs
  | [], _, h => h
  | _ :: _, _, h => by
    obtain ⟨v, vr, e, h1, h2⟩ := (show ∃ v vr, _ from h)
    exact ⟨v, vr, e, bo_at (RepX.pg g s n h1), BoL.pg g s n h2⟩
theorem BoL.of {B : Bs} {hd : Ad} {H : Hp} {O : Ad} : ∀ {ds : List D} {vs : List V}, RepL B H O ds vs → BoL B hd H O ds vs
  | [], _, h => h
  | _ :: _, _, h => by
    obtain ⟨v, vr, e, h1, h2⟩ := (show ∃ v vr, _ from h)
    exact ⟨v, vr, e, .inl h1, BoL.of h2⟩
/-- arguments: borrowed, or shared -/
def tA (X : Cx) (W : WX) (c : Fr) (ρ : List Sl) (ms : List (R D)) : TA := fun σ H Q => Wd X W c ρ σ (args ms) H fun ds H' => ∀ vs, BoL X.bs c.hd H' (OA c ρ σ) ds vs → Q vs H'
def tAs (X : Cx) (W : WX) (c : Fr) (ρ : List Sl) (ms : List (R D)) : TA := fun σ H Q => Wd X W c ρ σ (args ms) H fun ds H' => ∀ vs, RepL X.bs H' (OA c ρ σ) ds vs → Q vs H'
abbrev JA (X : Cx) (W : WX) (c : Fr) (ρ : List Sl) (es : List Expr) (ms : List (R D)) : Prop := PA X es (tA X W c ρ ms)
abbrev JAs (X : Cx) (W : WX) (c : Fr) (ρ : List Sl) (es : List Expr) (ms : List (R D)) : Prop := PA X es (tAs X W c ρ ms)
section
variable {X : Cx} {W : WX} {c : Fr} {ρ : List Sl} {e : Expr} {m : R D} {pos : Pos}
theorem JE.sh (h : JE X W c ρ .ra e m) : JE X W c ρ .sh e m := PE.imp h fun σ H Q q => Wd.mono q fun d H' g k v r => k v (RepX.sh r q.1.thr)
theorem JE.bo (h : JE X W c ρ .sh e m) : JE X W c ρ .bo e m := PE.imp h fun σ H Q q => Wd.mono q fun d H' g k v r => k v (.inl r)
theorem JE.rb (h : JE X W c ρ .ra e m) : JE X W c ρ .bo e m := (JE.sh h).bo

/-! ### names, constants -/
theorem e_var (i : Nat) {d : D} {x : Str} (hd : ρ[i]? = some (.sh d) := by rfl) (hN : X.N[i]? = some x := by rfl) (hv : Vis X.env.scope x := by first | exact Or.inl rfl | exact Or.inr (Or.inl rfl) | exact Or.inr (Or.inr rfl))
    (h1 : (x == ("__debug__" : Str)) = false := by decide) (h2 : (x == ("__classdict__" : Str)) = false := by decide) : JE X W c ρ .sh (.Name x pos) (.ok d) :=
  PE.imp (pe_var hN hv h1 h2) fun σ H Q q => by
    obtain ⟨v, e, r⟩ := q.1.shs i d hd
    exact ⟨v, e, q.now v r⟩
theorem b_var (i : Nat) {d : D} {x : Str} (hd : ρ[i]? = some (.ow d) := by rfl) (hN : X.N[i]? = some x := by rfl) (hv : Vis X.env.scope x := by first | exact Or.inl rfl | exact Or.inr (Or.inl rfl) | exact Or.inr (Or.inr rfl))
    (h1 : (x == ("__debug__" : Str)) = false := by decide) (h2 : (x == ("__classdict__" : Str)) = false := by decide) : JE X W c ρ .bo (.Name x pos) (.ok d) :=
  PE.imp (pe_var hN hv h1 h2) fun σ H Q q => by
    obtain ⟨a, e, r, _, n, _⟩ := q.1.ows i d hd
    exact ⟨.ref a, e, q.now _ (.inr ⟨a, rfl, r, n⟩)⟩
theorem e_int {i j} : JE X W c ρ .sh (.Constant (.int i) j pos) (.ok (.int i)) := PE.imp pe_int fun σ H Q q => q.now _ rfl
theorem e_bl {i j} : JE X W c ρ .sh (.Constant (.bool i) j pos) (.ok (.bl i)) := PE.imp pe_bl fun σ H Q q => q.now _ rfl
theorem e_non {j} : JE X W c ρ .sh (.Constant .none j pos) (.ok .non) := PE.imp pe_non fun σ H Q q => q.now _ rfl
theorem e_str {x : Str} {j} (z : List Nat) (hz : x = tx z := by decide +kernel) : JE X W c ρ .sh (.Constant (.str x) j pos) (.ok (.str z)) := by
  subst hz
  exact PE.imp pe_str fun σ H Q q => q.now _ rfl
/-- a constant of the module -/
theorem e_cInt {x : Str} {i : Int} (hg : Gl X x := by rfl) (hm : ∃ t, X.mg x = some (.int i t)) (hd : (x == ("__debug__" : Str)) = false := by decide) : JE X W c ρ .sh (.Name x pos) (.ok (.int i)) := by
  obtain ⟨t, hm⟩ := hm
  exact PE.imp (pe_glob hg hm (v := .int i) ⟨t, rfl⟩ hd) fun σ H Q q => q.now _ rfl
theorem e_cStr {x : Str} {z : List Nat} (hg : Gl X x := by rfl) (hm : ∃ t, X.mg x = some (.str (tx z) t)) (hd : (x == ("__debug__" : Str)) = false := by decide) : JE X W c ρ .sh (.Name x pos) (.ok (.str z)) := by
  obtain ⟨t, hm⟩ := hm
  exact PE.imp (pe_glob hg hm (v := .str (tx z)) ⟨t, rfl⟩ hd) fun σ H Q q => q.now _ rfl
/-- a def of the module as a value -/
theorem e_fn {x : Str} {n : String} (hx : x = Str.ofString n := by rfl) (hg : Gl X x := by rfl) {a : Addr} (hm : X.mg x = some (.ref a)) (hd : (x == ("__debug__" : Str)) = false := by decide) : JE X W c ρ .sh (.Name x pos) (.ok (.fn n)) :=
  PE.imp (pe_glob hg hm (v := .ref a) rfl hd) fun σ H Q q => q.now _ ⟨a, rfl, by rw [← hx]; exact hm⟩
end

/-! ### operators by values -/
def rD2 (B : Bs) (f : D → D → R D) : R2 := fun x y H Q => ∃ (hd O : Ad) (a b d : D), (∀ p, O p → ∃ u, H p = some u) ∧ RepX B hd H H O .bo a x ∧ RepX B hd H H O .bo b y ∧ f a b = .ok d ∧ ∀ v H', Gr H H' → RepX B hd H H' O .ra d v → Q v H'
def rD1 (B : Bs) (f : D → R D) : V → Hp → VK → Prop := fun x H Q => ∃ (hd O : Ad) (a d : D), (∀ p, O p → ∃ u, H p = some u) ∧ RepX B hd H H O .bo a x ∧ f a = .ok d ∧ ∀ v H', Gr H H' → RepX B hd H H' O .ra d v → Q v H'
def rDC (B : Bs) (f : List D → R D) : List V → Hp → VK → Prop := fun xs H Q => ∃ (hd O : Ad) (ds : List D) (d : D), (∀ p, O p → ∃ u, H p = some u) ∧ BoL B hd H O ds xs ∧ f ds = .ok d ∧ ∀ v H', Gr H H' → RepX B hd H H' O .ra d v → Q v H'
section
variable {X : Cx} {W : WX} {c : Fr} {ρ : List Sl} {a b : Expr} {ma mb : R D} {pos : Pos}
/-- two operands, then an operator's reading -/
theorem two_ops {f : D → D → R D} (hf : ∀ x y, Calm (f x y)) {σ : L2.St} {H : Hp} {Q : VK} (q : tE X W c ρ .ra (l2 f ma mb) σ H Q) :
    tE X W c ρ .bo ma σ H fun x H1 => tE X W c ρ .bo mb σ H1 fun y H2 => rD2 X.bs f x y H2 Q := by
  refine Wd.mono (Wd.bind q) fun da H1 g1 q1 x rx => ?_
  refine Wd.mono (Wd.bind q1) fun db H2 g2 q2 y ry => ?_
  obtain ⟨d, e, p⟩ := q2.val (hf da db)
  exact ⟨c.hd, OA c ρ σ, da, db, d, q2.1.there, bo_at (RepX.pg g2 q1.1.hdO q.1.hth rx), bo_at ry, e, fun v H' g r => p H' g.pg v (r.back fun _ => q.1.none (g1.trans g2))⟩
theorem e_op {op : Operator} {f : D → D → R D} (ho : OpR X (binaryOp op) (rD2 X.bs f)) (hf : ∀ x y, Calm (f x y)) (ha : JE X W c ρ .bo a ma) (hb : JE X W c ρ .bo b mb) : JE X W c ρ .ra (.BinOp a op b pos) (l2 f ma mb) :=
  PE.imp (pe_op ho ha hb) fun σ H Q q => two_ops hf q
theorem e_cmp {op : CmpOp} {f : D → D → R D} (ho : OpR X (compareOp op) (rD2 X.bs f)) (hf : ∀ x y, Calm (f x y)) (ha : JE X W c ρ .bo a ma) (hb : JE X W c ρ .bo b mb) (hm : behindInMarks op b = false := by rfl) : JE X W c ρ .ra (.Compare a [op] [b] pos) (l2 f ma mb) :=
  PE.imp (pe_cmpR ho ha hb hm) fun σ H Q q => two_ops hf q
theorem e_un {op : UnaryOp} {f : D → R D} (ho : UnR X (unaryOp op) (rD1 X.bs f)) (hf : ∀ x, Calm (f x)) (ha : JE X W c ρ .bo a ma) : JE X W c ρ .ra (.UnaryOp op a pos) (l1 f ma) :=
  PE.imp (pe_un ho ha) fun σ H Q q => by
    refine Wd.mono (Wd.bind q) fun da H1 g1 q1 x rx => ?_
    obtain ⟨d, e, p⟩ := q1.val (hf da)
    exact ⟨c.hd, OA c ρ σ, da, d, q1.1.there, bo_at rx, e, fun v H' g r => p H' g.pg v (r.back fun _ => q.1.none g1)⟩
end
end Ev


set_option Elab.async false
set_option linter.all false
set_option maxRecDepth 100000
/-! Ev, part XT: new tuples, each known to its object (so that it is known to have no dict). -/
namespace Ev
open PySem PySem.Spec PyProof.Rows L2

/-- a tuple of these, new -/
abbrev NewT (H : Hp) (zs : List V) (Q : VK) : Prop := ∀ (p : Addr) (ob : Obj), H p = none → ob.dict = none → Q (.ref p) (L2.upd H p (.frz ob (.tup zs)))
section
variable {X : Cx} {pins : List (Addr × Obj)} {σ : L2.St} {H : Hp} {s : Shared} {Q : VK}
theorem laidT (I : Inv X pins σ H s) {zs : List V} {us : List Value} (rv : Vals zs us) (hz : zs.length ≤ sizeLine) (q : NewT H zs Q) :
    EP X pins σ Q (.ref s.heap.objs.size) { s with heap := s.heap.push { cls := .type "tuple", data := .seq us.toArray } } := by
  have at_ := Heap.get?_push_size s.heap (o := { cls := .type "tuple", data := .seq us.toArray }) rfl
  have J := I.laid (t' := s.toks) (o := .frz { cls := .type "tuple", data := .seq us.toArray } (.tup zs)) (fun b u e => Heap.get?_push_of_some _ e) (Nat.le_refl _) ⟨at_, hz, us, rv, _, at_, rfl, _, rfl⟩
  exact ⟨.ref s.heap.objs.size, _, J, rfl, q _ _ (I.hok.fresh (Nat.le_refl _)) rfl⟩
end
section
variable {X : Cx} {es : List Expr} {t : TA} {pos : Pos}
def tTupX (t : TA) : TE := fun σ H Q => t σ H fun zs H1 => zs.length ≤ sizeLine ∧ NewT H1 zs Q
theorem pe_tupX {k : Nat} (h : PA X es t) : PE X (.Tuple es k pos) (tTupX t) :=
  ⟨fun pins s σ H Q I hq => wpAny_Tuple_spliced (thn (h.run pos pins s σ H _ I hq) fun us s1 ⟨zs, H1, J, rv, z, q⟩ => ⟨by rw [← rv.length]; exact z, laidT J rv z q⟩)⟩
theorem call_tupX : CallR X (.type "tuple") (fun vs H Q => ∃ p zs, vs = [.ref p] ∧ ((SqL X.K H p zs ∧ NewT H zs Q) ∨ (SqT X.K H p zs ∧ Q (.ref p) H))) := by
  rintro pins s σ H vs us Q I r ⟨p, zs, rfl, h⟩
  obtain ⟨u, rfl, rx⟩ := vals1 r
  cases rx
  rcases h with ⟨hq, q⟩ | ⟨hq, q⟩
  · obtain ⟨its, rv, pl, hz⟩ := I.list hq
    exact call_tuple_list pl.isList (fun h' kp => laidT (s := { s with heap := h' }) (I.kept (t' := s.toks) kp) rv hz q) (by rw [List.size_toArray, ← rv.length]; exact hz)
  · obtain ⟨its, _, pl, _⟩ := I.tuple hq
    exact call_tuple_same pl ⟨.ref p, H, I, rfl, q⟩
def rCatX (K : PySem.W.Frag) : R2 := fun x y H Q => ∃ a b zs ys, x = .ref a ∧ y = .ref b ∧ SqT K H a zs ∧ SqT K H b ys ∧ zs.length + ys.length ≤ sizeLine ∧ (zs = [] → Q (.ref b) H) ∧ (zs ≠ [] → ys = [] → Q (.ref a) H) ∧ (zs ≠ [] → ys ≠ [] → NewT H (zs ++ ys) Q)
theorem op_catX : OpR X (binaryOp .Add) (rCatX X.K) := by
  rintro pins s σ H x y v u Q I rx ry ⟨a, b, zs, ys, rfl, rfl, ha, hb, hz, q0, q1, q2⟩
  cases rx
  cases ry
  obtain ⟨its, rv, p1, _⟩ := I.tuple ha
  obtain ⟨jts, rw_, p2, _⟩ := I.tuple hb
  by_cases e : zs = []
  · subst e
    cases rv
    exact cat_tup0 p1 p2 ⟨.ref b, H, I, rfl, q0 rfl⟩
  · refine HT.cat_tup p1 p2 (fun z => e (rv.nil_iff.mp z)) (fun z => ⟨.ref a, H, I, rfl, q1 e (rw_.nil_iff.mp z)⟩) (fun z => ?_) (by rw [← rv.length, ← rw_.length]; exact hz)
    exact laidT I (rv.append rw_) (by rw [List.length_append]; exact hz) (q2 e fun w => z (rw_.nil_iff.mpr w))
def rSlX (K : PySem.W.Frag) : V → Option Int → Option Int → Hp → VK → Prop := fun x lo hi H Q => ∃ a zs, x = .ref a ∧ SqT K H a zs ∧
  (HT.sIx zs.length 0 lo = 0 ∧ HT.sIx zs.length zs.length hi = zs.length → Q (.ref a) H) ∧ (¬ (HT.sIx zs.length 0 lo = 0 ∧ HT.sIx zs.length zs.length hi = zs.length) → NewT H (cutV zs lo hi) Q)
theorem sl_tupX : SlR X (rSlX X.K) := by
  rintro pins s σ H x v vl vu lo hi sl Q I rx hs pl pu ⟨a, zs, rfl, hx, q1, q2⟩
  cases rx
  obtain ⟨its, rv, ht, hz⟩ := I.tuple hx
  have hl : its.toArray.size = zs.length := by rw [List.size_toArray]; exact rv.length.symm
  refine ⟨"tuple", _, PyProof.Rows.slot_tuple_getitem.lookup, ht.typeIs, ?_⟩
  by_cases hw : HT.sIx zs.length 0 lo = 0 ∧ HT.sIx zs.length zs.length hi = zs.length
  · exact getItem_tuple_whole ht hs pl pu (by rw [hl]; exact hw) ⟨.ref a, H, I, rfl, q1 hw⟩
  · refine HT.getItem_tuple_cut ht hs pl pu (by rw [hl]; exact hw) ?_ (by rw [hl]; exact hz)
    rw [hl]
    exact laidT I ((rv.drop _).take _) (Nat.le_trans (cutV_length zs lo hi) hz) (q2 hw)
def rRepX (K : PySem.W.Frag) : R2 := fun x y H Q => ∃ l k zs, x = .ref l ∧ y = .int k ∧ SqT K H l zs ∧ zs ≠ [] ∧ 2 ≤ k ∧ k ≤ 1000 ∧ zs.length ≤ 1000 ∧ NewT H (List.replicate k.toNat zs).flatten Q
theorem op_repX : OpR X (binaryOp .Mult) (rRepX X.K) := by
  rintro pins s σ H x y v u Q I rx ry ⟨l, k, zs, rfl, rfl, hT, hne, h1, h2, hz, q⟩
  cases rx
  obtain ⟨t, rfl⟩ := ry
  obtain ⟨us, rv, ⟨⟨cls, dd, data, sl⟩, at_, hc, n, hd⟩, _⟩ := I.tuple hT
  simp only at hc hd
  subst hc hd
  have hle : us.length = zs.length := rv.length.symm
  have pos_ : 0 < zs.length := List.length_pos_iff.mpr hne
  have hi : us.toArray.isEmpty = false := by
    cases us with
    | nil => rw [← hle] at pos_; exact absurd pos_ (Nat.lt_irrefl _)
    | cons a b => rfl
  have sz : us.toArray.size = zs.length := by rw [List.size_toArray, hle]
  have a1 : k.toNat * zs.length ≤ 1000 * 1000 := Nat.mul_le_mul (by omega) hz
  have many : ((us.toArray.size : Nat) : Int) * k ≤ 1000000 := by
    rw [sz]
    have : ((zs.length : Nat) : Int) * k ≤ 1000 * k := Int.mul_le_mul_of_nonneg_right (by omega) (by omega)
    omega
  have flen : (List.replicate k.toNat us).flatten.length ≤ sizeLine := by
    rw [PyProof.Rows.lm_len_rep_flat, hle, sizeLine_eq]; omega
  have g0 : (decide (k < -(2 ^ 63)) || decide (k ≥ 2 ^ 63)) = false := by rw [decide_eq_false (by omega), decide_eq_false (by omega)] <;> rfl
  have g1 : (us.toArray.isEmpty || k == 1) = false := by
    rw [hi, Bool.false_or]
    exact beq_eq_false_iff_ne.mpr (by omega)
  have g2 : (decide (k ≤ 0) || us.toArray.isEmpty) = false := by rw [hi, Bool.or_false]; exact decide_eq_false (by omega)
  have g4 : Builtin.Tuple.tupleTooMany (((us.toArray.size : Nat) : Int) * k) = false := by
    unfold Builtin.Tuple.tupleTooMany
    rw [sizeLine_eq]; exact decide_eq_false (by omega)
  refine wpAny_binaryOp_repeat_ref (T := "tuple") (U := "int") (by decide) ⟨_, at_, rfl⟩ (fun w => typeIs_int w k t) noFill_tuple_mul F.fills_int_mul F.slot_int_rmul repeat_tuple F.slot_int_index.lookup ?_
  refine call_meets F.slot_int_rmul (typeIs_int s k t) F.entry_int_rmul (F.args_int_rmul_2 _ _) (int_rmul_tuple k t l us.toArray n dd sl) ⟨at_, rfl, ⟨_, at_, rfl⟩, ?_⟩
  refine call_meets F.slot_tuple_mul ⟨_, at_, rfl⟩ F.entry_tuple_mul (F.args_tuple_mul_2 _ _) (tuple_mulW l us.toArray n dd sl k t g0 g1 g2 (by omega) g4 (by rw [size_rep, List.size_toArray]; exact flen)) ⟨at_, ?_⟩
  rw [size_rep]
  exact laidT I (rv.rep k.toNat) (by rw [PyProof.Rows.lm_len_rep_flat, sizeLine_eq]; omega) q
end
end Ev


set_option Elab.async false
set_option linter.all false
set_option maxRecDepth 100000
/-! Ev, part O: the operators. -/
namespace Ev
open PySem PySem.Spec PyProof.Rows L2

theorem SZ_eq : SZ = sizeLine := by rw [sizeLine_eq]; rfl
section
variable {B : Bs} {hd : Ad} {H₀ H H' : Hp} {O : Ad} {v : V}
theorem bo_int {i : Int} (h : RepX B hd H₀ H O .bo (.int i) v) : v = .int i := by
  rcases h with h | ⟨a, _, h⟩
  · exact h
  · exact h.1.elim
theorem bo_bl {i : Bool} (h : RepX B hd H₀ H O .bo (.bl i) v) : v = .bl i := by
  rcases h with h | ⟨a, _, h⟩
  · exact h
  · exact h.1.elim
theorem bo_non (h : RepX B hd H₀ H O .bo .non v) : v = .non := by
  rcases h with h | ⟨a, _, h⟩
  · exact h
  · exact h.1.elim
theorem bo_str {x : List Nat} (h : RepX B hd H₀ H O .bo (.str x) v) : v = .str (tx x) := by
  rcases h with h | ⟨a, _, h⟩
  · exact h
  · exact h.1.elim
theorem bo_lst {ds : List D} (h : RepX B hd H₀ H O .bo (.lst ds) v) : ∃ a vs, v = .ref a ∧ H a = some (.lst vs) ∧ RepL B H O ds vs := by
  rcases h with ⟨a, vs, e, ⟨h1, _⟩, h2⟩ | ⟨a, e, ⟨vs, h1, h2⟩, _⟩
  · exact ⟨a, vs, e, h1, h2⟩
  · exact ⟨a, vs, e, h1, h2⟩
theorem bo_src {ds : List D} (h : RepX B hd H₀ H O .bo (.src ds) v) : ∃ a vs, v = .ref a ∧ SqL B.K H a vs ∧ RepL B H O ds vs := by
  rcases h with ⟨a, vs, e, h1, h2⟩ | ⟨a, e, h⟩
  · exact ⟨a, vs, e, h1.seq, h2⟩
  · exact h.1.elim
theorem bo_tup {ds : List D} (h : RepX B hd H₀ H O .bo (.tup ds) v) : ∃ a vs, v = .ref a ∧ TupAt B H O a vs ∧ SqT B.K H a vs ∧ RepL B H O ds vs := by
  rcases h with ⟨a, vs, e, h1, h2⟩ | ⟨a, _, h⟩
  · exact ⟨a, vs, e, h1, h1.seq, h2⟩
  · exact h.1.elim
theorem bo_dct {ks ds : List D} (h : RepX B hd H₀ H O .bo (.dct ks ds) v) : ∃ a kvs, v = .ref a ∧ gt H a = some (.dK kvs) ∧ RepL B H O ks (kvs.map fun p => kV p.1) ∧ RepL B H O ds (kvs.map (·.2)) := by
  rcases h with ⟨a, kvs, e, ⟨h1, _⟩, h2⟩ | ⟨a, e, ⟨kvs, h1, h2⟩, _⟩
  · exact ⟨a, kvs, e, h1, h2⟩
  · exact ⟨a, kvs, e, gt_of h1 (fun _ _ z => by cases z), h2⟩
/-- a list read -/
theorem bo_seq {ds : List D} (h : RepX B hd H₀ H O .bo (.lst ds) v ∨ RepX B hd H₀ H O .bo (.src ds) v) : ∃ a vs, v = .ref a ∧ SqL B.K H a vs ∧ RepL B H O ds vs := by
  rcases h with h | h
  · obtain ⟨a, vs, e, h1, h2⟩ := bo_lst h
    exact ⟨a, vs, e, .of h1, h2⟩
  · exact bo_src h
/-- a new list -/
theorem ra_lst {ds : List D} {vs : List V} {p : Addr} (hp : H p = none) (h0 : Gr H₀ H) (r : RepL B H O ds vs) : RepX B hd H₀ (upd H p (.lst vs)) O .ra (.lst ds) (.ref p) :=
  ⟨p, rfl, .of (h0.none hp), vs, upd_same, (r.more hp).gr (Gr.laid hp)⟩
theorem ra_dct {kvs : List (Key × V)} {ks ds : List D} {p : Addr} (hp : H p = none) (h0 : Gr H₀ H) (r : RepL B H O ks (kvs.map fun p => kV p.1)) (r' : RepL B H O ds (kvs.map (·.2))) : RepX B hd H₀ (upd H p (.dK kvs)) O .ra (.dct ks ds) (.ref p) :=
  ⟨p, rfl, .of (h0.none hp), kvs, upd_same, (r.more hp).gr (Gr.laid hp), (r'.more hp).gr (Gr.laid hp)⟩
theorem ra_tup {ds : List D} {vs : List V} {p : Addr} {o : Obj} (d0 : o.dict = none) (hp : H p = none) (hO : ∀ p, O p → ∃ u, H p = some u) (r : RepL B H O ds vs) : RepX B hd H₀ (upd H p (.frz o (.tup vs))) O .ra (.tup ds) (.ref p) :=
  ⟨p, vs, rfl, .inl ⟨⟨o, upd_same, d0⟩, fun z => by obtain ⟨u, e⟩ := hO p z; rw [hp] at e; cases e⟩, r.gr (Gr.laid hp)⟩
end
theorem calm_ok {α : Type} {a : α} : Calm (.ok a) := ⟨fun _ _ h => by (cases h), fun _ _ h => by cases h⟩
theorem calm_stuck {α : Type} : Calm (.stuck : R α) := ⟨fun _ _ h => by (cases h), fun _ _ h => by cases h⟩
theorem calm_ite {α : Type} {p : Prop} [Decidable p] {a b : R α} (ha : Calm a) (hb : Calm b) : Calm (if p then a else b) := by
  split
  · exact ha
  · exact hb
theorem calm_bind {α β : Type} {m : R α} {f : α → R β} (h : Calm m) (h' : ∀ a, Calm (f a)) : Calm (m.bind f) := by
  cases m with
  | ok a => exact h' a
  | exc c fs => exact absurd rfl (h.1 c fs)
  | stuck => exact calm_stuck
  | draw n k => exact absurd rfl (h.2 n k)
theorem if_ok {α : Type} {p : Prop} [Decidable p] {a : R α} {d : α} (h : (if p then a else .stuck) = .ok d) : p ∧ a = .ok d := by
  split at h
  · exact ⟨by assumption, h⟩
  · cases h
theorem R.inj {α : Type} {a b : α} (h : (R.ok a) = .ok b) : a = b := by cases h; rfl

section
variable {X : Cx}
theorem tx_app (x y : List Nat) : tx x ++ tx y = tx (x ++ y) := by
  show Str.mk (x.toArray ++ y.toArray) = Str.mk (x ++ y).toArray
  rw [List.append_toArray]
theorem tx_len (x : List Nat) : (tx x).length = x.length := by simp [Str.length]

/-! ### + -/
theorem addD_calm (a b : D) : Calm (addD a b) := by
  unfold addD
  split <;> first | exact calm_ok | exact calm_stuck | exact calm_ite calm_ok calm_stuck
theorem o_add : OpR X (binaryOp .Add) (rD2 X.bs addD) := by
  intro pins s σ H x y v u Q I rx ry h
  obtain ⟨hd, O, a, b, d, hO, ha, hb, e, q⟩ := h
  unfold addD at e
  split at e
  · cases e
    cases bo_int ha
    cases bo_int hb
    exact op_add pins s σ H _ _ v u Q I rx ry ⟨_, _, rfl, rfl, q _ H (Gr.refl _) rfl⟩
  · rename_i xa xb
    obtain ⟨e1, e2⟩ := if_ok e
    cases e2
    cases bo_str ha
    cases bo_str hb
    refine op_add_str pins s σ H _ _ v u Q I rx ry ⟨tx xa, tx xb, rfl, rfl, by rw [tx_len, tx_len, ← SZ_eq]; exact e1, ?_⟩
    rw [tx_app]
    exact q _ H (Gr.refl _) rfl
  · rename_i xa xb
    obtain ⟨e1, e2⟩ := if_ok e
    cases e2
    obtain ⟨p, vs, rfl, h1, r1⟩ := bo_lst ha
    obtain ⟨p2, ws, rfl, h2, r2⟩ := bo_lst hb
    exact op_cat pins s σ H _ _ v u Q I rx ry ⟨p, p2, vs, ws, rfl, rfl, h1, h2, by rw [r1.length, r2.length, ← SZ_eq]; exact e1, fun l hl => q _ _ (Gr.laid hl) (ra_lst hl (Gr.refl _) (r1.append r2))⟩
  · rename_i xa xb
    obtain ⟨e1, e2⟩ := if_ok e
    cases e2
    obtain ⟨p, vs, rfl, t1, h1, r1⟩ := bo_tup ha
    obtain ⟨p2, ws, rfl, t2, h2, r2⟩ := bo_tup hb
    have hz : vs.length + ws.length ≤ sizeLine := by rw [r1.length, r2.length, ← SZ_eq]; exact e1
    have r12 := r1.append r2
    refine op_catX pins s σ H _ _ v u Q I rx ry ⟨p, p2, vs, ws, rfl, rfl, h1, h2, hz, fun n1 => ?_, fun _ n2 => ?_, fun _ _ l ob hl d0 => q _ _ (Gr.laid hl) (ra_tup d0 hl hO r12)⟩
    · subst n1
      have ex : xa = [] := List.length_eq_zero_iff.mp r1.length.symm
      subst ex
      exact q _ H (Gr.refl _) ⟨p2, ws, rfl, t2, r2⟩
    · subst n2
      have ex : xb = [] := List.length_eq_zero_iff.mp r2.length.symm
      subst ex
      rw [List.append_nil] at q
      exact q _ H (Gr.refl _) ⟨p, vs, rfl, t1, r1⟩
  · cases e

/-! ### -, *, //, %, ** -/
theorem subD_calm (a b : D) : Calm (subD a b) := by
  unfold subD
  split <;> first | exact calm_ok | exact calm_stuck
theorem o_sub : OpR X (binaryOp .Sub) (rD2 X.bs subD) := by
  intro pins s σ H x y v u Q I rx ry h
  obtain ⟨hd, O, a, b, d, hO, ha, hb, e, q⟩ := h
  unfold subD at e
  split at e
  · cases e
    cases bo_int ha
    cases bo_int hb
    exact op_sub pins s σ H _ _ v u Q I rx ry ⟨_, _, rfl, rfl, q _ H (Gr.refl _) rfl⟩
  · cases e
theorem mulD_calm (a b : D) : Calm (mulD a b) := by
  unfold mulD
  split <;> first | exact calm_stuck | exact calm_ite calm_ok calm_stuck | exact calm_ite calm_ok (calm_ite calm_ok calm_stuck)
theorem rep_eq {α : Type} (xs : List α) : ∀ n, (List.replicate n xs).flatten = rep xs n
  | 0 => rfl
  | n + 1 => by rw [List.replicate_succ, List.flatten_cons, rep_eq xs n]; rfl
theorem RepL.rep {B : Bs} {H : Hp} {O : Ad} {ds : List D} {vs : List V} (h : RepL B H O ds vs) : ∀ n, RepL B H O (Ev.rep ds n) (Ev.rep vs n)
  | 0 => rfl
  | n + 1 => h.append (RepL.rep h n)
theorem tuple_mul1 (l : Addr) (items : Array Value) (n : Nat) (dd : Option Addr) (sl : Array (Option Value)) (u : Tok) :
    Meets (Builtin.«tuple.__mul__» ⟨[.ref l, .int 1 u], []⟩) (fun _ R s => s.heap.get? l = some { cls := .type "tuple", dict := dd, data := .seq items n, slots := sl } ∧ R (.ok (.ret (Value.ref l))) s) :=
  .of_wp fun prog w A R s h => by
    obtain ⟨hp, g, d, tk, os⟩ := s
    obtain ⟨hl, h⟩ := h
    have f1 := AutoSeq1.idx_int
    have c1 : (items.isEmpty || (1 : Int) == 1) = true := by simp
    wp_walk using AutoSeq1.wpAny_loadPart' hl
    repeat (first
      | (refine wpAny_ite_true (by simp) ?_; wp_walk using AutoSeq1.wpAny_loadPart' hl))
    exact ⟨_, rfl, h⟩
theorem natAbs_lt {a : Int} (h : a.natAbs < 2 ^ 64) : -(2 ^ 64) < a ∧ a < 2 ^ 64 := by omega
theorem op_rep1 : OpR X (binaryOp .Mult) (fun x y H Q => ∃ l xs, x = .ref l ∧ y = .int 1 ∧ SqT X.K H l xs ∧ Q (.ref l) H) := by
  intro pins s σ H x y v u Q I rx ry h
  obtain ⟨l, xs, rfl, rfl, hT, q⟩ := h
  cases rx
  obtain ⟨t, rfl⟩ := ry
  obtain ⟨its, r, ⟨⟨cls, dd, data, sl⟩, ho, hc, n, hd⟩, hs⟩ := I.tuple hT
  simp only at hc hd
  subst hc hd
  exact wpAny_binaryOp_repeat_ref (T := "tuple") (U := "int") (by decide) ⟨_, ho, rfl⟩ (fun s' => typeIs_int s' 1 t) noFill_tuple_mul F.fills_int_mul F.slot_int_rmul repeat_tuple F.slot_int_index.lookup
    (call_meets F.slot_int_rmul (typeIs_int s 1 t) F.entry_int_rmul (F.args_int_rmul_2 _ _) (int_rmul_tuple 1 t l its.toArray n dd sl)
      ⟨ho, rfl, ⟨_, ho, rfl⟩, call_meets F.slot_tuple_mul ⟨_, ho, rfl⟩ F.entry_tuple_mul (F.args_tuple_mul_2 _ _) (tuple_mul1 l its.toArray n dd sl t) ⟨ho, ⟨.ref l, H, I, rfl, q⟩⟩⟩)
theorem o_mul : OpR X (binaryOp .Mult) (rD2 X.bs mulD) := by
  intro pins s σ H x y v u Q I rx ry h
  obtain ⟨hd, O, a, b, d, hO, ha, hb, e, q⟩ := h
  unfold mulD at e
  split at e
  · obtain ⟨e1, e2⟩ := if_ok e
    cases e2
    cases bo_int ha
    cases bo_int hb
    refine op_mul pins s σ H _ _ v u Q I rx ry ⟨_, _, rfl, rfl, ?_, q _ H (Gr.refl _) rfl⟩
    unfold mulOk at e1
    rw [Bool.or_eq_true, decide_eq_true_eq, decide_eq_true_eq] at e1
    exact e1.imp natAbs_lt natAbs_lt
  · rename_i xa n
    obtain ⟨⟨⟨e0, e0'⟩, e1⟩, e2⟩ := if_ok e
    cases e2
    obtain ⟨p, vs, rfl, h1, r1⟩ := bo_lst ha
    cases bo_int hb
    refine op_rep pins s σ H _ _ v u Q I rx ry ⟨p, n, vs, rfl, rfl, h1, e0, by omega, by rw [r1.length, ← SZ_eq]; exact e1, fun l hl => ?_⟩
    rw [rep_eq]
    exact q _ _ (Gr.laid hl) (ra_lst hl (Gr.refl _) (r1.rep _))
  · rename_i xa n
    obtain ⟨p, vs, rfl, t1, h1, r1⟩ := bo_tup ha
    cases bo_int hb
    by_cases hc : xa.length ≠ 0 ∧ 2 ≤ n ∧ n ≤ 1000 ∧ xa.length ≤ 1000
    rotate_left
    · rw [if_neg hc] at e
      obtain ⟨hn, e⟩ := if_ok e
      cases e
      subst hn
      exact op_rep1 pins s σ H _ _ v u Q I rx ry ⟨p, vs, rfl, rfl, h1, q _ _ (Gr.refl _) ⟨p, vs, rfl, t1, r1⟩⟩
    rw [if_pos hc] at e
    obtain ⟨e0, e1, e3, e4⟩ := hc
    cases e
    refine op_repX pins s σ H _ _ v u Q I rx ry ⟨p, n, vs, rfl, rfl, h1, fun z => e0 ?_, e1, e3, by rw [r1.length]; exact e4, fun l ob hl d0 => ?_⟩
    · rw [← r1.length, z]; rfl
    · rw [rep_eq]
      exact q _ _ (Gr.laid hl) (ra_tup d0 hl hO (r1.rep _))
  · cases e
theorem fdivD_calm (a b : D) : Calm (fdivD a b) := by
  unfold fdivD
  split <;> first | exact calm_stuck | exact calm_ite calm_ok calm_stuck
theorem o_fdiv : OpR X (binaryOp .FloorDiv) (rD2 X.bs fdivD) := by
  intro pins s σ H x y v u Q I rx ry h
  obtain ⟨hd, O, a, b, d, hO, ha, hb, e, q⟩ := h
  unfold fdivD at e
  split at e
  · obtain ⟨e1, e2⟩ := if_ok e
    cases e2
    cases bo_int ha
    cases bo_int hb
    exact op_fdivN pins s σ H _ _ v u Q I rx ry ⟨_, _, rfl, rfl, e1, q _ H (Gr.refl _) rfl⟩
  · cases e
theorem modD_calm (a b : D) : Calm (modD a b) := by
  unfold modD
  split <;> first | exact calm_stuck | exact calm_ite calm_ok calm_stuck
theorem o_mod : OpR X (binaryOp .Mod) (rD2 X.bs modD) := by
  intro pins s σ H x y v u Q I rx ry h
  obtain ⟨hd, O, a, b, d, hO, ha, hb, e, q⟩ := h
  unfold modD at e
  split at e
  · obtain ⟨e1, e2⟩ := if_ok e
    cases e2
    cases bo_int ha
    cases bo_int hb
    exact op_modN pins s σ H _ _ v u Q I rx ry ⟨_, _, rfl, rfl, e1, q _ H (Gr.refl _) rfl⟩
  · cases e
theorem powD_calm (a b : D) : Calm (powD a b) := by
  unfold powD
  split <;> first | exact calm_stuck | exact calm_ite calm_ok calm_stuck
theorem o_pow : OpR X (binaryOp .Pow) (rD2 X.bs powD) := by
  intro pins s σ H x y v u Q I rx ry h
  obtain ⟨hd, O, a, b, d, hO, ha, hb, e, q⟩ := h
  unfold powD at e
  split at e
  · obtain ⟨⟨e1, e3, e4⟩, e2⟩ := if_ok e
    cases e2
    cases bo_int ha
    cases bo_int hb
    exact op_pow pins s σ H _ _ v u Q I rx ry ⟨_, _, rfl, rfl, ⟨e1, by omega, e4⟩, q _ H (Gr.refl _) rfl⟩
  · cases e
theorem negD_calm (a : D) : Calm (negD a) := by
  unfold negD
  split <;> first | exact calm_ok | exact calm_stuck
theorem o_neg : UnR X (unaryOp .USub) (rD1 X.bs negD) := by
  intro pins s σ H x v Q I rx h
  obtain ⟨hd, O, a, d, hO, ha, e, q⟩ := h
  unfold negD at e
  split at e
  · cases e
    cases bo_int ha
    exact un_neg pins s σ H _ v Q I rx ⟨_, rfl, q _ H (Gr.refl _) rfl⟩
  · cases e
end
end Ev


set_option Elab.async false
set_option linter.all false
set_option maxRecDepth 100000
/-! Ev, part P: comparisons, is, in, repr. -/
namespace Ev
open PySem PySem.Spec PyProof.Rows L2

/-! ### data as the library reads it -/
theorem strOk_tx {x : List Nat} (h : strOk x = true) : PyData.strOk (tx x) = true := by
  unfold strOk at h
  unfold PyData.strOk
  rw [← Array.all_toList]
  exact h
mutual
theorem lay_of : ∀ {n : Nat} {d : D}, flat n d = true → (toP d).canLay0 = true
  | _, .non, _ => by simp [toP, PyData.canLay0]
  | _, .bl _, _ => by simp [toP, PyData.canLay0]
  | _, .int _, _ => by simp [toP, PyData.canLay0]
  | _, .str x, h => by
    rw [flat_str] at h
    simp only [toP, PyData.canLay0]
    exact strOk_tx h
  | n + 1, .lst xs, h => by simp only [toP, PyData.canLay0]; exact layL_of (flat_lst n xs ▸ h)
  | n + 1, .tup xs, h => by simp only [toP, PyData.canLay0]; exact layL_of (flat_tup n xs ▸ h)
  | 0, .lst _, h => by cases h
  | 0, .tup _, h => by cases h
  | n, .src _, h => by cases n <;> cases h
  | n, .dct _ _, h => by cases n <;> cases h
  | n, .fn _, h => by cases n <;> cases h
  | n, .ins _ _ _, h => by cases n <;> cases h
theorem layL_of : ∀ {n : Nat} {xs : List D}, flatL n xs = true → PyData.canLayAll0 (toPL xs) = true
  | _, [], _ => by simp [toPL, PyData.canLayAll0]
  | n, x :: xs, h => by
    rw [flatL_cons, Bool.and_eq_true] at h
    simp only [toPL, PyData.canLayAll0, Bool.and_eq_true]
    exact ⟨lay_of h.1, layL_of h.2⟩
end
mutual
theorem deep_of : ∀ {n : Nat} {d : D}, flat n d = true → (toP d).depth ≤ n
  | _, .non, _ => by simp [toP, PyData.depth]
  | _, .bl _, _ => by simp [toP, PyData.depth]
  | _, .int _, _ => by simp [toP, PyData.depth]
  | _, .str x, h => by simp [toP, PyData.depth]
  | n + 1, .lst xs, h => by
    have := deepL_of (flat_lst n xs ▸ h)
    simp only [toP, PyData.depth]
    omega
  | n + 1, .tup xs, h => by
    have := deepL_of (flat_tup n xs ▸ h)
    simp only [toP, PyData.depth]
    omega
  | 0, .lst _, h => by cases h
  | 0, .tup _, h => by cases h
  | n, .src _, h => by cases n <;> cases h
  | n, .dct _ _, h => by cases n <;> cases h
  | n, .fn _, h => by cases n <;> cases h
  | n, .ins _ _ _, h => by cases n <;> cases h
theorem deepL_of : ∀ {n : Nat} {xs : List D}, flatL n xs = true → PyData.depthAll (toPL xs) ≤ n
  | _, [], _ => by simp [toPL, PyData.depthAll]
  | n, x :: xs, h => by
    rw [flatL_cons, Bool.and_eq_true] at h
    have h1 := deep_of h.1
    have h2 := deepL_of h.2
    simp only [toPL, PyData.depthAll]
    omega
end
theorem shaped_of {d : D} (h : flat 64 d = true) : SeqAt.shaped (toP d) = true := by
  unfold SeqAt.shaped
  rw [lay_of h, decide_eq_true (deep_of h)]; rfl
theorem tx_beq (x y : List Nat) : (tx x == tx y) = (x == y) := by
  by_cases e : x = y
  · subst e; simp
  · have : tx x ≠ tx y := fun z => e (by have := congrArg Str.cps z; simpa using this)
    rw [beq_eq_false_iff_ne.mpr e, beq_eq_false_iff_ne.mpr this]
mutual
theorem eqv_toP : ∀ {n m : Nat} {a b : D}, flat n a = true → flat m b = true → PyData.eqv (toP a) (toP b) = eqv a b
  | _, _, .non, .non, _, _ => by simp [toP, PyData.eqv, eqv]
  | _, _, .non, .bl _, _, _ => by simp [toP, PyData.eqv, eqv]
  | _, _, .non, .int _, _, _ => by simp [toP, PyData.eqv, eqv]
  | _, _, .non, .str _, _, _ => by simp [toP, PyData.eqv, eqv]
  | _, _, .non, .lst _, _, _ => by simp [toP, PyData.eqv, eqv]
  | _, _, .non, .tup _, _, _ => by simp [toP, PyData.eqv, eqv]
  | _, _, .bl _, .non, _, _ => by simp [toP, PyData.eqv, eqv]
  | _, _, .bl _, .bl _, _, _ => by simp [toP, PyData.eqv, eqv]
  | _, _, .bl _, .int _, _, _ => by simp [toP, PyData.eqv, eqv, b2n]
  | _, _, .bl _, .str _, _, _ => by simp [toP, PyData.eqv, eqv]
  | _, _, .bl _, .lst _, _, _ => by simp [toP, PyData.eqv, eqv]
  | _, _, .bl _, .tup _, _, _ => by simp [toP, PyData.eqv, eqv]
  | _, _, .int _, .non, _, _ => by simp [toP, PyData.eqv, eqv]
  | _, _, .int _, .bl _, _, _ => by simp [toP, PyData.eqv, eqv, b2n]
  | _, _, .int _, .int _, _, _ => by simp [toP, PyData.eqv, eqv]
  | _, _, .int _, .str _, _, _ => by simp [toP, PyData.eqv, eqv]
  | _, _, .int _, .lst _, _, _ => by simp [toP, PyData.eqv, eqv]
  | _, _, .int _, .tup _, _, _ => by simp [toP, PyData.eqv, eqv]
  | _, _, .str _, .non, _, _ => by simp [toP, PyData.eqv, eqv]
  | _, _, .str _, .bl _, _, _ => by simp [toP, PyData.eqv, eqv]
  | _, _, .str _, .int _, _, _ => by simp [toP, PyData.eqv, eqv]
  | _, _, .str x, .str y, _, _ => by simp only [toP, PyData.eqv, eqv]; exact tx_beq x y
  | _, _, .str _, .lst _, _, _ => by simp [toP, PyData.eqv, eqv]
  | _, _, .str _, .tup _, _, _ => by simp [toP, PyData.eqv, eqv]
  | _, _, .lst _, .non, _, _ => by simp [toP, PyData.eqv, eqv]
  | _, _, .lst _, .bl _, _, _ => by simp [toP, PyData.eqv, eqv]
  | _, _, .lst _, .int _, _, _ => by simp [toP, PyData.eqv, eqv]
  | _, _, .lst _, .str _, _, _ => by simp [toP, PyData.eqv, eqv]
  | n + 1, m + 1, .lst xs, .lst ys, h, h' => by simp only [toP, PyData.eqv, eqv]; exact eqvL_toP (flat_lst n xs ▸ h) (flat_lst m ys ▸ h')
  | _, _, .lst _, .tup _, _, _ => by simp [toP, PyData.eqv, eqv]
  | _, _, .tup _, .non, _, _ => by simp [toP, PyData.eqv, eqv]
  | _, _, .tup _, .bl _, _, _ => by simp [toP, PyData.eqv, eqv]
  | _, _, .tup _, .int _, _, _ => by simp [toP, PyData.eqv, eqv]
  | _, _, .tup _, .str _, _, _ => by simp [toP, PyData.eqv, eqv]
  | _, _, .tup _, .lst _, _, _ => by simp [toP, PyData.eqv, eqv]
  | n + 1, m + 1, .tup xs, .tup ys, h, h' => by simp only [toP, PyData.eqv, eqv]; exact eqvL_toP (flat_tup n xs ▸ h) (flat_tup m ys ▸ h')
  | 0, _, .lst _, _, h, _ => by cases h
  | 0, _, .tup _, _, h, _ => by cases h
  | _, 0, _, .lst _, _, h => by cases h
  | _, 0, _, .tup _, _, h => by cases h
  | n, _, .src _, _, h, _ => by cases n <;> cases h
  | n, _, .dct _ _, _, h, _ => by cases n <;> cases h
  | n, _, .fn _, _, h, _ => by cases n <;> cases h
  | n, _, .ins _ _ _, _, h, _ => by cases n <;> cases h
  | _, n, _, .src _, _, h => by cases n <;> cases h
  | _, n, _, .dct _ _, _, h => by cases n <;> cases h
  | _, n, _, .fn _, _, h => by cases n <;> cases h
  | _, n, _, .ins _ _ _, _, h => by cases n <;> cases h
theorem eqvL_toP : ∀ {n m : Nat} {xs ys : List D}, flatL n xs = true → flatL m ys = true → PyData.eqvAll (toPL xs) (toPL ys) = eqvL xs ys
  | _, _, [], [], _, _ => by simp [toPL, PyData.eqvAll, eqvL]
  | _, _, [], _ :: _, _, _ => by simp [toPL, PyData.eqvAll, eqvL]
  | _, _, _ :: _, [], _, _ => by simp [toPL, PyData.eqvAll, eqvL]
  | n, m, x :: xs, y :: ys, h, h' => by
    rw [flatL_cons, Bool.and_eq_true] at h h'
    simp only [toPL, PyData.eqvAll, eqvL]
    rw [eqv_toP h.1 h'.1, eqvL_toP h.2 h'.2]
end
section
variable {B : Bs} {H₀ H : Hp} {O : Ad}
mutual
theorem Rep.dp : ∀ {n : Nat} {d : D} {v : V}, flat n d = true → Rep B H O d v → Dp B.K H v (toP d)
  | _, .non, _, _, h => by cases (show _ = V.non from h); simp only [toP]; exact .non
  | _, .bl _, _, _, h => by cases (show _ = V.bl _ from h); simp only [toP]; exact .bl _
  | _, .int _, _, _, h => by cases (show _ = V.int _ from h); simp only [toP]; exact .int _
  | _, .str _, _, _, h => by cases (show _ = V.str _ from h); simp only [toP]; exact .str _
  | n + 1, .lst xs, _, f, h => by
    obtain ⟨a, vs, e, ⟨h1, _⟩, h2⟩ := (show ∃ a vs, _ from h)
    rw [e]
    simp only [toP]
    exact .lst (.of h1) (RepL.dp (flat_lst n xs ▸ f) h2)
  | n + 1, .tup xs, _, f, h => by
    obtain ⟨a, vs, e, h1, h2⟩ := (show ∃ a vs, _ from h)
    rw [e]
    simp only [toP]
    exact .tup h1.seq (RepL.dp (flat_tup n xs ▸ f) h2)
  | 0, .lst _, _, f, _ => by cases f
  | 0, .tup _, _, f, _ => by cases f
  | n, .src _, _, f, _ => by cases n <;> cases f
  | n, .dct _ _, _, f, _ => by cases n <;> cases f
  | n, .fn _, _, f, _ => by cases n <;> cases f
  | n, .ins _ _ _, _, f, _ => by cases n <;> cases f
theorem RepL.dp : ∀ {n : Nat} {ds : List D} {vs : List V}, flatL n ds = true → RepL B H O ds vs → DpAll B.K H vs (toPL ds)
  | _, [], _, _, h => by cases (show _ = [] from h); simp only [toPL]; exact .nil
  | n, d :: ds, _, f, h => by
    obtain ⟨v, vr, e, h1, h2⟩ := (show ∃ v vr, _ from h)
    rw [flatL_cons, Bool.and_eq_true] at f
    rw [e]
    simp only [toPL]
    exact .cons (Rep.dp f.1 h1) (RepL.dp f.2 h2)
end
theorem bo_dp {hd : Ad} {n : Nat} {d : D} {v : V} (f : flat n d = true) (h : RepX B hd H₀ H O .bo d v) : Dp B.K H v (toP d) := by
  rcases h with h | ⟨a, e, h, _⟩
  · exact h.dp f
  · cases d with
    | lst ds =>
      obtain ⟨vs, e1, r⟩ := h
      rw [e]
      cases n with
      | zero => cases f
      | succ n =>
        simp only [toP]
        exact .lst (.of e1) (r.dp (flat_lst n ds ▸ f))
    | dct ks ds => cases n <;> cases f
    | _ => exact h.elim
end

/-! ### ==, != -/
section
variable {X : Cx}
theorem eqD_calm (a b : D) : Calm (eqD a b) := by
  unfold eqD
  split
  · exact calm_ok
  · exact calm_ite calm_ok calm_stuck
theorem neD_calm (a b : D) : Calm (neD a b) := by
  unfold neD
  split
  · exact calm_ok
  · exact calm_ite calm_ok calm_stuck
theorem dec_tx (x y : List Nat) : decide (V.str (tx x) = V.str (tx y)) = (x == y) := by rw [dec_str, tx_beq]
theorem o_eq (hu : X.A.units + 64 < cLine) : OpR X (compareOp .Eq) (rD2 X.bs eqD) := by
  intro pins s σ H x y v u Q I rx ry h
  obtain ⟨hd, O, a, b, d, hO, ha, hb, e, q⟩ := h
  unfold eqD at e
  split at e
  · cases e
    cases bo_str ha
    cases bo_str hb
    refine op_eq pins s σ H _ _ v u Q I rx ry ⟨rfl, ?_⟩
    rw [dec_tx]
    exact q _ H (Gr.refl _) rfl
  · obtain ⟨⟨f1, f2⟩, e2⟩ := if_ok e
    cases e2
    refine op_eqD hu pins s σ H _ _ v u Q I rx ry ⟨_, _, bo_dp f1 ha, bo_dp f2 hb, shaped_of f1, shaped_of f2, ?_⟩
    rw [eqv_toP f1 f2]
    exact q _ H (Gr.refl _) rfl
theorem o_ne (hu : X.A.units + 64 < cLine) : OpR X (compareOp .NotEq) (rD2 X.bs neD) := by
  intro pins s σ H x y v u Q I rx ry h
  obtain ⟨hd, O, a, b, d, hO, ha, hb, e, q⟩ := h
  unfold neD at e
  split at e
  · cases e
    cases bo_str ha
    cases bo_str hb
    refine op_ne pins s σ H _ _ v u Q I rx ry ⟨rfl, ?_⟩
    rw [dec_tx]
    exact q _ H (Gr.refl _) rfl
  · obtain ⟨⟨f1, f2⟩, e2⟩ := if_ok e
    cases e2
    refine op_neD hu pins s σ H _ _ v u Q I rx ry ⟨_, _, bo_dp f1 ha, bo_dp f2 hb, shaped_of f1, shaped_of f2, ?_⟩
    rw [eqv_toP f1 f2]
    exact q _ H (Gr.refl _) rfl

/-! ### <, <=, >, >= -/
/-- how the machine orders ints, texts, tuples by an operator -/
structure OrdRule (op : CmpOp) (f : Int → Int → Bool) (g : List Nat → List Nat → Bool) (z : Nat → Nat → Bool) : Prop where
  oi : ∀ (A : Around) (s : Shared) (a b : Int) (t u : Tok), Ob.RcOp op A s (.int a t) (.int b u) (f a b)
  ot : ∀ (A : Around) (s : Shared) (a b : List Nat) (t u : Tok), Ob.RcOp op A s (.str (tx a) t) (.str (tx b) u) (g a b)
  ou : ∀ {A : Around} {s : Shared} {l b : Addr} {items items2 : Array Value} {e r : Nat → Bool}, s.heap.IsTuple l items → s.heap.IsTuple b items2 → A.units < cLine →
    (∀ j (h1 : j < items.size) (h2 : j < items2.size), SeqAt.EqAt A.in1 s items[j] items2[j] (e j)) →
    (∀ j (h1 : j < items.size) (h2 : j < items2.size), e j = false → Ob.RcOp op A.in1 s items[j] items2[j] (r j)) →
    Ob.RcOp op A s (.ref l) (.ref b) (Ob.lexAt e r (z items.size items2.size) 0 (min items.size items2.size))
  oz : ∀ n m k, z (n + k) (m + k) = z n m
theorem ord_lt : OrdRule .Lt (fun a b => decide (a < b)) (fun a b => decide (a < b)) (fun a b => decide (a < b)) :=
  ⟨fun _ _ _ _ _ _ => Ob.RcOp.lt_int _ _ _ _, fun _ _ _ _ _ _ _ _ _ _ h => PySem.P.lt_str h, fun h1 h2 h3 h4 h5 => Ob.RcOp.tuples_lt h1 h2 h3 h4 h5, fun n m k => by simp⟩
theorem ord_le : OrdRule .LtE (fun a b => decide (a ≤ b)) (fun a b => !decide (b < a)) (fun a b => decide (a ≤ b)) :=
  ⟨fun _ _ _ _ _ _ => Ob.RcOp.le_int _ _ _ _, fun _ _ _ _ _ _ _ _ _ _ h => PySem.P.le_str h, fun h1 h2 h3 h4 h5 => Ob.RcOp.tuples_le h1 h2 h3 h4 h5, fun n m k => by simp⟩
theorem ord_gt : OrdRule .Gt (fun a b => decide (b < a)) (fun a b => decide (b < a)) (fun a b => decide (b < a)) :=
  ⟨fun _ _ _ _ _ _ => Ob.RcOp.gt_int _ _ _ _, fun _ _ _ _ _ _ _ _ _ _ h => PySem.P.gt_str h, fun h1 h2 h3 h4 h5 => Ob.RcOp.tuples_gt h1 h2 h3 h4 h5, fun n m k => by simp⟩
theorem ord_ge : OrdRule .GtE (fun a b => decide (b ≤ a)) (fun a b => !decide (a < b)) (fun a b => decide (b ≤ a)) :=
  ⟨fun _ _ _ _ _ _ => Ob.RcOp.ge_int _ _ _ _, fun _ _ _ _ _ _ _ _ _ _ h => PySem.P.ge_str h, fun h1 h2 h3 h4 h5 => Ob.RcOp.tuples_ge h1 h2 h3 h4 h5, fun n m k => by simp⟩
theorem getD_drop {α : Type} {xs : List α} {i : Nat} {d : α} (h : i < xs.length) : xs.drop i = xs.getD i d :: xs.drop (i + 1) := by
  rw [List.drop_eq_getElem_cons h, List.getD_eq_getElem?_getD, List.getElem?_eq_getElem h]; rfl
theorem lexAt_eq {op : CmpOp} {f : Int → Int → Bool} {g : List Nat → List Nat → Bool} {z : Nat → Nat → Bool} (R : OrdRule op f g z) (xs ys : List D) : ∀ (k i : Nat), k = min xs.length ys.length - i → i ≤ min xs.length ys.length →
    Ob.lexAt (fun j => eqv (xs.getD j .non) (ys.getD j .non)) (fun j => cmpw f g z (xs.getD j .non) (ys.getD j .non)) (z xs.length ys.length) i k = cmpwL f g z (xs.drop i) (ys.drop i)
  | 0, i, hk, hi => by
    have key : cmpwL f g z (xs.drop i) (ys.drop i) = z (xs.length - i) (ys.length - i) := by
      by_cases h : xs.length ≤ ys.length
      · have : i = xs.length := by omega
        subst this
        rw [List.drop_length, Nat.sub_self, ← List.length_drop]
        cases ys.drop xs.length <;> rw [cmpwL]
      · have : i = ys.length := by omega
        subst this
        rw [List.drop_length, Nat.sub_self, ← List.length_drop]
        cases e : xs.drop ys.length with
        | nil => simp [cmpwL]
        | cons a r => rw [cmpwL]; simp
    rw [Ob.lexAt_zero, key]
    have h1 : xs.length - i + i = xs.length := by omega
    have h2 : ys.length - i + i = ys.length := by omega
    have := R.oz (xs.length - i) (ys.length - i) i
    rw [h1, h2] at this
    exact this
  | k + 1, i, hk, hi => by
    have h1 : i < xs.length := by omega
    have h2 : i < ys.length := by omega
    rw [Ob.lexAt_succ, lexAt_eq R xs ys k (i + 1) (by omega) (by omega), getD_drop (d := D.non) h1, getD_drop (d := D.non) h2, cmpwL]
theorem cmpbL_get : ∀ {xs ys : List D} {j : Nat}, cmpbL xs ys = true → j < xs.length → j < ys.length → eqv (xs.getD j .non) (ys.getD j .non) = true ∨ cmpb (xs.getD j .non) (ys.getD j .non) = true
  | x :: xs, y :: ys, 0, h, _, _ => by
    rw [cmpbL, Bool.and_eq_true, Bool.or_eq_true] at h
    exact h.1
  | x :: xs, y :: ys, j + 1, h, h1, h2 => by
    rw [cmpbL, Bool.and_eq_true] at h
    have := cmpbL_get (j := j) h.2 (by simpa using h1) (by simpa using h2)
    simpa using this
theorem DpAll.get {K : PySem.W.Frag} {H : Hp} : ∀ {vs : List V} {ds : List D} {j : Nat}, DpAll K H vs (toPL ds) → j < ds.length → ∃ v, vs[j]? = some v ∧ Dp K H v (toP (ds.getD j .non))
  | _, [], _, _, h => by simp at h
  | _, d :: ds, j, h, hj => by
    simp only [toPL] at h
    cases h with
    | cons h1 h2 =>
      cases j with
      | zero => exact ⟨_, rfl, by simpa using h1⟩
      | succ j =>
        obtain ⟨v, e1, e2⟩ := DpAll.get h2 (j := j) (by simpa using hj)
        exact ⟨v, by simpa using e1, by simpa using e2⟩
theorem DpAll.len {K : PySem.W.Frag} {H : Hp} : ∀ {vs : List V} {ds : List D}, DpAll K H vs (toPL ds) → vs.length = ds.length
  | _, [], h => by simp only [toPL] at h; cases h; rfl
  | _, d :: ds, h => by
    simp only [toPL] at h
    cases h with
    | cons h1 h2 => rw [List.length_cons, List.length_cons, DpAll.len h2]
theorem flatL_get {n : Nat} : ∀ {xs : List D} {j : Nat}, flatL n xs = true → j < xs.length → flat n (xs.getD j .non) = true
  | x :: xs, 0, h, _ => by rw [flatL_cons, Bool.and_eq_true] at h; exact h.1
  | x :: xs, j + 1, h, hj => by
    rw [flatL_cons, Bool.and_eq_true] at h
    have := flatL_get (j := j) h.2 (by simpa using hj)
    simpa using this
theorem cmpb_cases {a b : D} (h : cmpb a b = true) : (∃ i j, a = .int i ∧ b = .int j) ∨ (∃ x y, a = .str x ∧ b = .str y) ∨ ∃ xs ys, a = .tup xs ∧ b = .tup ys ∧ cmpbL xs ys = true := by
  unfold cmpb at h
  split at h
  · exact .inl ⟨_, _, rfl, rfl⟩
  · exact .inr (.inl ⟨_, _, rfl, rfl⟩)
  · exact .inr (.inr ⟨_, _, rfl, rfl, h⟩)
  · cases h
theorem ord_ok {op : CmpOp} {f : Int → Int → Bool} {g : List Nat → List Nat → Bool} {z : Nat → Nat → Bool} (R : OrdRule op f g z) {pins : List (Addr × Obj)} {σ : L2.St} {H : Hp} {s : Shared} (I : Inv X pins σ H s) (n : Nat) :
    ∀ (A : Around) (a b : D) (v w : V) (u t : Value), flat n a = true → flat n b = true → cmpb a b = true → Dp X.K H v (toP a) → Dp X.K H w (toP b) → RelV v u → RelV w t → A.units + n < cLine → Ob.RcOp op A s u t (cmpw f g z a b) := by
  induction n with
  | zero =>
    intro A a b v w u t fa fb hc ha hb ru rt hu
    rcases cmpb_cases hc with ⟨i, j, rfl, rfl⟩ | ⟨x, y, rfl, rfl⟩ | ⟨xs, ys, rfl, rfl, hc⟩
    · simp only [toP] at ha hb
      cases ha
      cases hb
      obtain ⟨_, rfl⟩ := ru
      obtain ⟨_, rfl⟩ := rt
      rw [cmpw]
      exact R.oi A s _ _ _ _
    · simp only [toP] at ha hb
      cases ha
      cases hb
      obtain ⟨_, rfl⟩ := ru
      obtain ⟨_, rfl⟩ := rt
      rw [cmpw]
      exact R.ot A s _ _ _ _
    · cases fa
  | succ n ih =>
    intro A a b v w u t fa fb hc ha hb ru rt hu
    rcases cmpb_cases hc with ⟨i, j, rfl, rfl⟩ | ⟨x, y, rfl, rfl⟩ | ⟨xs, ys, rfl, rfl, hc⟩
    · simp only [toP] at ha hb
      cases ha
      cases hb
      obtain ⟨_, rfl⟩ := ru
      obtain ⟨_, rfl⟩ := rt
      rw [cmpw]
      exact R.oi A s _ _ _ _
    · simp only [toP] at ha hb
      cases ha
      cases hb
      obtain ⟨_, rfl⟩ := ru
      obtain ⟨_, rfl⟩ := rt
      rw [cmpw]
      exact R.ot A s _ _ _ _
    · simp only [toP] at ha hb
      cases ha with
      | tup s1 a1 =>
      cases hb with
      | tup s2 a2 =>
      cases ru
      cases rt
      obtain ⟨its, r1, p1, _⟩ := I.tuple s1
      obtain ⟨its2, r2, p2, _⟩ := I.tuple s2
      rw [cmpw]
      have l1 := DpAll.len a1
      have l2 := DpAll.len a2
      have k1 : its.toArray.size = xs.length := by rw [List.size_toArray, ← r1.length, l1]
      have k2 : its2.toArray.size = ys.length := by rw [List.size_toArray, ← r2.length, l2]
      have hin : A.in1.units + n < cLine := by show A.units + 1 + n < cLine; omega
      have at1 : ∀ (its : List Value) (xs : List D) (vs : List V), DpAll X.K H vs (toPL xs) → Vals vs its → ∀ j (h : j < its.toArray.size), ∃ v, Dp X.K H v (toP (xs.getD j .non)) ∧ RelV v its.toArray[j] := fun its xs vs a1 r1 j h => by
        have l1 := DpAll.len a1
        have l2 := r1.length
        have l3 : j < its.length := by simpa using h
        obtain ⟨v, e, q⟩ := DpAll.get a1 (j := j) (by omega)
        obtain ⟨u, e2, q2⟩ := r1.get e
        have : its.toArray[j] = u := by
          have h3 : its[j]? = some its.toArray[j] := by simp [l3]
          rw [e2] at h3
          exact (Option.some.inj h3).symm
        exact ⟨v, q, by rw [this]; exact q2⟩
      have fx : ∀ j, j < xs.length → flat n (xs.getD j .non) = true := fun j h => flatL_get (flat_tup n xs ▸ fa) h
      have fy : ∀ j, j < ys.length → flat n (ys.getD j .non) = true := fun j h => flatL_get (flat_tup n ys ▸ fb) h
      have key := R.ou (A := A) (e := fun j => eqv (xs.getD j .non) (ys.getD j .non)) (r := fun j => cmpw f g z (xs.getD j .non) (ys.getD j .non)) p1 p2 (by omega)
        (fun j h1 h2 => by
          obtain ⟨v, d1, q1⟩ := at1 its xs _ a1 r1 j h1
          obtain ⟨w, d2, q2⟩ := at1 its2 ys _ a2 r2 j h2
          obtain ⟨as, rd1⟩ := Dp.reads I _ v _ d1 q1
          obtain ⟨bs, rd2⟩ := Dp.reads I _ w _ d2 q2
          have g1 := fx j (by omega)
          have g2 := fy j (by omega)
          rw [← eqv_toP g1 g2]
          exact SeqAt.eqAt_reads _ _ A.in1 s _ _ as bs rd1 rd2 (lay_of g1) (lay_of g2) (by have := deep_of g1; omega))
        (fun j h1 h2 e => by
          obtain ⟨v, d1, q1⟩ := at1 its xs _ a1 r1 j h1
          obtain ⟨w, d2, q2⟩ := at1 its2 ys _ a2 r2 j h2
          have g1 := fx j (by omega)
          have g2 := fy j (by omega)
          rcases cmpbL_get (j := j) hc (by omega) (by omega) with q | q
          · rw [q] at e; cases e
          · exact ih A.in1 _ _ v w _ _ g1 g2 q d1 d2 q1 q2 hin)
      rw [k1, k2, lexAt_eq R xs ys _ 0 (by simp) (Nat.zero_le _)] at key
      simpa using key
theorem ordD_calm {w : Int → Int → Bool} {o : D → D → Bool} (a b : D) : Calm (ordD w o a b) := by
  unfold ordD
  split
  · exact calm_ok
  · exact calm_ite calm_ok calm_stuck
theorem o_ord {op : CmpOp} {f : Int → Int → Bool} {g : List Nat → List Nat → Bool} {z : Nat → Nat → Bool} (R : OrdRule op f g z) (hr : ∀ v u, compareOp op v u = richCompare op v u) (hu : X.A.units + 64 < cLine) : OpR X (compareOp op) (rD2 X.bs (ordD f (cmpw f g z))) := by
  intro pins s σ H x y v u Q I rx ry h
  obtain ⟨hd, O, a, b, d, hO, ha, hb, e, q⟩ := h
  rw [hr]
  unfold ordD at e
  split at e
  · cases e
    cases bo_int ha
    cases bo_int hb
    obtain ⟨_, rfl⟩ := rx
    obtain ⟨_, rfl⟩ := ry
    exact R.oi X.A s _ _ _ _ _ _ _ _ ⟨.bl _, H, I, rfl, q _ H (Gr.refl _) rfl⟩
  · obtain ⟨⟨f1, f2, hc⟩, e2⟩ := if_ok e
    cases e2
    exact ord_ok R I 60 X.A a b x y v u f1 f2 hc (bo_dp f1 ha) (bo_dp f2 hb) rx ry (by omega) _ _ _ _ ⟨.bl _, H, I, rfl, q _ H (Gr.refl _) rfl⟩
theorem o_lt (hu : X.A.units + 64 < cLine) : OpR X (compareOp .Lt) (rD2 X.bs ltD) := o_ord ord_lt (fun _ _ => rfl) hu
theorem o_le (hu : X.A.units + 64 < cLine) : OpR X (compareOp .LtE) (rD2 X.bs leD) := o_ord ord_le (fun _ _ => rfl) hu
theorem o_gt (hu : X.A.units + 64 < cLine) : OpR X (compareOp .Gt) (rD2 X.bs gtD) := o_ord ord_gt (fun _ _ => rfl) hu
theorem o_ge (hu : X.A.units + 64 < cLine) : OpR X (compareOp .GtE) (rD2 X.bs geD) := o_ord ord_ge (fun _ _ => rfl) hu

/-! ### is, is not -/
theorem isD_calm (a b : D) : Calm (isD a b) := by
  unfold isD
  split <;> first | exact calm_ok | exact calm_stuck
theorem isnD_calm (a b : D) : Calm (isnD a b) := calm_bind (isD_calm a b) fun d => by split <;> first | exact calm_ok | exact calm_stuck
theorem bo_nn {B : Bs} {hd : Ad} {H₀ H : Hp} {O : Ad} {d : D} {x : V} (h : RepX B hd H₀ H O .bo d x) : decide (x = .non) = isNon d := by
  rcases h with h | ⟨a, e, h, _⟩
  · cases d with
    | non => cases (show x = V.non from h); rfl
    | bl b => cases (show x = V.bl b from h); rfl
    | int b => cases (show x = V.int b from h); rfl
    | str b => cases (show x = V.str _ from h); rfl
    | tup ds => obtain ⟨a, vs, e, _⟩ := h; subst e; rfl
    | lst ds => obtain ⟨a, vs, e, _⟩ := h; subst e; rfl
    | src ds => obtain ⟨a, vs, e, _⟩ := h; subst e; rfl
    | dct ks ds => obtain ⟨a, vs, e, _⟩ := h; subst e; rfl
    | fn n => obtain ⟨a, e, _⟩ := h; subst e; rfl
    | ins c ns ds => obtain ⟨a, C, dx, fs, e, _⟩ := h; subst e; rfl
  · cases d with
    | non => exact h.elim
    | _ => subst e; rfl
theorem o_is : OpR X (compareOp .Is) (rD2 X.bs isD) := by
  intro pins s σ H x y v u Q I rx ry h
  obtain ⟨hd, O, a, b, d, hO, ha, hb, e, q⟩ := h
  unfold isD at e
  split at e
  · cases e
    cases bo_non hb
    refine op_isN pins s σ H _ _ v u Q I rx ry ⟨rfl, ?_⟩
    rw [bo_nn ha]
    exact q _ H (Gr.refl _) rfl
  · cases e
    cases bo_bl ha
    cases bo_bl hb
    refine op_is_bl pins s σ H _ _ v u Q I rx ry ⟨_, _, rfl, rfl, q _ H (Gr.refl _) ?_⟩
    show V.bl _ = V.bl _
    rw [Bool.beq_eq_decide_eq]
  · cases e
theorem o_isn : OpR X (compareOp .IsNot) (rD2 X.bs isnD) := by
  intro pins s σ H x y v u Q I rx ry h
  obtain ⟨hd, O, a, b, d, hO, ha, hb, e, q⟩ := h
  unfold isnD isD at e
  split at e
  · cases e
    cases bo_non hb
    refine op_notN pins s σ H _ _ v u Q I rx ry ⟨rfl, ?_⟩
    rw [bo_nn ha]
    exact q _ H (Gr.refl _) rfl
  · cases e
    cases bo_bl ha
    cases bo_bl hb
    refine op_isnot_bl pins s σ H _ _ v u Q I rx ry ⟨_, _, rfl, rfl, q _ H (Gr.refl _) ?_⟩
    show V.bl _ = V.bl _
    rw [Bool.beq_eq_decide_eq]
  · cases e
end
end Ev


set_option Elab.async false
set_option linter.all false
set_option maxRecDepth 100000
/-! Ev, part Q: built-in functions, subscripts, displays, tests. -/
namespace Ev
open PySem PySem.Spec PyProof.Rows L2

theorem un1_ok {f : D → R D} {ds : List D} {d : D} (h : un1 f ds = .ok d) : ∃ a, ds = [a] ∧ f a = .ok d := by
  unfold un1 at h
  split at h
  · exact ⟨_, rfl, h⟩
  · cases h
theorem un2_ok {f : D → D → R D} {ds : List D} {d : D} (h : un2 f ds = .ok d) : ∃ a b, ds = [a, b] ∧ f a b = .ok d := by
  unfold un2 at h
  split at h
  · exact ⟨_, _, rfl, h⟩
  · cases h
theorem un1_calm {f : D → R D} (h : ∀ a, Calm (f a)) (ds : List D) : Calm (un1 f ds) := by
  unfold un1
  split
  · exact h _
  · exact calm_stuck
theorem un2_calm {f : D → D → R D} (h : ∀ a b, Calm (f a b)) (ds : List D) : Calm (un2 f ds) := by
  unfold un2
  split
  · exact h _ _
  · exact calm_stuck
theorem BoL.one {B : Bs} {hd : Ad} {H : Hp} {O : Ad} {d : D} {vs : List V} (h : BoL B hd H O [d] vs) : ∃ v, vs = [v] ∧ RepX B hd H H O .bo d v := by
  obtain ⟨v, vr, q, h1, h2⟩ := (show ∃ v vr, _ from h)
  cases (show vr = [] from h2)
  exact ⟨v, q, h1⟩
theorem BoL.two {B : Bs} {hd : Ad} {H : Hp} {O : Ad} {d e : D} {vs : List V} (h : BoL B hd H O [d, e] vs) : ∃ v w, vs = [v, w] ∧ RepX B hd H H O .bo d v ∧ RepX B hd H H O .bo e w := by
  obtain ⟨v, vr, q, h1, h2⟩ := (show ∃ v vr, _ from h)
  obtain ⟨w, q2, h3⟩ := h2.one
  exact ⟨v, w, by rw [q, q2], h1, h3⟩
section
variable {X : Cx} {W : WX} {c : Fr} {ρ : List Sl} {e : Expr} {es : List Expr} {m : R D} {ms : List (R D)} {pos p : Pos}

/-! ### arguments -/
theorem a_nil : JA X W c ρ [] [] := PA.imp pa_nil fun σ H Q q => q.now [] rfl
theorem a_cons (ha : JE X W c ρ .bo e m) (hr : JA X W c ρ es ms) (hs : starEach (e :: es) X.env = (false, eval e X.env) :: starEach es X.env := by rfl) : JA X W c ρ (e :: es) (m :: ms) :=
  PA.imp (pa_cons ha hr hs) fun σ H Q q => by
    refine Wd.mono (Wd.bind q) fun d H1 g1 q1 v rv => ?_
    refine Wd.mono (Wd.bind q1) fun ds H2 g2 q2 vs rvs => ?_
    exact q2.now _ ⟨v, vs, rfl, bo_at (RepX.pg g2 q1.1.hdO q.1.hth rv), rvs⟩
theorem s_nil : JAs X W c ρ [] [] := PA.imp pa_nil fun σ H Q q => q.now [] rfl
theorem s_cons (ha : JE X W c ρ .sh e m) (hr : JAs X W c ρ es ms) (hs : starEach (e :: es) X.env = (false, eval e X.env) :: starEach es X.env := by rfl) : JAs X W c ρ (e :: es) (m :: ms) :=
  PA.imp (pa_cons ha hr hs) fun σ H Q q => by
    refine Wd.mono (Wd.bind q) fun d H1 g1 q1 v rv => ?_
    refine Wd.mono (Wd.bind q1) fun ds H2 g2 q2 vs rvs => ?_
    exact q2.now _ ⟨v, vs, rfl, Rep.kp (g2.k q1.1.hdO) rv, rvs⟩

/-! ### displays -/
theorem args_sat {P : List D → Prop} {E : String → List (String × D) → Prop} : ∀ {ms : List (R D)}, (args ms).sat P E → (args ms).sat (fun ds => ds.length = ms.length ∧ P ds) E := by
  have key : ∀ (ms : List (R D)), (args ms).sat (fun _ => True) (fun _ _ => True) → (args ms).sat (fun ds => ds.length = ms.length) (fun _ _ => True) := by
    intro ms
    induction ms with
    | nil => intro _; rfl
    | cons m ms ih =>
      intro h
      refine R.sat_bind.mpr (R.sat_mono (R.sat_bind.mp h) (fun a q => ?_) fun _ _ _ => trivial)
      refine R.sat_bind.mpr (R.sat_mono (ih (R.sat_mono (R.sat_bind.mp q) (fun _ _ => trivial) fun _ _ _ => trivial)) (fun ds e => ?_) fun _ _ _ => trivial)
      show (a :: ds).length = _
      rw [List.length_cons, List.length_cons, e]
  intro ms h
  exact R.sat_mono (R.sat_and (key ms (R.sat_mono h (fun _ _ => trivial) fun _ _ _ => trivial)) h) (fun _ q => q) fun _ _ q => q.2
theorem e_tup {x1} (h : JAs X W c ρ es ms) (hl : ms.length ≤ 1000 := by exact Nat.le_of_ble_eq_true rfl) : JE X W c ρ .sh (.Tuple es x1 pos) (tupR ms) :=
  PE.imp (pe_tupX h) fun σ H Q q => by
    obtain ⟨w, s⟩ := q
    refine ⟨w, R.sat_mono (args_sat (R.sat_map.mp s)) (fun ds ⟨hlen, k⟩ H' gr vs r => ⟨?_, fun l ob hl' d0 => ?_⟩) fun _ _ z => z⟩
    · rw [r.length, hlen]
      exact Nat.le_trans hl (by rw [sizeLine_eq]; decide)
    · refine k _ (gr.trans (Gr.laid hl').pg) (.ref l) ⟨l, vs, rfl, .inl ⟨⟨ob, upd_same, d0⟩, fun z => ?_⟩, r.gr (Gr.laid hl')⟩
      obtain ⟨u, q⟩ := (w.pg gr).there l z
      rw [hl'] at q
      cases q
theorem e_lst (h : JAs X W c ρ es ms) (hl : ms.length ≤ 1000 := by exact Nat.le_of_ble_eq_true rfl) : JE X W c ρ .ra (.List es pos) (lstR ms) :=
  PE.imp (pe_lst h) fun σ H Q q => by
    obtain ⟨w, s⟩ := q
    refine ⟨w, R.sat_mono (args_sat (R.sat_map.mp s)) (fun ds ⟨hlen, k⟩ H' gr vs r => ⟨?_, fun l hl' => ?_⟩) fun _ _ z => z⟩
    · rw [r.length, hlen]
      exact Nat.le_trans hl (by rw [sizeLine_eq]; decide)
    · exact k _ (gr.trans (Gr.laid hl').pg) (.ref l) (RepX.back (fun _ => w.none gr) (ra_lst hl' (Gr.refl _) r))
theorem e_dnew : JE X W c ρ .ra (.Dict [] [] pos) (.ok (.dct [] [])) :=
  PE.imp pe_dnewK fun σ H Q q l hl => q.2 _ (Gr.laid hl).pg _ (ra_dct (kvs := []) hl (Gr.refl _) rfl rfl)

/-! ### calls of built-ins -/
theorem e_bi {x : Str} {id : String} {f : List D → R D} (hc : CallR X (.builtin id) (rDC X.bs f)) (hf : ∀ ds, Calm (f ds)) (hg : Gl X x) (hm : X.mg x = none) (hv : bootBuiltins x = some (.builtin id)) (ha : JA X W c ρ (e :: es) ms)
    (hn : x ≠ "__name__" := by decide) (hdb : (x == ("__debug__" : Str)) = false := by decide) (he : starEach (e :: es) X.env = (false, eval e X.env) :: starEach es X.env := by rfl) (hpl : (backTo pos (starEach es X.env)).any (·.1) = false := by rfl) :
    JE X W c ρ .ra (.Call (.Name x p) (e :: es) [] pos) ((args ms).bind f) :=
  PE.imp (pe_callB hc hg hm hv ha hn hdb he hpl) fun σ H Q q => by
    refine Wd.mono (Wd.bind q) fun ds H1 g1 q1 vs rvs => ?_
    obtain ⟨d, e, k⟩ := q1.val (hf ds)
    exact ⟨c.hd, OA c ρ σ, ds, d, q1.1.there, rvs, e, fun v H' g r => k H' g.pg v (r.back fun _ => q.1.none g1)⟩
theorem e_ty {x : Str} {T : String} {f : List D → R D} (hc : CallR X (.type T) (rDC X.bs f)) (hf : ∀ ds, Calm (f ds)) (hg : Gl X x) (hm : X.mg x = none) (hv : bootBuiltins x = some (.type T)) (ha : JA X W c ρ (e :: es) ms)
    (hn : x ≠ "__name__" := by decide) (hdb : (x == ("__debug__" : Str)) = false := by decide) (he : starEach (e :: es) X.env = (false, eval e X.env) :: starEach es X.env := by rfl) (hpl : (backTo pos (starEach es X.env)).any (·.1) = false := by rfl) :
    JE X W c ρ .ra (.Call (.Name x p) (e :: es) [] pos) ((args ms).bind f) :=
  PE.imp (pe_callTy hc hg hm hv ha hn hdb he hpl) fun σ H Q q => by
    refine Wd.mono (Wd.bind q) fun ds H1 g1 q1 vs rvs => ?_
    obtain ⟨d, e, k⟩ := q1.val (hf ds)
    exact ⟨c.hd, OA c ρ σ, ds, d, q1.1.there, rvs, e, fun v H' g r => k H' g.pg v (r.back fun _ => q.1.none g1)⟩
/-- with one argument -/
theorem e_bi1 {x : Str} {id : String} {f : D → R D} (hc : CallR X (.builtin id) (rDC X.bs (un1 f))) (hf : ∀ d, Calm (f d)) (hm : X.mg x = none) (hv : bootBuiltins x = some (.builtin id)) (ha : JE X W c ρ .bo e m) (hg : Gl X x := by rfl)
    (hn : x ≠ "__name__" := by decide) (hdb : (x == ("__debug__" : Str)) = false := by decide) (he : starEach [e] X.env = (false, eval e X.env) :: starEach [] X.env := by rfl) (hpl : (backTo pos (starEach [] X.env)).any (·.1) = false := by rfl) :
    JE X W c ρ .ra (.Call (.Name x p) [e] [] pos) (l1 f m) := by
  rw [← ap_un1]
  exact e_bi hc (un1_calm hf) hg hm hv (a_cons ha a_nil he) hn hdb he hpl
theorem e_ty1 {x : Str} {T : String} {f : D → R D} (hc : CallR X (.type T) (rDC X.bs (un1 f))) (hf : ∀ d, Calm (f d)) (hm : X.mg x = none) (hv : bootBuiltins x = some (.type T)) (ha : JE X W c ρ .bo e m) (hg : Gl X x := by rfl)
    (hn : x ≠ "__name__" := by decide) (hdb : (x == ("__debug__" : Str)) = false := by decide) (he : starEach [e] X.env = (false, eval e X.env) :: starEach [] X.env := by rfl) (hpl : (backTo pos (starEach [] X.env)).any (·.1) = false := by rfl) :
    JE X W c ρ .ra (.Call (.Name x p) [e] [] pos) (l1 f m) := by
  rw [← ap_un1]
  exact e_ty hc (un1_calm hf) hg hm hv (a_cons ha a_nil he) hn hdb he hpl
theorem e_bi2 {x : Str} {id : String} {f : D → D → R D} {e2 : Expr} {m2 : R D} (hc : CallR X (.builtin id) (rDC X.bs (un2 f))) (hf : ∀ a b, Calm (f a b)) (hm : X.mg x = none) (hv : bootBuiltins x = some (.builtin id)) (ha : JE X W c ρ .bo e m) (hb : JE X W c ρ .bo e2 m2) (hg : Gl X x := by rfl)
    (hn : x ≠ "__name__" := by decide) (hdb : (x == ("__debug__" : Str)) = false := by decide) (he : starEach [e, e2] X.env = (false, eval e X.env) :: starEach [e2] X.env := by rfl) (he2 : starEach [e2] X.env = (false, eval e2 X.env) :: starEach [] X.env := by rfl) (hpl : (backTo pos (starEach [e2] X.env)).any (·.1) = false := by rfl) :
    JE X W c ρ .ra (.Call (.Name x p) [e, e2] [] pos) (l2 f m m2) := by
  rw [← ap_un2]
  exact e_bi hc (un2_calm hf) hg hm hv (a_cons ha (a_cons hb a_nil he2) he) hn hdb he hpl

theorem seqD_cases {d : D} {xs : List D} (h : seqD d = .ok xs) : d = .lst xs ∨ d = .tup xs ∨ d = .src xs := by
  unfold seqD at h
  split at h <;> cases h <;> simp
theorem seqD_calm (d : D) : Calm (seqD d) := by
  unfold seqD
  split <;> first | exact calm_ok | exact calm_stuck
/-- a list or tuple, read -/
theorem bo_any {B : Bs} {hd : Ad} {H₀ H : Hp} {O : Ad} {d : D} {xs : List D} {v : V} (e : seqD d = .ok xs) (h : RepX B hd H₀ H O .bo d v) : ∃ a vs, v = .ref a ∧ (SqL B.K H a vs ∨ SqT B.K H a vs) ∧ RepL B H O xs vs := by
  rcases seqD_cases e with rfl | rfl | rfl
  · obtain ⟨a, vs, e, h1, r⟩ := bo_lst h
    exact ⟨a, vs, e, .inl (.of h1), r⟩
  · obtain ⟨a, vs, e, _, h1, r⟩ := bo_tup h
    exact ⟨a, vs, e, .inr h1, r⟩
  · obtain ⟨a, vs, e, h1, r⟩ := bo_src h
    exact ⟨a, vs, e, .inl h1, r⟩

/-! ### len -/
theorem lenD_calm (d : D) : Calm (lenD d) := by
  unfold lenD
  split <;> first | exact calm_ok | exact calm_stuck | exact calm_ite calm_ok calm_stuck
theorem c_len : CallR X (.builtin "len") (rDC X.bs (un1 lenD)) := by
  intro pins s σ H xs us Q I r h
  obtain ⟨hdd, O, ds, d, hO, hb0, e0, q⟩ := h
  obtain ⟨a, rfl, e⟩ := un1_ok e0
  obtain ⟨v, rfl, hb⟩ := hb0.one
  unfold lenD at e
  split at e
  · cases e
    obtain ⟨p, vs, rfl, h1, r1⟩ := bo_lst hb
    refine call_len_seq pins s σ H _ us Q I r ⟨p, vs, rfl, .inl (.of h1), ?_⟩
    rw [r1.length]
    exact q _ H (Gr.refl _) rfl
  · cases e
    obtain ⟨p, vs, rfl, _, h1, r1⟩ := bo_tup hb
    refine call_len_seq pins s σ H _ us Q I r ⟨p, vs, rfl, .inr h1, ?_⟩
    rw [r1.length]
    exact q _ H (Gr.refl _) rfl
  · cases e
    obtain ⟨p, vs, rfl, h1, r1⟩ := bo_src hb
    refine call_len_seq pins s σ H _ us Q I r ⟨p, vs, rfl, .inl h1, ?_⟩
    rw [r1.length]
    exact q _ H (Gr.refl _) rfl
  · obtain ⟨e1, e2⟩ := if_ok e
    cases e2
    cases bo_str hb
    refine call_len_str pins s σ H _ us Q I r ⟨_, rfl, by rw [tx_len, ← SZ_eq]; exact e1, ?_⟩
    rw [tx_len]
    exact q _ H (Gr.refl _) rfl
  · cases e
    obtain ⟨p, kvs, rfl, h1, r1, _⟩ := bo_dct hb
    obtain ⟨hz, hs, vs, hk, hd⟩ := (gt_rd h1).ok I.hok
    obtain ⟨u, rfl, ru⟩ := vals1 r
    cases ru
    have e1 := Paired.length hk
    have e2 := r1.length
    rw [List.length_map] at e2
    have hn := line63
    refine call_len_dict (kvs := vs) hs hd (by omega) ⟨.int _, H, I.tok _, ⟨_, rfl⟩, ?_⟩
    rw [← e1, e2]
    exact q _ H (Gr.refl _) rfl
  · cases e

/-! ### abs, int, min, max, sum, all, any, tuple, list -/
theorem absD_calm (d : D) : Calm (absD d) := by
  unfold absD
  split <;> first | exact calm_ok | exact calm_stuck
theorem c_abs : CallR X (.builtin "abs") (rDC X.bs (un1 absD)) := by
  intro pins s σ H xs us Q I r h
  obtain ⟨hdd, O, ds, d, hO, hb0, e0, q⟩ := h
  obtain ⟨a, rfl, e⟩ := un1_ok e0
  obtain ⟨v, rfl, hb⟩ := hb0.one
  unfold absD at e
  split at e
  · cases e
    cases bo_int hb
    exact call_abs pins s σ H _ us Q I r ⟨_, rfl, q _ H (Gr.refl _) rfl⟩
  · cases e
theorem intD_calm (d : D) : Calm (intD d) := by
  unfold intD
  split <;> first | exact calm_ok | exact calm_stuck
theorem c_int : CallR X (.type "int") (rDC X.bs (un1 intD)) := by
  intro pins s σ H xs us Q I r h
  obtain ⟨hdd, O, ds, d, hO, hb0, e0, q⟩ := h
  obtain ⟨a, rfl, e⟩ := un1_ok e0
  obtain ⟨v, rfl, hb⟩ := hb0.one
  unfold intD at e
  split at e
  · cases e
    cases bo_int hb
    exact call_int1 pins s σ H _ us Q I r (.inl ⟨_, rfl, q _ H (Gr.refl _) rfl⟩)
  · cases e
    cases bo_bl hb
    exact call_int1 pins s σ H _ us Q I r (.inr ⟨_, rfl, q _ H (Gr.refl _) rfl⟩)
  · cases e
theorem ofO_ok {α : Type} {o : Option α} {a : α} (h : ofO o = .ok a) : o = some a := by
  cases o with
  | none => cases h
  | some b => cases h; rfl
theorem R.bind_ok' {α β : Type} {m : R α} {f : α → R β} {b : β} (h : m.bind f = .ok b) : ∃ a, m = .ok a ∧ f a = .ok b := by
  cases m with
  | ok a => exact ⟨a, rfl, h⟩
  | exc => cases h
  | draw => cases h
  | stuck => cases h
theorem R.map_ok' {α β : Type} {m : R α} {f : α → β} {b : β} (h : m.map f = .ok b) : ∃ a, m = .ok a ∧ f a = b := by
  obtain ⟨a, e, q⟩ := R.bind_ok' h
  exact ⟨a, e, R.inj q⟩
theorem intsD_ok {d : D} {is : List Int} (h : intsD d = .ok is) : seqD d = .ok (is.map D.int) := by
  obtain ⟨xs, e, q⟩ := R.bind_ok' h
  rw [ints?_eq (ofO_ok q)] at e
  exact e
theorem boolsD_ok {d : D} {is : List Bool} (h : boolsD d = .ok is) : seqD d = .ok (is.map D.bl) := by
  obtain ⟨xs, e, q⟩ := R.bind_ok' h
  rw [bools?_eq (ofO_ok q)] at e
  exact e
theorem RepL.ints {B : Bs} {H : Hp} {O : Ad} : ∀ {is : List Int} {vs : List V}, RepL B H O (is.map D.int) vs → vs = is.map V.int
  | [], _, h => h
  | i :: is, _, h => by
    obtain ⟨v, vr, e, h1, h2⟩ := (show ∃ v vr, _ from h)
    cases (show v = V.int i from h1)
    rw [e, RepL.ints h2]; rfl
theorem RepL.bools {B : Bs} {H : Hp} {O : Ad} : ∀ {is : List Bool} {vs : List V}, RepL B H O (is.map D.bl) vs → vs = is.map V.bl
  | [], _, h => h
  | i :: is, _, h => by
    obtain ⟨v, vr, e, h1, h2⟩ := (show ∃ v vr, _ from h)
    cases (show v = V.bl i from h1)
    rw [e, RepL.bools h2]; rfl
theorem calm_map {α β : Type} {m : R α} {f : α → β} (h : Calm m) : Calm (m.map f) := calm_bind h fun _ => calm_ok
theorem ofO_calm {α : Type} (o : Option α) : Calm (ofO o) := by cases o <;> first | exact calm_ok | exact calm_stuck
theorem intsD_calm (d : D) : Calm (intsD d) := calm_bind (seqD_calm d) fun _ => ofO_calm _
theorem boolsD_calm (d : D) : Calm (boolsD d) := calm_bind (seqD_calm d) fun _ => ofO_calm _
theorem isLst_eq {d : D} (h : isLst d = true) : ∃ xs, d = .lst xs := by
  cases d with
  | lst xs => exact ⟨xs, rfl⟩
  | _ => cases h
theorem sumD_ok {d r : D} (h : sumD d = .ok r) : ∃ is : List Int, r = .int is.sum ∧ (d = .lst (is.map D.int) ∨ d = .tup (is.map D.int)) := by
  unfold sumD at h
  split at h
  · rename_i hl
    obtain ⟨xs, rfl⟩ := isLst_eq hl
    obtain ⟨is, e, rfl⟩ := R.map_ok' h
    cases (intsD_ok e)
    exact ⟨is, rfl, .inl rfl⟩
  · split at h
    · obtain ⟨is, e, rfl⟩ := R.map_ok' h
      cases (intsD_ok e)
      exact ⟨is, rfl, .inr rfl⟩
    · cases h
theorem sumD_calm (d : D) : Calm (sumD d) := by
  unfold sumD
  split
  · exact calm_map (intsD_calm _)
  · split
    · exact calm_map (intsD_calm _)
    · exact calm_stuck
theorem allD_calm (d : D) : Calm (allD d) := calm_ite (calm_map (boolsD_calm _)) calm_stuck
theorem anyD_calm (d : D) : Calm (anyD d) := calm_ite (calm_map (boolsD_calm _)) calm_stuck
theorem c_all (hc : X.calm = true) : CallR X (.builtin "all") (rDC X.bs (un1 allD)) := by
  intro pins s σ H xs us Q I r h
  obtain ⟨hdd, O, ds, d, hO, hb0, e0, q⟩ := h
  obtain ⟨a, rfl, e⟩ := un1_ok e0
  obtain ⟨v, rfl, hb⟩ := hb0.one
  obtain ⟨hl, e1⟩ := if_ok e
  obtain ⟨xs, rfl⟩ := isLst_eq hl
  obtain ⟨bs, e2, rfl⟩ := R.map_ok' e1
  cases (boolsD_ok e2)
  obtain ⟨p, vs, rfl, h1, r1⟩ := bo_lst hb
  rw [r1.bools] at h1
  exact cr_all hc pins s σ H _ us Q I r ⟨p, bs, rfl, .of h1, q _ H (Gr.refl _) rfl⟩
theorem c_any (hc : X.calm = true) : CallR X (.builtin "any") (rDC X.bs (un1 anyD)) := by
  intro pins s σ H xs us Q I r h
  obtain ⟨hdd, O, ds, d, hO, hb0, e0, q⟩ := h
  obtain ⟨a, rfl, e⟩ := un1_ok e0
  obtain ⟨v, rfl, hb⟩ := hb0.one
  obtain ⟨hl, e1⟩ := if_ok e
  obtain ⟨xs, rfl⟩ := isLst_eq hl
  obtain ⟨bs, e2, rfl⟩ := R.map_ok' e1
  cases (boolsD_ok e2)
  obtain ⟨p, vs, rfl, h1, r1⟩ := bo_lst hb
  rw [r1.bools] at h1
  exact cr_any hc pins s σ H _ us Q I r ⟨p, bs, rfl, .of h1, q _ H (Gr.refl _) rfl⟩
theorem tupleD_calm (d : D) : Calm (tupleD d) := calm_map (seqD_calm d)
theorem listD_calm (d : D) : Calm (listD d) := calm_map (seqD_calm d)
theorem c_tuple : CallR X (.type "tuple") (rDC X.bs (un1 tupleD)) := by
  intro pins s σ H xs us Q I r h
  obtain ⟨hdd, O, ds, d, hO, hb0, e0, q⟩ := h
  obtain ⟨a, rfl, e⟩ := un1_ok e0
  obtain ⟨v, rfl, hb⟩ := hb0.one
  obtain ⟨xs, e1, rfl⟩ := R.map_ok' e
  rcases seqD_cases e1 with rfl | rfl | rfl
  · obtain ⟨p, vs, rfl, h1, r1⟩ := bo_lst hb
    exact call_tupX pins s σ H _ us Q I r ⟨p, vs, rfl, .inl ⟨.of h1, fun l ob hl d0 => q _ _ (Gr.laid hl) (ra_tup d0 hl hO r1)⟩⟩
  · obtain ⟨p, vs, rfl, t1, h1, r1⟩ := bo_tup hb
    exact call_tupX pins s σ H _ us Q I r ⟨p, vs, rfl, .inr ⟨h1, q _ _ (Gr.refl _) ⟨p, vs, rfl, t1, r1⟩⟩⟩
  · obtain ⟨p, vs, rfl, h1, r1⟩ := bo_src hb
    exact call_tupX pins s σ H _ us Q I r ⟨p, vs, rfl, .inl ⟨h1, fun l ob hl d0 => q _ _ (Gr.laid hl) (ra_tup d0 hl hO r1)⟩⟩
theorem c_list : CallR X (.type "list") (rDC X.bs (un1 listD)) := by
  intro pins s σ H xs us Q I r h
  obtain ⟨hdd, O, ds, d, hO, hb0, e0, q⟩ := h
  obtain ⟨a, rfl, e⟩ := un1_ok e0
  obtain ⟨v, rfl, hb⟩ := hb0.one
  obtain ⟨xs, e1, rfl⟩ := R.map_ok' e
  obtain ⟨p, vs, rfl, h1, r1⟩ := bo_any e1 hb
  exact call_list_of pins s σ H _ us Q I r ⟨p, vs, rfl, h1, fun l hl => q _ _ (Gr.laid hl) (ra_lst hl (Gr.refl _) r1)⟩
/-- repr -/
theorem reprD_calm (d : D) : Calm (reprD d) := calm_ite calm_ok (calm_ite calm_ok calm_stuck)
theorem getElem_list {α : Type} {l : List α} {i : Nat} {a : α} (h : l.toArray[i]? = some a) : l[i]? = some a := by simpa using h
theorem sum_at : ∀ (ns : List Int) (j : Nat), preSum (fun i => ns.getD i 0) j = (ns.take j).sum
  | ns, 0 => by simp [preSum]
  | ns, j + 1 => by
    rw [preSum, sum_at ns j, List.take_add_one]
    by_cases h : j < ns.length
    · rw [List.getD_eq_getElem?_getD, List.getElem?_eq_getElem h]
      show (ns.take j).sum + ns[j] = (ns.take j ++ [ns[j]]).sum
      rw [List.sum_append]
      simp
    · rw [List.getD_eq_getElem?_getD, List.getElem?_eq_none (by omega)]
      simp
theorem ints_at {B : Bs} {H : Hp} {O : Ad} {ns : List Int} {vs : List V} {its : List Value} (r : RepL B H O (ns.map D.int) vs) (rv : Vals vs its) : ∀ i v, its.toArray[i]? = some v → ∃ t, v = Value.int (ns.getD i 0) t := fun i v e => by
  have e := getElem_list e
  rw [r.ints] at rv
  have hl := rv.length
  obtain ⟨hi, _⟩ := List.getElem?_eq_some_iff.mp e
  rw [List.length_map] at hl
  have hi2 : i < ns.length := by omega
  obtain ⟨u, e2, ru⟩ := rv.get (i := i) (x := .int ns[i]) (by rw [List.getElem?_map, List.getElem?_eq_getElem hi2]; rfl)
  rw [e] at e2
  cases e2
  obtain ⟨t, rfl⟩ := ru
  exact ⟨t, by rw [List.getD_eq_getElem?_getD, List.getElem?_eq_getElem hi2]; rfl⟩
theorem c_sum (hc : X.calm = true) : CallR X (.builtin "sum") (rDC X.bs (un1 sumD)) := by
  intro pins s σ H xs us Q I r h
  obtain ⟨hdd, O, ds, d, hO, hb0, e0, q⟩ := h
  obtain ⟨a, rfl, e⟩ := un1_ok e0
  obtain ⟨v, rfl, hb⟩ := hb0.one
  obtain ⟨is, rfl, hd⟩ := sumD_ok e
  have hh := I.ok.hd hc
  rcases hd with rfl | rfl
  · obtain ⟨p, vs, rfl, h1, r1⟩ := bo_lst hb
    rw [r1.ints] at h1
    exact cr_sum hc pins s σ H _ us Q I r ⟨p, is, rfl, .of h1, q _ H (Gr.refl _) rfl⟩
  · obtain ⟨p, vs, rfl, t1, h1, r1⟩ := bo_tup hb
    obtain ⟨u, rfl, ru⟩ := vals1 r
    cases ru
    obtain ⟨its, rv, ht, _⟩ := I.tuple h1
    have hlt : p < s.heap.objs.size := by obtain ⟨_, e, _⟩ := id ht; exact Heap.lt_size e
    have hn : its.toArray.size = is.length := by
      rw [List.size_toArray, ← rv.length, r1.length, List.length_map]
    refine call_sum_walkG (PySem.W.iter_tupleW (A := X.A.in1) hh ht fun s₂ e W st hfp hw hk => ?_)
    subst e
    refine ⟨_, _, _, _, _, _, fun i => is.getD i 0, rfl, Walks.tuple (A := X.A.in1) hh _ p (Nat.ne_of_lt hlt) its.toArray, st, hfp, ints_at r1 rv, fun h' tk t' hk' => ?_⟩
    rw [sum_at, hn, List.take_length]
    refine ⟨.int is.sum, H, I.kept (h' := h') (t' := tk) (fun b o e => hk' b o (hw b o e) (hk b o e)), ⟨_, rfl⟩, q _ H (Gr.refl _) rfl⟩

/-! ### isinstance against a built-in type -/
theorem isiD_calm (T : String) (d : D) : Calm (isiD T d) := calm_ite calm_ok calm_stuck
theorem bo_ty {B : Bs} {hd : Ad} {H₀ H : Hp} {O : Ad} {d : D} {v : V} (p : plainKind d = true) (h : RepX B hd H₀ H O .bo d v) : TyX B.K H v (.type d.tyName) := by
  cases d with
  | non => cases bo_non h; exact .base .non
  | bl b => cases bo_bl h; exact .base (.bl _)
  | int b => cases bo_int h; exact .base (.int _)
  | str b => cases bo_str h; exact .base (.str _)
  | tup ds =>
    obtain ⟨a, vs, rfl, t, _, _⟩ := bo_tup h
    rcases t with ⟨⟨o, t, _⟩, _⟩ | ⟨o, its, n, hk, hc, _⟩
    · exact .fTuple t
    · exact .kTuple hk hc
  | lst ds =>
    obtain ⟨a, vs, rfl, t, _⟩ := bo_lst h
    exact .base (.lst t)
  | dct ks ds =>
    obtain ⟨a, kvs, rfl, t, _⟩ := bo_dct h
    unfold gt at t
    split at t
    · rename_i o u e
      cases t
      exact .fDict e
    · exact .base (.dK t)
  | _ => cases p
/-- the built-in types that may be asked for -/
def kinds : List String := ["int", "bool", "str", "tuple", "list", "dict"]
theorem kit_kind {T : String} (hT : T ∈ kinds) {d : D} (p : plainKind d = true) : kitB d.tyName T = some (isKind T d) := by
  have key : ∀ U ∈ ["NoneType", "bool", "int", "str", "tuple", "list", "dict"], ∀ T ∈ kinds, kitB U T = some (U == T || (T == "int" && U == "bool")) := by decide +kernel
  exact key d.tyName (by cases d <;> first | (simp [D.tyName]; done) | cases p) T hT
theorem e_isi {T : String} {x : Str} {e2 : Str} {p2 : Pos} (hx : x = "isinstance" := by rfl) (hm : X.mg "isinstance" = none) (h2 : X.mg e2 = none) (hv2 : bootBuiltins e2 = some (.type T)) (ha : JE X W c ρ .bo e m) (hT : T ∈ kinds := by decide) (hg : Gl X x := by rfl) (hg2 : Gl X e2 := by rfl)
    (hn2 : e2 ≠ "__name__" := by decide) (hd2 : (e2 == ("__debug__" : Str)) = false := by decide) (he : starEach [e, .Name e2 p2] X.env = (false, eval e X.env) :: starEach [.Name e2 p2] X.env := by rfl) (hpl : (backTo pos (starEach [.Name e2 p2] X.env)).any (·.1) = false := by rfl) :
    JE X W c ρ .ra (.Call (.Name x p) [e, .Name e2 p2] [] pos) (l1 (isiD T) m) := by
  subst hx
  refine PE.imp (pe_callB call_isi hg hm boot_isinstance (pa_cons ha (pa_cons (pe_bltn hg2 h2 hv2 (v := .ty T) rfl hn2 hd2) pa_nil) he) (by decide) (by decide) he hpl) fun σ H Q q => ?_
  refine Wd.mono (Wd.bind q) fun d H1 g1 q1 v rv => ?_
  obtain ⟨d', e, k⟩ := q1.val (isiD_calm T d)
  obtain ⟨hp, e2⟩ := if_ok e
  cases e2
  exact ⟨v, .ty T, .type d.tyName, .type T, isKind T d, rfl, .ty T, bo_ty hp rv, kit_ty (kit_kind hT hp), k H1 (.refl _ _ _) _ rfl⟩

/-! ### repr -/
theorem log2_small {i : Int} (h : i.natAbs < 10 ^ 40) : i.natAbs.log2 < 1920 := by
  by_cases h0 : i.natAbs = 0
  · rw [h0]; decide
  · have : i.natAbs < 2 ^ 1920 := Nat.lt_of_lt_of_le h (Nat.le_trans (show 10 ^ 40 ≤ 2 ^ 133 by decide) (Nat.pow_le_pow_right (by decide) (by decide)))
    exact (Nat.log2_lt h0).mpr this
mutual
theorem wt_showable : ∀ {n : Nat} {d : D}, flat n d = true → wt d < 10 ^ 9 → (toP d).showable = true
  | _, .non, _, _ => by simp [toP, PyData.showable]
  | _, .bl _, _, _ => by simp [toP, PyData.showable]
  | _, .int i, _, h => by
    simp only [toP, PyData.showable, decide_eq_true_eq]
    rw [wt] at h
    split at h
    · rename_i hi
      exact log2_small hi
    · exact absurd h (Nat.lt_irrefl _)
  | _, .str x, _, _ => by simp [toP, PyData.showable]
  | n + 1, .lst xs, f, h => by
    rw [wt] at h
    simp only [toP, PyData.showable]
    exact wtL_showable (flat_lst n xs ▸ f) (by omega)
  | n + 1, .tup xs, f, h => by
    rw [wt] at h
    simp only [toP, PyData.showable]
    exact wtL_showable (flat_tup n xs ▸ f) (by omega)
  | 0, .lst _, f, _ => by cases f
  | 0, .tup _, f, _ => by cases f
  | n, .src _, f, _ => by cases n <;> cases f
  | n, .dct _ _, f, _ => by cases n <;> cases f
  | n, .fn _, f, _ => by cases n <;> cases f
  | n, .ins _ _ _, f, _ => by cases n <;> cases f
theorem wtL_showable : ∀ {n : Nat} {xs : List D}, flatL n xs = true → wtL xs < 10 ^ 9 → PyData.showableAll (toPL xs) = true
  | _, [], _, _ => by simp [toPL, PyData.showableAll]
  | n, x :: xs, f, h => by
    rw [flatL_cons, Bool.and_eq_true] at f
    rw [wtL] at h
    simp only [toPL, PyData.showableAll, Bool.and_eq_true]
    exact ⟨wt_showable f.1 (by omega), wtL_showable f.2 (by omega)⟩
end
theorem toString_len {i : Int} (h : i.natAbs < 10 ^ 40) : (Str.ofString (toString i)).length ≤ 140 := by
  have h2 : i.natAbs < 2 ^ 133 := Nat.lt_of_lt_of_le h (by decide)
  have e : (Str.ofString (toString i)).length = (toString i).toList.length := by rw [Str.ofString_eq_toList]; simp [Str.length]
  rw [e]
  have key : ∀ n : Nat, n < 2 ^ 133 → (Nat.repr n).toList.length ≤ 133 := fun n hn => by
    rw [String.length_toList]
    exact nat_repr_length_le (n := n) (k := 133) (by decide) hn
  cases i with
  | ofNat n =>
    have := key n (by simpa using h2)
    have e2 : toString (Int.ofNat n) = Nat.repr n := rfl
    rw [e2]
    omega
  | negSucc n =>
    have := key (n + 1) (by simpa using h2)
    have e2 : toString (Int.negSucc n) = "-" ++ Nat.repr (n + 1) := rfl
    rw [e2, String.toList_append, List.length_append]
    have : ("-" : String).toList.length = 1 := by decide
    omega
mutual
theorem shown_len : ∀ {n : Nat} {d : D}, flat n d = true → wt d < 10 ^ 9 → (PyData.shown (toP d)).length ≤ wt d
  | _, .non, _, _ => by simp only [toP, PyData.shown]; decide
  | _, .bl b, _, _ => by cases b <;> (simp only [toP, PyData.shown]; decide)
  | _, .int i, _, h => by
    rw [wt] at h ⊢
    split at h
    · rename_i hi
      rw [if_pos hi]
      simp only [toP, PyData.shown]
      exact toString_len hi
    · exact absurd h (Nat.lt_irrefl _)
  | _, .str x, f, h => by
    rw [flat_str] at f
    rw [wt]
    simp only [toP, PyData.shown]
    have := StrLaws.reprText_len (tx x) fun c hc => by
      have := List.all_eq_true.mp f c (by simpa using hc)
      rw [decide_eq_true_eq] at this
      exact Nat.lt_of_lt_of_le this (by decide)
    rw [tx_len] at this
    exact this
  | n + 1, .lst xs, f, h => by
    rw [wt] at h ⊢
    have := shownL_len (flat_lst n xs ▸ f) (by omega)
    have h2 := listText_len_le (PyData.shownAll (toPL xs))
    simp only [toP, PyData.shown]
    omega
  | n + 1, .tup xs, f, h => by
    rw [wt] at h ⊢
    have := shownL_len (flat_tup n xs ▸ f) (by omega)
    have h2 := tupleText_len_le (PyData.shownAll (toPL xs))
    simp only [toP, PyData.shown]
    omega
  | 0, .lst _, f, _ => by cases f
  | 0, .tup _, f, _ => by cases f
  | n, .src _, f, _ => by cases n <;> cases f
  | n, .dct _ _, f, _ => by cases n <;> cases f
  | n, .fn _, f, _ => by cases n <;> cases f
  | n, .ins _ _ _, f, _ => by cases n <;> cases f
theorem shownL_len : ∀ {n : Nat} {xs : List D}, flatL n xs = true → wtL xs < 10 ^ 9 → ((PyData.shownAll (toPL xs)).map (·.length)).sum + 2 * (PyData.shownAll (toPL xs)).length ≤ wtL xs
  | _, [], _, _ => by simp [toPL, PyData.shownAll]
  | n, x :: xs, f, h => by
    rw [flatL_cons, Bool.and_eq_true] at f
    rw [wtL] at h ⊢
    have h1 := shown_len f.1 (by omega)
    have h2 := shownL_len f.2 (by omega)
    simp only [toPL, PyData.shownAll, List.map_cons, List.sum_cons, List.length_cons]
    omega
end
theorem noDict_of {n : Nat} {d : D} (f : flat n d = true) : (toP d).hasDict = false := PyData.hasDict_of_canLay _ (lay_of f)
theorem tx_shw (d : D) : tx (shw d) = PyData.shown (toP d) := by
  unfold shw
  show Str.mk (PyData.shown (toP d)).cps.toList.toArray = _
  rw [Array.toArray_toList]
theorem repr_none {pins : List (Addr × Obj)} {σ : L2.St} {H : Hp} {s : Shared} {p : Addr} {Q : Value → Shared → Prop} {E : Value → Shared → Prop} (I : Inv X pins σ H s) (h : gt H p = some (.dK [])) (hg : X.A.guards = some []) (hu : X.A.units + 66 < cLine)
    (hQ : ∀ s' tk, Inv X pins σ H s' → Q (.str (tx [123, 125]) tk) s') : wpAny (model X.prog X.w) X.A (call (.builtin "repr") [.ref p]) Q E s := by
  obtain ⟨_, hs, vs, hk, o, es, ep, e, ex, ed, _, pr, _⟩ := (gt_rd h).ok I.hok
  have hv : vs = [] := List.length_eq_zero_iff.mp (by rw [← Paired.length hk]; rfl)
  subst hv
  have he : es.toList = [] := by
    generalize es.toList = l at pr
    cases pr; rfl
  have rd : Reads s.heap (.ref p) (.dict []) (p :: [] ++ []) := Reads.dict e ex.1 ed (by rw [he]; exact .nil) (by rw [he]; exact .nil)
  have hne : sysModules ≠ p := fun z => by rw [← z] at hs; simp at hs
  exact repr_of_reads' rd (by simp [PyData.showable, PyData.showableKv]) (fun _ z => hne (by simpa using z)) hg (by simp [PyData.depth, PyData.depthKv]; omega) (fun _ _ e => e) (fun h' u tk hk => hQ _ u (I.kept hk)) (by rw [← SZ_eq]; decide)
theorem c_repr (hg : X.A.guards = some []) (hu : X.A.units + 66 < cLine) : CallR X (.builtin "repr") (rDC X.bs (un1 reprD)) := by
  intro pins s σ H xs us Q I r h
  obtain ⟨hdd, O, ds, d, hO, hb0, e0, q⟩ := h
  obtain ⟨a, rfl, e⟩ := un1_ok e0
  obtain ⟨v, rfl, hb⟩ := hb0.one
  unfold reprD at e
  by_cases ht : tellable a
  rotate_left
  · rw [if_neg ht] at e
    obtain ⟨hn, e⟩ := if_ok e
    cases e
    unfold noneIn at hn
    split at hn
    · obtain ⟨p, kvs, rfl, h1, r1, _⟩ := bo_dct hb
      have hk : kvs = [] := by
        have := r1.length
        rw [List.length_map] at this
        exact List.length_eq_zero_iff.mp this
      subst hk
      obtain ⟨u, rfl, ru⟩ := vals1 r
      cases ru
      exact repr_none I h1 hg hu fun s' tk I' => ⟨.str _, H, I', ⟨_, rfl⟩, q _ H (Gr.refl _) rfl⟩
    · cases hn
  rw [if_pos ht] at e
  obtain ⟨f, hw⟩ := ht
  cases e
  obtain ⟨u, rfl, ru⟩ := vals1 r
  have hw2 : wt a < 10 ^ 9 := Nat.lt_of_le_of_lt hw (by decide)
  have hl := shown_len f hw2
  have hz : (PyData.shown (toP a)).length ≤ sizeLine := by rw [← SZ_eq]; unfold SZ; omega
  have fin : ∀ (tk : Nat) (s' : Shared), Inv X pins σ H s' → EP X pins σ Q (.str (PyData.shown (toP a)) tk) s' := fun tk s' I' => ⟨.str _, H, I', ⟨_, rfl⟩, by rw [← tx_shw]; exact q _ H (Gr.refl _) rfl⟩
  have dp := bo_dp f hb
  have dr := fun (p : Addr) (e : v = .ref p) => Dp.reads I _ v u dp ru
  have big : ∀ p : Addr, v = .ref p → wpAny (model X.prog X.w) X.A (call (.builtin "repr") [u]) (EP X pins σ Q) X.xe s := fun p e => by
    obtain ⟨as, rd⟩ := Dp.reads I _ v u dp ru
    subst e
    cases ru
    have h1 := wt_showable f hw2
    have h2 := deep_of f
    exact repr_of_reads' rd h1 (PyData.noDict_hsm (noDict_of f)) hg (by omega) (fun _ _ e => e) (fun h' u tk hk => fin u _ (I.kept hk)) hz
  cases a with
  | non =>
    cases bo_non hb
    cases ru
    exact PySem.P.repr_of_none (fin _ _ (I.tok _))
  | bl b =>
    cases bo_bl hb
    cases ru
    exact PySem.P.repr_of_bool (fin _ _ (I.tok _))
  | int i =>
    cases bo_int hb
    obtain ⟨t, rfl⟩ := ru
    have h1 := wt_showable f hw2
    simp only [toP, PyData.showable, decide_eq_true_eq] at h1
    exact PySem.P.repr_of_int h1 (fin _ _ (I.tok _))
  | str x =>
    cases bo_str hb
    obtain ⟨t, rfl⟩ := ru
    exact PySem.P.repr_of_str (fin _ _ (I.tok _)) hz
  | lst xs =>
    obtain ⟨p, vs, e, _⟩ := bo_lst hb
    exact big p e
  | tup xs =>
    obtain ⟨p, vs, e, _⟩ := bo_tup hb
    exact big p e
  | _ => cases f

/-! ### subscripts -/
theorem ixAt_eq (n : Nat) (i : Int) : ixN n i = ixAt n i := rfl
theorem RepL.at {B : Bs} {H : Hp} {O : Ad} {ds : List D} {vs : List V} {i : Int} {d : D} (r : RepL B H O ds vs) (h : getAt ds i = some d) : ∃ v, atI vs i = some v ∧ Rep B H O d v := by
  unfold getAt at h
  rw [Option.bind_eq_some_iff] at h
  obtain ⟨j, hj, e⟩ := h
  obtain ⟨v, e1, e2⟩ := r.get e
  refine ⟨v, ?_, e2⟩
  unfold atI
  rw [r.length, ixAt_eq, hj]
  exact e1
theorem idxD_calm (a b : D) : Calm (idxD a b) := by
  unfold idxD
  split <;> first | exact ofO_calm _ | exact calm_stuck | exact calm_ite (calm_map (ofO_calm _)) calm_stuck
/-- an item that is shared -/
theorem sh_ra {B : Bs} {hd : Ad} {H₀ H : Hp} {O : Ad} {d : D} {v : V} (h : Rep B H O d v) : RepX B hd H₀ H O .sh d v := h
def rIx2 (B : Bs) : R2 := fun x y H Q => ∃ (hd O : Ad) (a b d : D), RepX B hd H H O .bo a x ∧ RepX B hd H H O .bo b y ∧ idxD a b = .ok d ∧ ∀ v, Rep B H O d v → Q v H
theorem i_any : IxR X (rIx2 X.bs) := by
  intro value slice pins s σ H x y v u Q I rx ry h hs
  obtain ⟨hd, O, a, b, d, ha, hb, e, q⟩ := h
  unfold idxD at e
  split at e
  · obtain ⟨p, vs, rfl, h1, r1⟩ := bo_lst ha
    cases bo_int hb
    obtain ⟨z, e1, rz⟩ := r1.at (ofO_ok e)
    exact ix_list value slice pins s σ H _ _ v u Q I rx ry ⟨p, vs, _, z, rfl, rfl, .of h1, e1, q z rz⟩ hs
  · obtain ⟨p, vs, rfl, t1, h1, r1⟩ := bo_tup ha
    cases bo_int hb
    obtain ⟨z, e1, rz⟩ := r1.at (ofO_ok e)
    exact ix_tup value slice pins s σ H _ _ v u Q I rx ry ⟨p, vs, _, z, rfl, rfl, h1, e1, q z rz⟩ hs
  · obtain ⟨p, vs, rfl, h1, r1⟩ := bo_src ha
    cases bo_int hb
    obtain ⟨z, e1, rz⟩ := r1.at (ofO_ok e)
    exact ix_list value slice pins s σ H _ _ v u Q I rx ry ⟨p, vs, _, z, rfl, rfl, h1, e1, q z rz⟩ hs
  · obtain ⟨e1, e2⟩ := if_ok e
    obtain ⟨c, e3, e4⟩ := R.map_ok' e2
    subst e4
    cases bo_str ha
    cases bo_int hb
    have e5 := ofO_ok e3
    refine ix_str value slice pins s σ H _ _ v u Q I rx ry ⟨_, _, c, rfl, rfl, by rw [tx_len, ← SZ_eq]; exact e1, ?_, q _ rfl⟩ hs
    show atI (tx _).cps.toList _ = some c
    have : (tx ‹List Nat›).cps.toList = ‹List Nat› := by simp
    rw [this]
    exact e5
  · cases e
theorem e_idx {b : Expr} {mb : R D} (ha : JE X W c ρ .bo e m) (hb : JE X W c ρ .bo b mb) (hs : PlainIx b := by exact fun _ _ => rfl) : JE X W c ρ .sh (.Subscript e b pos) (l2 idxD m mb) :=
  PE.imp (pe_ix i_any ha hb hs) fun σ H Q q => by
    refine Wd.mono (Wd.bind q) fun da H1 g1 q1 x rx => ?_
    refine Wd.mono (Wd.bind q1) fun db H2 g2 q2 y ry => ?_
    obtain ⟨d, e, k⟩ := q2.val (idxD_calm da db)
    exact ⟨c.hd, OA c ρ σ, da, db, d, bo_at (RepX.pg g2 q1.1.hdO q.1.hth rx), bo_at ry, e, fun v r => k H2 (.refl _ _ _) v r⟩
end
end Ev


set_option Elab.async false
set_option linter.all false
set_option maxRecDepth 100000
/-! Ev, part N: least and greatest. -/
namespace Ev
open PySem PySem.Spec PyProof.Rows L2 PySem.W PySem.SeqAt

/-! ### the order of data -/
mutual
theorem cmps_alike : ∀ {a b : D}, cmps a b = true → alike (toP a) (toP b) = true
  | .int _, b, h => by cases b <;> simp_all [cmps, toP, alike]
  | .str _, b, h => by cases b <;> simp_all [cmps, toP, alike]
  | .tup xs, b, h => by
    cases b with
    | tup ys =>
      rw [cmps] at h
      simp only [toP, alike]
      exact cmpsL_alike h
    | _ => simp_all [cmps]
  | .non, b, h => by cases b <;> simp_all [cmps]
  | .bl _, b, h => by cases b <;> simp_all [cmps]
  | .lst _, b, h => by cases b <;> simp_all [cmps]
  | .src _, b, h => by cases b <;> simp_all [cmps]
  | .dct _ _, b, h => by cases b <;> simp_all [cmps]
  | .fn _, b, h => by cases b <;> simp_all [cmps]
  | .ins _ _ _, b, h => by cases b <;> simp_all [cmps]
theorem cmpsL_alike : ∀ {xs ys : List D}, cmpsL xs ys = true → alikeAll (toPL xs) (toPL ys) = true
  | [], ys, h => by cases ys <;> simp [toPL, alikeAll]
  | x :: xs, [], h => by simp [toPL, alikeAll]
  | x :: xs, y :: ys, h => by
    rw [cmpsL, Bool.and_eq_true] at h
    simp only [toPL, alikeAll]
    rw [cmps_alike h.1, cmpsL_alike h.2]; rfl
end
mutual
theorem dlt_of : ∀ {n m : Nat} {a b : D}, flat n a = true → flat m b = true → cmps a b = true → dataLt (toP a) (toP b) = ltb a b
  | _, _, .int _, b, f, f', h => by
    cases b with
    | int _ => simp only [toP, ltb]; rw [dataLt_int, cmpw]
    | _ => simp_all [cmps]
  | _, _, .str _, b, f, f', h => by
    cases b with
    | str _ => simp only [toP, ltb]; rw [dataLt_str, cmpw]
    | _ => simp_all [cmps]
  | n, m, .tup xs, b, f, f', h => by
    cases b with
    | tup ys =>
      rw [cmps] at h
      cases n with
      | zero => cases f
      | succ n =>
        cases m with
        | zero => cases f'
        | succ m =>
          simp only [toP]
          rw [dataLt_tuple, ltb, cmpw]
          exact rlt_of (flat_tup n xs ▸ f) (flat_tup m ys ▸ f') h
    | _ => simp_all [cmps]
  | _, _, .non, b, _, _, h => by cases b <;> simp_all [cmps]
  | _, _, .bl _, b, _, _, h => by cases b <;> simp_all [cmps]
  | _, _, .lst _, b, _, _, h => by cases b <;> simp_all [cmps]
  | _, _, .src _, b, _, _, h => by cases b <;> simp_all [cmps]
  | _, _, .dct _ _, b, _, _, h => by cases b <;> simp_all [cmps]
  | _, _, .fn _, b, _, _, h => by cases b <;> simp_all [cmps]
  | _, _, .ins _ _ _, b, _, _, h => by cases b <;> simp_all [cmps]
theorem rlt_of : ∀ {n m : Nat} {xs ys : List D}, flatL n xs = true → flatL m ys = true → cmpsL xs ys = true →
    PyProof.Rows.lexLt itemOrd (keyToksAll (toPL xs)) (keyToksAll (toPL ys)) = cmpwL (fun a b => decide (a < b)) (fun a b => decide (a < b)) (fun a b => decide (a < b)) xs ys
  | _, _, [], [], _, _, _ => by simp [toPL, cmpwL, lex_irrefl]
  | _, _, [], y :: ys, _, _, _ => by
    simp only [toPL, keyToksAll, cmpwL, List.length_cons]
    rw [decide_eq_true (by omega)]; rfl
  | _, _, x :: xs, [], _, _, _ => by
    simp only [toPL, keyToksAll, cmpwL, List.length_cons]
    rw [decide_eq_false (by omega)]; rfl
  | n, m, x :: xs, y :: ys, f, f', h => by
    rw [cmpsL, Bool.and_eq_true] at h
    rw [flatL_cons, Bool.and_eq_true] at f f'
    simp only [toPL]
    rw [dataLt_cons (cmps_alike h.1), eqv_toP f.1 f'.1, cmpwL, rlt_of f.2 f'.2 h.2, dlt_of f.1 f'.1 h.1]
    rfl
end
theorem toPL_mapN : ∀ xs : List D, toPL xs = xs.map toP
  | [] => rfl
  | x :: xs => by rw [toPL, toPL_mapN xs]; rfl
theorem toPL_atN (xs : List D) (i : Nat) : (toPL xs).getD i .none = toP (xs.getD i .non) := by
  rw [toPL_mapN, List.getD_eq_getElem?_getD, List.getD_eq_getElem?_getD, List.getElem?_map]
  cases xs[i]? with
  | none => simp [toP]
  | some x => rfl
theorem cmps_kind {a b : D} (h : cmps a b = true) : toP a ≠ .none := by
  cases a <;> simp_all [cmps, toP]
/-- what can be told apart -/
structure OkAll (xs : List D) : Prop where
  f : flatL 60 xs = true
  c : ∀ x ∈ xs, ∀ y ∈ xs, cmps x y = true
theorem okAll_ok {xs : List D} (h : okAll xs = true) : OkAll xs := by
  unfold okAll at h
  rw [Bool.and_eq_true, List.all_eq_true] at h
  exact ⟨h.1, fun x hx y hy => List.all_eq_true.mp (h.2 x hx) y hy⟩
theorem OkAll.alike {xs : List D} (h : OkAll xs) : AlikeAll (toPL xs) := by
  rw [toPL_mapN]
  refine ⟨fun p hp q hq => ?_, fun p hp => ?_⟩
  · obtain ⟨x, hx, rfl⟩ := List.mem_map.mp hp
    obtain ⟨y, hy, rfl⟩ := List.mem_map.mp hq
    exact cmps_alike (h.c x hx y hy)
  · obtain ⟨x, hx, rfl⟩ := List.mem_map.mp hp
    exact cmps_kind (h.c x hx x hx)
theorem OkAll.lt {xs : List D} (h : OkAll xs) {x y : D} (hx : x ∈ xs) (hy : y ∈ xs) : dataLt (toP x) (toP y) = ltb x y := dlt_of (flatL_mem h.f x hx) (flatL_mem h.f y hy) (h.c x hx y hy)
/-- a fold that keeps one of two -/
theorem fold_same {f g : D → D → Bool} {all : List D} (h : ∀ x ∈ all, ∀ y ∈ all, f x y = g x y) : ∀ {xs : List D} {x : D}, x ∈ all → (∀ y ∈ xs, y ∈ all) → xs.foldl (fun a y => if f y a = true then y else a) x = xs.foldl (fun a y => if g y a = true then y else a) x
  | [], _, _, _ => rfl
  | y :: xs, x, hx, hs => by
    rw [List.foldl_cons, List.foldl_cons, h y (hs y List.mem_cons_self) x hx]
    refine fold_same h ?_ fun z hz => hs z (List.mem_cons_of_mem _ hz)
    split
    · exact hs y List.mem_cons_self
    · exact hx
theorem best_min {x : D} {xs : List D} (h : OkAll (x :: xs)) : (x :: xs).getD (argBest (fun i j => dataLt ((toPL (x :: xs)).getD i .none) ((toPL (x :: xs)).getD j .none)) xs.length) .non = xs.foldl (fun a y => if ltb y a = true then y else a) x := by
  have e : (fun i j => dataLt ((toPL (x :: xs)).getD i .none) ((toPL (x :: xs)).getD j .none)) = fun i j => (fun a b => dataLt (toP a) (toP b)) ((x :: xs).getD i .non) ((x :: xs).getD j .non) := by
    funext i j
    rw [toPL_atN, toPL_atN]
  rw [e]
  have := (argBest_fold (fun a b => dataLt (toP a) (toP b)) D.non x xs xs.length (Nat.le_refl _)).2
  rw [this, List.take_length]
  exact fold_same (all := x :: xs) (fun a ha b hb => h.lt ha hb) List.mem_cons_self fun y hy => List.mem_cons_of_mem _ hy
theorem best_max {x : D} {xs : List D} (h : OkAll (x :: xs)) : (x :: xs).getD (argBest (fun i j => dataLt ((toPL (x :: xs)).getD j .none) ((toPL (x :: xs)).getD i .none)) xs.length) .non = xs.foldl (fun a y => if ltb a y = true then y else a) x := by
  have e : (fun i j => dataLt ((toPL (x :: xs)).getD j .none) ((toPL (x :: xs)).getD i .none)) = fun i j => (fun a b => dataLt (toP b) (toP a)) ((x :: xs).getD i .non) ((x :: xs).getD j .non) := by
    funext i j
    rw [toPL_atN, toPL_atN]
  rw [e]
  have := (argBest_fold (fun a b => dataLt (toP b) (toP a)) D.non x xs xs.length (Nat.le_refl _)).2
  rw [this, List.take_length]
  exact fold_same (f := fun a b => dataLt (toP b) (toP a)) (g := fun a b => ltb b a) (all := x :: xs) (fun a ha b hb => h.lt hb ha) List.mem_cons_self fun y hy => List.mem_cons_of_mem _ hy

/-! ### min(a, b), max(a, b) where the heap is read -/
section
variable {pr : Program} {wo : World} {A : Around} {E : Value → Shared → Prop} {z : Shared}
theorem two_minH {u t : Value} {Q : Value → Shared → Prop}
    (h : wpAny (model pr wo) A.in1 (pyIter (.ref z.heap.objs.size)) (fun it z2 => ∃ I fp wr G n P St H bt, it = .ref I ∧ WalksS pr wo A.in1 I fp wr G n P St ∧ St 0 z2 ∧ (∀ b ∈ fp, b < z2.heap.objs.size) ∧ 0 < n ∧
      (∀ b o, Heap.get? H b = some o → b ∉ wr) ∧ (∀ b o, Heap.get? H b = some o → z2.heap.get? b = some o) ∧ CmpIn pr wo A.in1 .Lt H P bt ∧ ∀ v y, P (argBest bt (n - 1)) v → Moved wr G z2 y → Q v y) E
      { z with heap := z.heap.push { cls := .type "tuple", data := .seq #[u, t] } }) :
    wpAny (model pr wo) A (call (.builtin "min") [u, t]) Q E z := by
  have nm : (toString "min" ++ toString ".loop" : String) = "min.loop" := by decide
  refine call_function_tree F.kind_min F.plain_min F.entry_min (F.args_min2 u t) ?_
  show wpAny _ A.in1 (Builtin.Builtins.bindParams "min" ["key", "default"] 0 ⟨[], []⟩ >>= _) _ _ z
  refine wpAny_bind (wpAny_of_eq (a := [none, none]) rfl ?_)
  show wpAny _ A.in1 (newTuple [u, t] >>= _) _ _ z
  refine wpAny_bind (wpAny_newObj_type (wpAny_bind (wpAny_mono h (fun it z2 q => ?_) fun _ _ e => e)))
  obtain ⟨I, fp, wr, G, n, P, St, H, bt, rfl, W, st0, below, pos, apart, kept, cmp, fin⟩ := q
  refine wpAny_bind (wpAny_newObj_type ?_)
  rw [nm]
  refine wpAny_pure ⟨plainId_quiet F.plain_min_loop _, ?_⟩
  refine codeAny_min_loop_firstH W H apart bt cmp z2.heap.objs.size (fun m => Nat.lt_irrefl _ (below _ m)) (fresh_in kept) _ pos (fun b o e => Heap.get?_push_of_some _ (kept b o e)) ?_ (Heap.get?_push_size _ rfl) fun v y hP mv => ?_
  · exact W.frame 0 z2 _ z2.toks st0 (Nat.le_refl _) fun b _ o e => Heap.get?_push_of_some _ e
  · exact fin v y hP (Moved.drop_new (tk := z2.toks) mv (Nat.le_refl _))
theorem two_maxH {u t : Value} {Q : Value → Shared → Prop}
    (h : wpAny (model pr wo) A.in1 (pyIter (.ref z.heap.objs.size)) (fun it z2 => ∃ I fp wr G n P St H bt, it = .ref I ∧ WalksS pr wo A.in1 I fp wr G n P St ∧ St 0 z2 ∧ (∀ b ∈ fp, b < z2.heap.objs.size) ∧ 0 < n ∧
      (∀ b o, Heap.get? H b = some o → b ∉ wr) ∧ (∀ b o, Heap.get? H b = some o → z2.heap.get? b = some o) ∧ CmpIn pr wo A.in1 .Gt H P bt ∧ ∀ v y, P (argBest bt (n - 1)) v → Moved wr G z2 y → Q v y) E
      { z with heap := z.heap.push { cls := .type "tuple", data := .seq #[u, t] } }) :
    wpAny (model pr wo) A (call (.builtin "max") [u, t]) Q E z := by
  have nm : (toString "max" ++ toString ".loop" : String) = "max.loop" := by decide
  refine call_function_tree F.kind_max F.plain_max F.entry_max (F.args_max2 u t) ?_
  show wpAny _ A.in1 (Builtin.Builtins.bindParams "max" ["key", "default"] 0 ⟨[], []⟩ >>= _) _ _ z
  refine wpAny_bind (wpAny_of_eq (a := [none, none]) rfl ?_)
  show wpAny _ A.in1 (newTuple [u, t] >>= _) _ _ z
  refine wpAny_bind (wpAny_newObj_type (wpAny_bind (wpAny_mono h (fun it z2 q => ?_) fun _ _ e => e)))
  obtain ⟨I, fp, wr, G, n, P, St, H, bt, rfl, W, st0, below, pos, apart, kept, cmp, fin⟩ := q
  refine wpAny_bind (wpAny_newObj_type ?_)
  rw [nm]
  refine wpAny_pure ⟨plainId_quiet F.plain_max_loop _, ?_⟩
  refine codeAny_max_loop_firstH W H apart bt cmp z2.heap.objs.size (fun m => Nat.lt_irrefl _ (below _ m)) (fresh_in kept) _ pos (fun b o e => Heap.get?_push_of_some _ (kept b o e)) ?_ (Heap.get?_push_size _ rfl) fun v y hP mv => ?_
  · exact W.frame 0 z2 _ z2.toks st0 (Nat.le_refl _) fun b _ o e => Heap.get?_push_of_some _ e
  · exact fin v y hP (Moved.drop_new (tk := z2.toks) mv (Nat.le_refl _))
end
/-! ### the readings -/
theorem min2D_calm (a b : D) : Calm (min2D a b) := by
  unfold min2D
  split <;> first | exact calm_ok | exact calm_stuck | exact calm_ite calm_ok calm_stuck
theorem max2D_calm (a b : D) : Calm (max2D a b) := by
  unfold max2D
  split <;> first | exact calm_ok | exact calm_stuck | exact calm_ite calm_ok calm_stuck
theorem leastL_calm (xs : List D) : Calm (leastL xs) := by
  cases xs with
  | nil => exact calm_stuck
  | cons x xs => exact calm_ite calm_ok calm_stuck
theorem mostL_calm (xs : List D) : Calm (mostL xs) := by
  cases xs with
  | nil => exact calm_stuck
  | cons x xs => exact calm_ite calm_ok calm_stuck
theorem minLD_calm (a : D) : Calm (minLD a) := by
  unfold minLD
  split <;> first | exact leastL_calm _ | exact calm_stuck
theorem maxLD_calm (a : D) : Calm (maxLD a) := by
  unfold maxLD
  split <;> first | exact mostL_calm _ | exact calm_stuck
theorem leastL_ok {xs : List D} {d : D} (h : leastL xs = .ok d) : ∃ y ys, xs = y :: ys ∧ OkAll (y :: ys) ∧ ys.foldl (fun a y => if ltb y a = true then y else a) y = d := by
  cases xs with
  | nil => cases h
  | cons y ys =>
    obtain ⟨ok, e⟩ := if_ok (show (if okAll (y :: ys) = true then R.ok _ else .stuck) = .ok d from h)
    exact ⟨y, ys, rfl, okAll_ok ok, R.inj e⟩
theorem mostL_ok {xs : List D} {d : D} (h : mostL xs = .ok d) : ∃ y ys, xs = y :: ys ∧ OkAll (y :: ys) ∧ ys.foldl (fun a y => if ltb a y = true then y else a) y = d := by
  cases xs with
  | nil => cases h
  | cons y ys =>
    obtain ⟨ok, e⟩ := if_ok (show (if okAll (y :: ys) = true then R.ok _ else .stuck) = .ok d from h)
    exact ⟨y, ys, rfl, okAll_ok ok, R.inj e⟩
section
variable {X : Cx}
/-- the one picked stands for what is picked -/
theorem pick {H H₀ : Hp} {hd O : Ad} {ys : List D} {vs : List V} {its : List Value} (hk : OkAll ys) (r1 : RepL X.bs H O ys vs) (rv : Vals vs its) {i : Nat} {u : Value} (e : its.toArray[i]? = some u) {d : D} (g : ys.getD i .non = d) :
    ∃ w, RelV w u ∧ RepX X.bs hd H₀ H O .ra d w := by
  have e1 : its[i]? = some u := by simpa using e
  have hi : i < vs.length := by
    rw [rv.length]
    exact (List.getElem?_eq_some_iff.mp e1).1
  obtain ⟨w, hw⟩ : ∃ w, vs[i]? = some w := ⟨vs[i], List.getElem?_eq_getElem hi⟩
  obtain ⟨u', e2, ru⟩ := rv.get hw
  rw [e1] at e2
  cases e2
  obtain ⟨d', hd', rd⟩ := r1.getV hw
  have e3 : d' = d := by rw [← g, List.getD_eq_getElem?_getD, hd']; rfl
  subst e3
  refine ⟨w, ru, ?_⟩
  have := hk.c d' (List.mem_of_getElem? hd') d' (List.mem_of_getElem? hd')
  cases d' <;> first | exact rd | simp [cmps] at this
theorem roomN (hu : X.A.units + 65 < cLine) {ys : List D} (h : OkAll ys) : X.A.in1.units + PyData.depthAll (toPL ys) < cLine := by
  have := deepL_of h.f
  show X.A.units + 1 + _ < _
  omega
theorem readN {pins : List (Addr × Obj)} {σ : L2.St} {H : Hp} {s : Shared} (I : Inv X pins σ H s) {O : Ad} {ys : List D} {vs : List V} {its : List Value} (hk : OkAll ys) (r1 : RepL X.bs H O ys vs) (rv : Vals vs its) : ∃ as, ReadsAll s.heap its.toArray.toList (toPL ys) as := by
  obtain ⟨as, rd⟩ := Dp.readsAll I _ vs its (RepL.dp hk.f r1) rv
  exact ⟨as, by simpa using rd⟩
theorem c_minL (hc : X.calm = true) (hu : X.A.units + 65 < cLine) : CallR X (.builtin "min") (rDC X.bs (un1 minLD)) := by
  intro pins s σ H xs us Q I r h
  obtain ⟨hdd, O, ds, d, hO, hb0, e0, q⟩ := h
  obtain ⟨a, rfl, e⟩ := un1_ok e0
  obtain ⟨v, rfl, hb⟩ := hb0.one
  obtain ⟨u, rfl, ru⟩ := vals1 r
  have hh := I.ok.hd hc
  unfold minLD at e
  split at e
  · obtain ⟨p, vs, rfl, h1, r1⟩ := bo_lst hb
    cases ru
    obtain ⟨its, rv, hl, _⟩ := I.list (.of h1)
    obtain ⟨y, ys, rfl, hk, g⟩ := leastL_ok e
    obtain ⟨as, rd⟩ := readN I hk r1 rv
    have hn : its.toArray.size = ys.length + 1 := by rw [List.size_toArray, ← rv.length, r1.length]; rfl
    refine call_min_walkH (iter_listW (A := X.A.in1) hh hl.isList fun s2 e2 W st hfp hw hk' => ?_)
    refine ⟨_, _, _, _, _, _, _, s.heap, _, rfl, W, st, hfp, by omega, hw, hk', cmpIn_lt (A := X.A.in1) rd hk.alike (roomN hu hk), fun v s' hP m => ?_⟩
    obtain ⟨h', tk, rfl, hk2⟩ := moved_old e2 rfl m
    rw [hn, Nat.add_sub_cancel] at hP
    obtain ⟨w, rw', rx⟩ := pick (hd := hdd) (H₀ := H) hk r1 rv hP ((best_min hk).trans g)
    exact ⟨w, H, I.kept hk2, rw', q w H (Gr.refl _) rx⟩
  · obtain ⟨p, vs, rfl, t1, h1, r1⟩ := bo_tup hb
    cases ru
    obtain ⟨its, rv, hl, _⟩ := I.tuple h1
    obtain ⟨y, ys, rfl, hk, g⟩ := leastL_ok e
    obtain ⟨as, rd⟩ := readN I hk r1 rv
    have hn : its.toArray.size = ys.length + 1 := by rw [List.size_toArray, ← rv.length, r1.length]; rfl
    refine call_min_walkH (iter_tupleW (A := X.A.in1) hh hl fun s2 e2 W st hfp hw hk' => ?_)
    refine ⟨_, _, _, _, _, _, _, s.heap, _, rfl, W, st, hfp, by omega, hw, hk', cmpIn_lt (A := X.A.in1) rd hk.alike (roomN hu hk), fun v s' hP m => ?_⟩
    obtain ⟨h', tk, rfl, hk2⟩ := moved_old e2 rfl m
    rw [hn, Nat.add_sub_cancel] at hP
    obtain ⟨w, rw', rx⟩ := pick (hd := hdd) (H₀ := H) hk r1 rv hP ((best_min hk).trans g)
    exact ⟨w, H, I.kept hk2, rw', q w H (Gr.refl _) rx⟩
  · cases e
theorem c_min2 (hc : X.calm = true) (hu : X.A.units + 65 < cLine) : CallR X (.builtin "min") (rDC X.bs (un2 min2D)) := by
  intro pins s σ H xs us Q I r h
  obtain ⟨hdd, O, ds, d, hO, hb0, e0, q⟩ := h
  obtain ⟨a, b, rfl, e⟩ := un2_ok e0
  obtain ⟨v, w, rfl, h1, h2⟩ := hb0.two
  unfold min2D at e
  split at e
  · cases e
    cases bo_int h1
    cases bo_int h2
    exact call_min2 hc pins s σ H _ us Q I r ⟨_, _, rfl, q _ H (Gr.refl _) rfl⟩
  · obtain ⟨p1, vs1, rfl, t1, _, r1⟩ := bo_tup h1
    obtain ⟨p2, vs2, rfl, t2, _, r2⟩ := bo_tup h2
    obtain ⟨y, ys, e1, hk, g⟩ := leastL_ok e
    cases e1
    have rr : RepL X.bs H O [_, _] [V.ref p1, V.ref p2] := .cons (d := .tup _) ⟨p1, vs1, rfl, t1, r1⟩ (.cons (d := .tup _) ⟨p2, vs2, rfl, t2, r2⟩ .nil)
    obtain ⟨as, rd⟩ := readN I hk rr r
    obtain ⟨u, t, rfl, _, _⟩ := vals2 r
    have hh := I.ok.hd hc
    refine two_minH (z := s) (iter_tupleW (vs := #[u, t]) (A := X.A.in1) hh ⟨_, Heap.get?_push_size _ rfl, rfl, 0, rfl⟩ fun s2 e2 W st hfp hw hk' => ?_)
    refine ⟨_, _, _, _, _, _, _, s.heap, _, rfl, W, st, hfp, Nat.zero_lt_succ _, fun b o z => hw b o (Heap.get?_push_of_some _ z), fun b o z => hk' b o (Heap.get?_push_of_some _ z), cmpIn_lt (A := X.A.in1) rd hk.alike (roomN hu hk), fun v s' hP m => ?_⟩
    obtain ⟨h', tk, rfl, hk2⟩ := moved_old e2 rfl m
    obtain ⟨w, rw', rx⟩ := pick (hd := hdd) (H₀ := H) hk rr r hP ((best_min hk).trans g)
    exact ⟨w, H, I.kept fun b o z => hk2 b o (Heap.get?_push_of_some _ z), rw', q w H (Gr.refl _) rx⟩
  · cases e
theorem c_maxL (hc : X.calm = true) (hu : X.A.units + 65 < cLine) : CallR X (.builtin "max") (rDC X.bs (un1 maxLD)) := by
  intro pins s σ H xs us Q I r h
  obtain ⟨hdd, O, ds, d, hO, hb0, e0, q⟩ := h
  obtain ⟨a, rfl, e⟩ := un1_ok e0
  obtain ⟨v, rfl, hb⟩ := hb0.one
  obtain ⟨u, rfl, ru⟩ := vals1 r
  have hh := I.ok.hd hc
  unfold maxLD at e
  split at e
  · obtain ⟨p, vs, rfl, h1, r1⟩ := bo_lst hb
    cases ru
    obtain ⟨its, rv, hl, _⟩ := I.list (.of h1)
    obtain ⟨y, ys, rfl, hk, g⟩ := mostL_ok e
    obtain ⟨as, rd⟩ := readN I hk r1 rv
    have hn : its.toArray.size = ys.length + 1 := by rw [List.size_toArray, ← rv.length, r1.length]; rfl
    refine call_max_walkH (iter_listW (A := X.A.in1) hh hl.isList fun s2 e2 W st hfp hw hk' => ?_)
    refine ⟨_, _, _, _, _, _, _, s.heap, _, rfl, W, st, hfp, by omega, hw, hk', cmpIn_gt (A := X.A.in1) rd hk.alike (roomN hu hk), fun v s' hP m => ?_⟩
    obtain ⟨h', tk, rfl, hk2⟩ := moved_old e2 rfl m
    rw [hn, Nat.add_sub_cancel] at hP
    obtain ⟨w, rw', rx⟩ := pick (hd := hdd) (H₀ := H) hk r1 rv hP ((best_max hk).trans g)
    exact ⟨w, H, I.kept hk2, rw', q w H (Gr.refl _) rx⟩
  · obtain ⟨p, vs, rfl, t1, h1, r1⟩ := bo_tup hb
    cases ru
    obtain ⟨its, rv, hl, _⟩ := I.tuple h1
    obtain ⟨y, ys, rfl, hk, g⟩ := mostL_ok e
    obtain ⟨as, rd⟩ := readN I hk r1 rv
    have hn : its.toArray.size = ys.length + 1 := by rw [List.size_toArray, ← rv.length, r1.length]; rfl
    refine call_max_walkH (iter_tupleW (A := X.A.in1) hh hl fun s2 e2 W st hfp hw hk' => ?_)
    refine ⟨_, _, _, _, _, _, _, s.heap, _, rfl, W, st, hfp, by omega, hw, hk', cmpIn_gt (A := X.A.in1) rd hk.alike (roomN hu hk), fun v s' hP m => ?_⟩
    obtain ⟨h', tk, rfl, hk2⟩ := moved_old e2 rfl m
    rw [hn, Nat.add_sub_cancel] at hP
    obtain ⟨w, rw', rx⟩ := pick (hd := hdd) (H₀ := H) hk r1 rv hP ((best_max hk).trans g)
    exact ⟨w, H, I.kept hk2, rw', q w H (Gr.refl _) rx⟩
  · cases e
theorem c_max2 (hc : X.calm = true) (hu : X.A.units + 65 < cLine) : CallR X (.builtin "max") (rDC X.bs (un2 max2D)) := by
  intro pins s σ H xs us Q I r h
  obtain ⟨hdd, O, ds, d, hO, hb0, e0, q⟩ := h
  obtain ⟨a, b, rfl, e⟩ := un2_ok e0
  obtain ⟨v, w, rfl, h1, h2⟩ := hb0.two
  unfold max2D at e
  split at e
  · cases e
    cases bo_int h1
    cases bo_int h2
    exact call_max2 hc pins s σ H _ us Q I r ⟨_, _, rfl, q _ H (Gr.refl _) rfl⟩
  · obtain ⟨p1, vs1, rfl, t1, _, r1⟩ := bo_tup h1
    obtain ⟨p2, vs2, rfl, t2, _, r2⟩ := bo_tup h2
    obtain ⟨y, ys, e1, hk, g⟩ := mostL_ok e
    cases e1
    have rr : RepL X.bs H O [_, _] [V.ref p1, V.ref p2] := .cons (d := .tup _) ⟨p1, vs1, rfl, t1, r1⟩ (.cons (d := .tup _) ⟨p2, vs2, rfl, t2, r2⟩ .nil)
    obtain ⟨as, rd⟩ := readN I hk rr r
    obtain ⟨u, t, rfl, _, _⟩ := vals2 r
    have hh := I.ok.hd hc
    refine two_maxH (z := s) (iter_tupleW (vs := #[u, t]) (A := X.A.in1) hh ⟨_, Heap.get?_push_size _ rfl, rfl, 0, rfl⟩ fun s2 e2 W st hfp hw hk' => ?_)
    refine ⟨_, _, _, _, _, _, _, s.heap, _, rfl, W, st, hfp, Nat.zero_lt_succ _, fun b o z => hw b o (Heap.get?_push_of_some _ z), fun b o z => hk' b o (Heap.get?_push_of_some _ z), cmpIn_gt (A := X.A.in1) rd hk.alike (roomN hu hk), fun v s' hP m => ?_⟩
    obtain ⟨h', tk, rfl, hk2⟩ := moved_old e2 rfl m
    obtain ⟨w, rw', rx⟩ := pick (hd := hdd) (H₀ := H) hk rr r hP ((best_max hk).trans g)
    exact ⟨w, H, I.kept fun b o z => hk2 b o (Heap.get?_push_of_some _ z), rw', q w H (Gr.refl _) rx⟩
  · cases e
end
end Ev


set_option Elab.async false
set_option linter.all false
set_option maxRecDepth 100000
/-! Ev, part S: statements. -/
namespace Ev
open PySem PySem.Spec PyProof.Rows L2

/-! ### how the frame moves on -/
section
variable {B : Bs} {c : Fr} {ρ ρ' : List Sl} {σ σ' : L2.St} {H H' : Hp} {i : Nat} {d d' : D} {v : V} {a : Addr}
theorem ix_set {α : Type} {l : List α} {i j : Nat} {x y : α} (h : (l.set i x)[j]? = some y) : (i = j ∧ y = x ∧ i < l.length) ∨ (i ≠ j ∧ l[j]? = some y) := by
  by_cases e : i = j
  · subst e
    by_cases hl : i < l.length
    · rw [List.getElem?_set_self hl] at h
      exact .inl ⟨rfl, (Option.some.inj h).symm, hl⟩
    · rw [List.getElem?_eq_none (by simpa using hl)] at h
      cases h
  · rw [List.getElem?_set_ne e] at h
    exact .inr ⟨e, h⟩
/-- a slot is stored into: what is in hand is no more than it was -/
theorem hand_set {s : Sl} {v : Option V} (n : ∀ d, s ≠ .ow d) (h : inHand (ρ.set i s) (σ.set i v) a) : inHand ρ σ a := by
  obtain ⟨j, d, e1, e2⟩ := h
  rcases ix_set e1 with ⟨_, e, _⟩ | ⟨e, e1⟩
  · exact absurd e.symm (n d)
  · rw [List.getElem?_set_ne e] at e2
    exact ⟨j, d, e1, e2⟩
/-- fewer slots are known -/
theorem WI.sub (w : WI B c ρ σ H) (len : ρ'.length = σ'.length) (hk : ∀ (j : Nat) (s : Sl), ρ'[j]? = some s → s = Sl.no ∨ (ρ[j]? = some s ∧ σ'[j]? = σ[j]?)) : WI B c ρ' σ' H := by
  have hi : ∀ a, inHand ρ' σ' a → inHand ρ σ a := fun a ⟨j, d, e1, e2⟩ => by
    rcases hk j _ e1 with e | ⟨e, e3⟩
    · cases e
    · exact ⟨j, d, e, by rw [← e3]; exact e2⟩
  have ho : ∀ a, OA c ρ' σ' a → OA c ρ σ a := fun a z => z.imp id (hi a)
  refine ⟨len, fun j d e => ?_, fun j d e => ?_, fun j e => ?_, fun j u e => ((hk j _ e).elim (fun z => by cases z) fun z => by rw [z.2]; exact w.vas j u z.1), fun j k d e a e1 e2 e3 e4 => ?_, w.o0, w.hdo, fun a z => let ⟨p, q, n⟩ := w.hds a z; ⟨p, q, fun y => n (ho p y)⟩, w.ext, w.h00, w.tbs, w.snE, w.snT, fun Hs Os z a q => w.snO Hs Os z a (ho a q), w.snH⟩
  · rcases hk j _ e with z | ⟨z, y⟩
    · cases z
    · obtain ⟨v, e1, r⟩ := w.shs j d z
      exact ⟨v, by rw [y]; exact e1, r.less ho⟩
  · rcases hk j _ e with z | ⟨z, y⟩
    · cases z
    · obtain ⟨a, e1, r, f⟩ := w.ows j d z
      exact ⟨a, by rw [y]; exact e1, r.less ho, f⟩
  · rcases hk j _ e with z | ⟨z, y⟩
    · cases z
    · obtain ⟨a, e1, f⟩ := w.hsl j z
      exact ⟨a, by rw [y]; exact e1, f⟩
  · rcases hk j _ e1 with z | ⟨z, y⟩
    · cases z
    · rcases hk k _ e2 with z' | ⟨z', y'⟩
      · cases z'
      · exact w.dj j k d e a z z' (by rw [← y]; exact e3) (by rw [← y']; exact e4)
/-- data is stored -/
theorem WI.setSh (w : WI B c ρ σ H) (hi : i < ρ.length) (r : Rep B H (OA c ρ σ) d v) : WI B c (ρ.set i (.sh d)) (σ.set i (some v)) H := by
  have ho : ∀ a, OA c (ρ.set i (.sh d)) (σ.set i (some v)) a → OA c ρ σ a := fun a z => z.imp id (hand_set fun d e => by cases e)
  refine ⟨by rw [List.length_set, List.length_set]; exact w.len, fun j d' e => ?_, fun j d' e => ?_, fun j e => ?_, fun j u e => ((ix_set e).elim (fun z => by cases z.2.1) fun z => by rw [List.getElem?_set_ne z.1]; exact w.vas j u z.2), fun j k d' e' a e1 e2 e3 e4 => ?_, w.o0, w.hdo, fun a z => let ⟨p, q, n⟩ := w.hds a z; ⟨p, q, fun y => n (ho p y)⟩, w.ext, w.h00, w.tbs, w.snE, w.snT, fun Hs Os z a q => w.snO Hs Os z a (ho a q), w.snH⟩
  · rcases ix_set e with ⟨rfl, e, _⟩ | ⟨n, e⟩
    · cases e
      exact ⟨v, by rw [List.getElem?_set_self (by rw [← w.len]; exact hi)], r.less ho⟩
    · obtain ⟨u, e1, r⟩ := w.shs j d' e
      exact ⟨u, by rw [List.getElem?_set_ne n]; exact e1, r.less ho⟩
  · rcases ix_set e with ⟨rfl, e, _⟩ | ⟨n, e⟩
    · cases e
    · obtain ⟨a, e1, r, f⟩ := w.ows j d' e
      exact ⟨a, by rw [List.getElem?_set_ne n]; exact e1, r.less ho, f⟩
  · rcases ix_set e with ⟨rfl, e, _⟩ | ⟨n, e⟩
    · cases e
    · obtain ⟨a, e1, f⟩ := w.hsl j e
      exact ⟨a, by rw [List.getElem?_set_ne n]; exact e1, f⟩
  · rcases ix_set e1 with ⟨rfl, e, _⟩ | ⟨n, e1⟩
    · cases e
    · rcases ix_set e2 with ⟨rfl, e, _⟩ | ⟨n', e2⟩
      · cases e
      · rw [List.getElem?_set_ne n] at e3
        rw [List.getElem?_set_ne n'] at e4
        exact w.dj j k d' e' a e1 e2 e3 e4
/-- a new object is stored: from now on it is in hand -/
theorem WI.setRa (w : WI B c ρ σ H) (g : Pg c.T c.hd H H') (hi : i < ρ.length) (ho : ∃ d', ownD d = .ok d') (r : RepX B c.hd H H' (OA c ρ σ) .ra d v) : WI B c (ρ.set i (.ow d)) (σ.set i (some v)) H' := by
  obtain ⟨a, rfl, hn, r⟩ : ∃ a, v = .ref a ∧ Fre H a ∧ OwnAt B H' (fun b => OA c ρ σ b ∨ b = a) d a := by
    cases d with
    | lst ds => exact r
    | dct ks ds => exact r
    | _ => obtain ⟨_, e⟩ := ho; cases e
  have w' := w.pg g
  have hhd : ¬ c.hd a := fun z => hn.no (w.hth a z)
  have hOA : ∀ b, OA c (ρ.set i (.ow d)) (σ.set i (some (.ref a))) b → OA c ρ σ b ∨ b = a := fun b z => by
    rcases z with z | ⟨j, d', e1, e2⟩
    · exact .inl (.inl z)
    · rcases ix_set e1 with ⟨rfl, _, _⟩ | ⟨n, e1⟩
      · rw [List.getElem?_set_self (by rw [← w.len]; exact hi)] at e2
        cases e2
        exact .inr rfl
      · rw [List.getElem?_set_ne n] at e2
        exact .inl (.inr ⟨j, d', e1, e2⟩)
  have k : Kp H H' (OA c ρ σ) (OA c (ρ.set i (.ow d)) (σ.set i (some (.ref a)))) := .of fun b u t e n => ⟨g.kp b u t e fun z => n (w.hdO b z), fun z => (hOA b z).elim n fun z => hn.no ⟨u, t, by rw [← z]; exact e⟩⟩
  refine ⟨by rw [List.length_set, List.length_set]; exact w.len, fun j d' e => ?_, fun j d' e => ?_, fun j e => ?_, fun j u e => ((ix_set e).elim (fun z => by cases z.2.1) fun z => by rw [List.getElem?_set_ne z.1]; exact w.vas j u z.2), fun j k d' e' b e1 e2 e3 e4 => ?_, w'.o0, w.hdo, fun b z => ?_, w'.ext, w.h00, w'.tbs, w'.snE, w'.snT, fun Hs Os z b q => ?_, w.snH⟩
  · rcases ix_set e with ⟨rfl, e, _⟩ | ⟨n, e⟩
    · cases e
    · obtain ⟨u, e1, r⟩ := w.shs j d' e
      exact ⟨u, by rw [List.getElem?_set_ne n]; exact e1, r.kp k⟩
  · rcases ix_set e with ⟨rfl, e, _⟩ | ⟨n, e⟩
    · cases e
      exact ⟨a, by rw [List.getElem?_set_self (by rw [← w.len]; exact hi)], r.less hOA, w.fresh hn, hhd, fun z => hn.no (w.o0 a z)⟩
    · obtain ⟨b, e1, r, f, m, m2⟩ := w.ows j d' e
      exact ⟨b, by rw [List.getElem?_set_ne n]; exact e1, r.kp k fun u t e => g.kp b u t e m, f, m, m2⟩
  · rcases ix_set e with ⟨rfl, e, _⟩ | ⟨n, e⟩
    · cases e
    · obtain ⟨b, e1, f⟩ := w.hsl j e
      exact ⟨b, by rw [List.getElem?_set_ne n]; exact e1, f⟩
  · have alone : ∀ (k : Nat) (e : D), ρ[k]? = some (.ow e) → σ[k]? = some (some (.ref a)) → False := fun k e e1 e2 => by
      obtain ⟨b, e3, r, _⟩ := w.ows k e e1
      rw [e2] at e3
      cases e3
      exact hn.no r.thr
    have self : ∀ b, (σ.set i (some (V.ref a)))[i]? = some (some (.ref b)) → b = a := fun b e => by
      rw [List.getElem?_set_self (by rw [← w.len]; exact hi)] at e
      cases e; rfl
    rcases ix_set e1 with ⟨rfl, _, _⟩ | ⟨n, e1⟩
    · rcases ix_set e2 with ⟨rfl, _, _⟩ | ⟨n', e2⟩
      · rfl
      · cases self b e3
        rw [List.getElem?_set_ne n'] at e4
        exact (alone k e' e2 e4).elim
    · rcases ix_set e2 with ⟨rfl, _, _⟩ | ⟨n', e2⟩
      · cases self b e4
        rw [List.getElem?_set_ne n] at e3
        exact (alone j d' e1 e3).elim
      · rw [List.getElem?_set_ne n] at e3
        rw [List.getElem?_set_ne n'] at e4
        exact w.dj j k d' e' b e1 e2 e3 e4
  · obtain ⟨p, q, n⟩ := w.hds b z
    refine ⟨p, g.hs b p z q, fun y => (hOA p y).elim n fun y => ?_⟩
    exact hn.no (by rw [← y]; exact q.cells)
  · rcases hOA b q with q | rfl
    · exact w.snO Hs Os z b q
    · exact .inl fun u q t => hn.no (w.snT Hs Os z b ⟨u, t, q⟩)
/-- what is in hand is changed -/
theorem WI.upd {u : HO} {d0 : D} (w : WI B c ρ σ H) (e1 : ρ[i]? = some (.ow d0)) (e2 : σ[i]? = some (some (.ref a))) (r : OwnAt B (L2.upd H a u) (OA c ρ σ) d a) : WI B c (ρ.set i (.ow d)) σ (L2.upd H a u) := by
  obtain ⟨hi, _⟩ := List.getElem?_eq_some_iff.mp e1
  have ih : ∀ b, inHand (ρ.set i (.ow d)) σ b ↔ inHand ρ σ b := fun b => by
    constructor
    · rintro ⟨j, d', q1, q2⟩
      rcases ix_set q1 with ⟨rfl, _, _⟩ | ⟨n, q1⟩
      · exact ⟨i, d0, e1, q2⟩
      · exact ⟨j, d', q1, q2⟩
    · rintro ⟨j, d', q1, q2⟩
      by_cases n : i = j
      · subst n
        exact ⟨i, d, by rw [List.getElem?_set_self hi], q2⟩
      · exact ⟨j, d', by rw [List.getElem?_set_ne n]; exact q1, q2⟩
  have ho : OA c (ρ.set i (.ow d)) σ = OA c ρ σ := funext fun b => propext (or_congr Iff.rfl (ih b))
  have ha : OA c ρ σ a := .inr ⟨i, d0, e1, e2⟩
  obtain ⟨a', e3, r0, f0, n0, n1⟩ := w.ows i d0 e1
  rw [e2] at e3
  cases e3
  have up : ∀ b, Thr H b → Thr (L2.upd H a u) b := fun b h => by
    by_cases n : b = a
    · rw [n]; exact r.thr
    · obtain ⟨u1, t1, e1⟩ := h
      exact ⟨u1, t1, by rw [upd_ne n]; exact e1⟩
  have k : Kp H (L2.upd H a u) (OA c ρ σ) (OA c ρ σ) := .of fun b u' _ e n => ⟨by rw [upd_ne fun z => n (by rw [z]; exact ha)]; exact e, n⟩
  refine ⟨by rw [List.length_set]; exact w.len, fun j d' e => ?_, fun j d' e => ?_, fun j e => ?_, fun j u e => ((ix_set e).elim (fun z => by cases z.2.1) fun z => w.vas j u z.2), fun j k d' e' b q1 q2 q3 q4 => ?_, fun b z => ?_, w.hdo, fun b z => ?_, ⟨fun b u' t e n => ?_, fun b p z q => ?_, fun b h => ?_, fun h p hp => ?_⟩, w.h00, fun p hp => ?_, fun Hs Os z b u' t e n => ?_, fun Hs Os z b h => ?_, ?_, w.snH⟩
  · rw [ho]
    rcases ix_set e with ⟨rfl, e, _⟩ | ⟨n, e⟩
    · cases e
    · obtain ⟨v, q, r⟩ := w.shs j d' e
      exact ⟨v, q, r.kp k⟩
  · rw [ho]
    rcases ix_set e with ⟨rfl, e, _⟩ | ⟨n, e⟩
    · cases e
      exact ⟨a, e2, r, f0, n0, n1⟩
    · obtain ⟨b, q, r, f⟩ := w.ows j d' e
      refine ⟨b, q, r.kp k fun u' _ e' => ?_, f⟩
      rw [upd_ne fun z => n (w.dj i j d0 d' a e1 e e2 (by rw [← z]; exact q))]
      exact e'
  · rcases ix_set e with ⟨rfl, e, _⟩ | ⟨n, e⟩
    · cases e
    · exact w.hsl j e
  · have back : ∀ (j : Nat) (d' : D), (ρ.set i (.ow d))[j]? = some (.ow d') → ∃ d'', ρ[j]? = some (.ow d'') := fun j d' q => by
      rcases ix_set q with ⟨rfl, _, _⟩ | ⟨n, q⟩
      · exact ⟨_, e1⟩
      · exact ⟨_, q⟩
    obtain ⟨_, q1⟩ := back j d' q1
    obtain ⟨_, q2⟩ := back k e' q2
    exact w.dj j k _ _ b q1 q2 q3 q4
  · exact up b (w.o0 b z)
  · obtain ⟨p, ⟨cs, x, y, z', l, q, h1, h2⟩, n⟩ := w.hds b z
    rw [ho]
    refine ⟨p, ⟨cs, x, y, z', l, q, ?_, ?_⟩, n⟩
    · rw [upd_ne fun e => n0 (by rw [← e]; exact z)]; exact h1
    · rw [upd_ne fun e => n (by rw [e]; exact ha)]; exact h2
  · rw [upd_ne fun y => f0.no ⟨u', t, by rw [← y]; exact e⟩]
    exact w.ext.kp b u' t e n
  · have cp := q.cells
    obtain ⟨cs, x, y, z', l, q, h1, h2⟩ := w.ext.hs b p z q
    refine ⟨cs, x, y, z', l, q, ?_, ?_⟩
    · rw [upd_ne fun e => n0 (by rw [← e]; exact z)]; exact h1
    · rw [upd_ne fun e => f0.no (by rw [← e]; exact cp)]; exact h2
  · exact up b (w.ext.th b h)
  · obtain ⟨u1, e1, t1, x1⟩ := r0.kind
    exact tab_upd e1 t1 x1 (w.ext.tb h p hp)
  · obtain ⟨u1, e1, t1, x1⟩ := r0.kind
    exact tab_upd e1 t1 x1 (w.tbs p hp)
  · rw [upd_ne fun y => ?_]
    · exact w.snE Hs Os z b u' t e n
    · rcases w.snO Hs Os z a ha with q | q
      · exact q.no ⟨u', t, by rw [← y]; exact e⟩
      · exact n (by rw [y]; exact q)
  · exact up b (w.snT Hs Os z b h)
  · rw [ho]; exact w.snO

/-- what is in hand is given out: from now on it is data -/
theorem WI.frz (w : WI B c ρ σ H) (e1 : ρ[i]? = some (.ow d)) : WI B c (ρ.set i (.sh d)) σ H := by
  obtain ⟨hi, _⟩ := List.getElem?_eq_some_iff.mp e1
  obtain ⟨a, e2, r, f0, _, n1⟩ := w.ows i d e1
  have na : ∀ b, OA c (ρ.set i (.sh d)) σ b → OA c ρ σ b := fun b z => z.imp id fun ⟨j, d', q1, q2⟩ => by
    rcases ix_set q1 with ⟨rfl, e, _⟩ | ⟨n, q1⟩
    · cases e
    · exact ⟨j, d', q1, q2⟩
  have ne : ¬ OA c (ρ.set i (.sh d)) σ a := by
    rintro (z | ⟨j, d', q1, q2⟩)
    · exact n1 z
    · rcases ix_set q1 with ⟨rfl, e, _⟩ | ⟨n, q1⟩
      · cases e
      · exact n (w.dj i j d d' a e1 q1 e2 q2)
  refine ⟨by rw [List.length_set]; exact w.len, fun j d' e => ?_, fun j d' e => ?_, fun j e => ?_, fun j u e => ((ix_set e).elim (fun z => by cases z.2.1) fun z => w.vas j u z.2), fun j k d' e' b q1 q2 q3 q4 => ?_, w.o0, w.hdo, fun a z => let ⟨p, q, n⟩ := w.hds a z; ⟨p, q, fun y => n (na p y)⟩, w.ext, w.h00, w.tbs, w.snE, w.snT, fun Hs Os z a q => w.snO Hs Os z a (na a q), w.snH⟩
  · rcases ix_set e with ⟨rfl, e, _⟩ | ⟨n, e⟩
    · cases e
      exact ⟨.ref a, e2, r.rep na ne⟩
    · obtain ⟨v, q, r⟩ := w.shs j d' e
      exact ⟨v, q, r.less na⟩
  · rcases ix_set e with ⟨rfl, e, _⟩ | ⟨n, e⟩
    · cases e
    · obtain ⟨b, q, r, f⟩ := w.ows j d' e
      exact ⟨b, q, r.less na, f⟩
  · rcases ix_set e with ⟨rfl, e, _⟩ | ⟨n, e⟩
    · cases e
    · exact w.hsl j e
  · rcases ix_set q1 with ⟨rfl, e, _⟩ | ⟨n, q1⟩
    · cases e
    · rcases ix_set q2 with ⟨rfl, e, _⟩ | ⟨n', q2⟩
      · cases e
      · exact w.dj j k d' e' b q1 q2 q3 q4
/-- a point to which one may look back -/
abbrev Fr.at (c : Fr) (H : Hp) (O : Ad) : Fr := { c with sn := fun Hs Os => c.sn Hs Os ∨ (Hs = H ∧ Os = O) }
theorem WI.mark (w : WI B c ρ σ H) : WI B (c.at H (OA c ρ σ)) ρ σ H :=
  ⟨w.len, w.shs, w.ows, w.hsl, w.vas, w.dj, w.o0, w.hdo, w.hds, w.ext, w.h00, w.tbs, fun Hs Os z => by
    rcases z with z | ⟨rfl, rfl⟩
    · exact w.snE Hs Os z
    · exact fun a u _ e _ => e, fun Hs Os z => by
    rcases z with z | ⟨rfl, rfl⟩
    · exact w.snT Hs Os z
    · exact fun a h => h, fun Hs Os z a q => by
    rcases z with z | ⟨rfl, rfl⟩
    · exact w.snO Hs Os z a q
    · exact .inr q, fun Hs Os z a q => by
    rcases z with z | ⟨rfl, rfl⟩
    · exact w.snH Hs Os z a q
    · exact w.hdO a q⟩
theorem WI.unmark {O : Ad} {H₀ : Hp} (w : WI B (c.at H₀ O) ρ σ H) : WI B c ρ σ H :=
  ⟨w.len, w.shs, w.ows, w.hsl, w.vas, w.dj, w.o0, w.hdo, w.hds, w.ext, w.h00, w.tbs, fun Hs Os z => w.snE Hs Os (.inl z), fun Hs Os z => w.snT Hs Os (.inl z), fun Hs Os z => w.snO Hs Os (.inl z), fun Hs Os z => w.snH Hs Os (.inl z)⟩
/-! ### what a statement comes to -/
/-- leaving by return -/
def ExitD (X : Cx) (c : Fr) (fl : Fl) (d : D) (rt : VK) : Prop := ∀ v H', Pg c.T c.hd c.H0 H' → RepX X.bs c.hd c.H0 H' c.O0 fl d v → rt v H'
/-- leaving by an exception -/
def ExcS (X : Cx) (W : WX) (c : Fr) (cl : String) (fs : List (String × D)) : Prop := ∀ x dd σ' H', Pg c.T c.hd c.H0 H' → ExcV X.bs H' cl fs x dd → W x dd σ' H'
def tX (X : Cx) (W : WX) (c : Fr) (ρ : List Sl) {α : Type} (m : R α) (K : Ends → α → Prop) : TS := fun Dn σ H => WI X.bs c ρ σ H ∧ m.sat (K Dn) (ExcS X W c)
def KD (X : Cx) (c : Fr) (fl : Fl) : Ends → D → Prop := fun Dn d => ExitD X c fl d Dn.rt
def KS (X : Cx) (c : Fr) {S : Type} (k : S → List Sl) : Ends → S → Prop := fun Dn s => ∀ σ' H', WI X.bs c (k s) σ' H' → Dn.nx σ' H'
def KC (X : Cx) (c : Fr) (fl : Fl) {S : Type} (k : S → List Sl) : Ends → Ct S → Prop := fun Dn s => match s with
  | .go s => ∀ σ' H', WI X.bs c (k s) σ' H' → Dn.nx σ' H'
  | .ret d => ExitD X c fl d Dn.rt
abbrev JX (X : Cx) (W : WX) (c : Fr) (ρ : List Sl) (sts : List Stmt) {α : Type} (m : R α) (K : Ends → α → Prop) : Prop := PSs X sts (tX X W c ρ m K)
section
variable {X : Cx} {W : WX} {S α β : Type} {K : Ends → β → Prop} {Dn : Ends} {m : R α} {f : α → R β} {rest sts : List Stmt} {fl : Fl} {k : S → List Sl} {pos : Pos}
/-- an expression ahead -/
theorem tX.wd (h : tX X W c ρ (m.bind f) K Dn σ H) : Wd X W c ρ σ m H fun a H' => tX X W c ρ (f a) K Dn σ H' :=
  ⟨h.1, R.sat_mono (R.sat_bind.mp h.2) (fun a q H' g => ⟨h.1.pg g, q⟩) fun cl fs q x dd H' g ev => q x dd σ H' (h.1.ext.trans g) ev⟩
theorem pss_ex {γ : Type} {t : γ → TS} (h : ∀ d, PSs X rest (t d)) : PSs X rest fun Dn σ H => ∃ d, t d Dn σ H := ⟨fun pins s σ H Dn I ⟨d, q⟩ => (h d).run pins s σ H Dn I q⟩
/-- the end of a suite -/
def SlW : List Sl → List Sl → Prop
  | [], [] => True
  | a :: as, b :: bs => (b = a ∨ b = .no) ∧ SlW as bs
  | _, _ => False
theorem SlW.len : ∀ {as bs : List Sl}, SlW as bs → as.length = bs.length
  | [], [], _ => rfl
  | _ :: as, _ :: bs, h => by rw [List.length_cons, List.length_cons, SlW.len h.2]
  | [], _ :: _, h => h.elim
  | _ :: _, [], h => h.elim
theorem SlW.get : ∀ {as bs : List Sl} {j : Nat} {s : Sl}, SlW as bs → bs[j]? = some s → s = Sl.no ∨ as[j]? = some s
  | [], [], _, _, _, e => by simp at e
  | a :: as, b :: bs, 0, s, h, e => by
    cases Option.some.inj e
    rcases h.1 with z | z
    · exact .inr (by rw [z]; rfl)
    · exact .inl z
  | a :: as, b :: bs, j + 1, s, h, e => by
    have := SlW.get (j := j) h.2 (by simpa using e)
    simpa using this
  | [], _ :: _, _, _, h, _ => h.elim
  | _ :: _, [], _, _, h, _ => h.elim
theorem WI.weak (w : WI B c ρ σ H) (h : SlW ρ ρ') : WI B c ρ' σ H := w.sub (by rw [← h.len]; exact w.len) fun j s e => (h.get e).imp id fun z => ⟨z, rfl⟩
theorem s_nil' (s : S) (h : SlW ρ (k s)) : JX X W c ρ [] (.ok s) (KS X c k) := PSs.imp pss_nil fun Dn σ H q => q.2 σ H (q.1.weak h)
theorem s_nilC (s : S) (h : SlW ρ (k s)) : JX X W c ρ [] (.ok (.go s)) (KC X c fl k) := PSs.imp pss_nil fun Dn σ H q => q.2 σ H (q.1.weak h)
/-- a step that is not in the text: what is in hand is given out -/
theorem s_frz (i : Nat) {d : D} (hd : ρ[i]? = some (.ow d)) {m : R β} (h : JX X W c (ρ.set i (.sh d)) sts m K) : JX X W c ρ sts m K :=
  PSs.imp h fun Dn σ H q => ⟨q.1.frz hd, q.2⟩
theorem s_wk {m : R β} (h : SlW ρ ρ') (hj : JX X W c ρ' sts m K) : JX X W c ρ sts m K := PSs.imp hj fun Dn σ H q => ⟨q.1.weak h, q.2⟩
/-- return e -/
theorem ra_exit {d : D} {v : V} {H' : Hp} (w : WI B c ρ σ H) (f : Fl) (hf : f ≠ .bo) (r : RepX B c.hd H H' (OA c ρ σ) f d v) : RepX B c.hd c.H0 H' c.O0 f d v := by
  cases f with
  | bo => exact absurd rfl hf
  | sh => exact Rep.less (fun a z => .inl z) r
  | ra =>
    cases d with
    | lst ds => obtain ⟨a, e, n, r⟩ := r; exact ⟨a, e, w.fresh n, r.less fun b z => z.imp .inl id⟩
    | dct ks ds => obtain ⟨a, e, n, r⟩ := r; exact ⟨a, e, w.fresh n, r.less fun b z => z.imp .inl id⟩
    | _ => exact Rep.less (fun a z => Or.inl z) (show Rep B H' (OA c ρ σ) _ v from r)
theorem s_ret {e : Expr} {m : R D} (he : JE X W c ρ fl e m) (hf : fl ≠ .bo := by intro h; cases h) : JX X W c ρ [.Return (some e) pos] m (KD X c fl) :=
  PSs.imp (pss_one (ps_ret he)) fun Dn σ H q => by
    have q' : tX X W c ρ (m.bind R.ok) (KD X c fl) Dn σ H := by rw [R.bind_pure]; exact q
    exact Wd.mono (tX.wd q') fun d H' g q1 v r => q1.2 v H' (q.1.ext.trans g) (ra_exit q.1 fl hf r)
theorem s_retC {e : Expr} {m : R D} (he : JE X W c ρ fl e m) (hf : fl ≠ .bo := by intro h; cases h) : JX X W c ρ [.Return (some e) pos] (m.map Ct.ret) (KC X c fl k) :=
  PSs.imp (pss_one (ps_ret he)) fun Dn σ H q => Wd.mono (tX.wd q) fun d H' g q1 v r => q1.2 v H' (q.1.ext.trans g) (ra_exit q.1 fl hf r)
end
end
end Ev


set_option Elab.async false
set_option linter.all false
set_option maxRecDepth 100000
/-! Ev, part T: tests, and, or, not, chains, if-expressions; the simple statements. -/
namespace Ev
open PySem PySem.Spec PyProof.Rows L2

theorem bo_tru {B : Bs} {hd : Ad} {H : Hp} {O : Ad} {d : D} {v : V} {k : Bool} (e : truthy d = .ok k) (h : RepX B hd H H O .bo d v) : TruV B.K v H k := by
  cases d with
  | non => cases e; cases bo_non h; exact rfl
  | bl b => cases e; cases bo_bl h; exact rfl
  | int i => cases e; cases bo_int h; exact rfl
  | str x =>
    obtain ⟨e1, e2⟩ := if_ok e
    cases e2
    cases bo_str h
    refine ⟨by rw [tx_len, ← SZ_eq]; exact e1, ?_⟩
    rw [tx_len]
    cases x with
    | nil => rfl
    | cons c x =>
      show true = _
      rw [List.length_cons]
      exact (bne_iff_ne.mpr (by omega)).symm
  | tup xs =>
    cases e
    obtain ⟨a, vs, rfl, _, h1, r⟩ := bo_tup h
    refine .inr (.inl ⟨vs, h1, ?_⟩)
    have := r.length
    cases vs <;> cases xs <;> first | rfl | (simp at this)
  | lst xs =>
    cases e
    obtain ⟨a, vs, rfl, h1, r⟩ := bo_lst h
    refine .inl ⟨vs, .of h1, ?_⟩
    have := r.length
    cases vs <;> cases xs <;> first | rfl | (simp at this)
  | _ => cases e
theorem truthy_calm (d : D) : Calm (truthy d) := by
  unfold truthy
  split <;> first | exact calm_ok | exact calm_stuck | exact calm_ite calm_ok calm_stuck
/-- an operator that gives bools -/
def Blf (f : D → D → R D) : Prop := ∀ x y d, f x y = .ok d → ∃ k, d = .bl k
theorem cmpD_bl {w : D → D → Bool} : Blf (cmpD w) := fun x y d h => by
  obtain ⟨_, e⟩ := if_ok h
  cases e; exact ⟨_, rfl⟩
section
variable {X : Cx} {W : WX} {c : Fr} {ρ : List Sl} {a b e : Expr} {m ma mb : R D} {mt nt : R Bool} {rest : List Expr} {pos : Pos}
theorem sat_bl {f : D → D → R D} (hf : ∀ x y, Calm (f x y)) (hb : Blf f) {P : D → Prop} {E : String → List (String × D) → Prop} (h : (l2 f ma mb).sat P E) : (l2 f ma mb).sat (fun d => (∃ k, d = .bl k) ∧ P d) E := by
  refine R.sat_bind.mpr (R.sat_mono (R.sat_bind.mp h) (fun x q => ?_) fun _ _ z => z)
  refine R.sat_bind.mpr (R.sat_mono (R.sat_bind.mp q) (fun y q => ?_) fun _ _ z => z)
  show (f x y).sat _ _
  have q : (f x y).sat P E := q
  have hc := hf x y
  cases e : f x y with
  | ok d => rw [e] at q; exact ⟨hb x y d e, q⟩
  | exc c fs => exact absurd e (hc.1 c fs)
  | stuck => rw [e] at q; exact q
  | draw n k => exact absurd e (hc.2 n k)
theorem t_val (he : JE X W c ρ .bo e m) (hp : ∀ whole, isTrue e X.env whole = (do let v ← whole; standAt e.pos; holding [v] (PySem.truthy v)) := by exact fun _ => rfl) : JT X W c ρ e (tst m) :=
  PT.imp (pt_truth he hp) fun σ H Q q => by
    refine Wd.mono (Wd.bind q) fun d H1 g q1 v rv => ?_
    obtain ⟨k, e, p⟩ := q1.val (truthy_calm d)
    exact ⟨k, bo_tru e (bo_at rv), p H1 (.refl _ _ _)⟩
theorem cmp_read {f : D → D → R D} (hf : ∀ x y, Calm (f x y)) (hb : Blf f) {σ : L2.St} {H : Hp} {Q : Bool → Hp → Prop} (q : tB X W c ρ (tst (l2 f ma mb)) σ H Q) :
    tE X W c ρ .ra (l2 f ma mb) σ H fun x H' => ∃ k, x = .bl k ∧ Q k H' := by
  refine ⟨q.1, R.sat_mono (sat_bl hf hb (R.sat_bind.mp q.2)) (fun d p H' g v rv => ?_) fun _ _ z => z⟩
  obtain ⟨⟨k, rfl⟩, p⟩ := p
  cases (show v = V.bl k from rv)
  exact ⟨k, rfl, p H' g⟩
theorem t_cmp {op : CmpOp} {f : D → D → R D} (ho : OpR X (compareOp op) (rD2 X.bs f)) (hf : ∀ x y, Calm (f x y)) (hb : Blf f) (ha : JE X W c ρ .bo a ma) (hb' : JE X W c ρ .bo b mb) (hm : behindInMarks op b = false := by rfl) : JT X W c ρ (.Compare a [op] [b] pos) (tst (l2 f ma mb)) :=
  PT.imp (pt_cmpR ho ha hb' hm) fun σ H Q q => two_ops hf (cmp_read hf hb q)
theorem t_not (h : JT X W c ρ a mt) : JT X W c ρ (.UnaryOp .Not a pos) (notB mt) := PT.imp (pt_not h) fun σ H Q q => Wd.map q
theorem w_and1 (h : JT X W c ρ a mt) : JW X W c ρ (.BoolOp .And [a] pos) mt := pw_and1 h
theorem w_or1 (h : JT X W c ρ a mt) : JW X W c ρ (.BoolOp .Or [a] pos) mt := pw_or1 h
theorem w_and (h : JT X W c ρ a mt) (h' : JW X W c ρ (.BoolOp .And (b :: rest) pos) nt) : JW X W c ρ (.BoolOp .And (a :: b :: rest) pos) (andB mt nt) :=
  PW.imp (pw_and h h') fun σ H Q q => Wd.mono (Wd.ifR q) fun k H' g z => by
    cases k with
    | true => exact z
    | false => exact Wd.now (show Wd X W c ρ σ (.ok false) H' Q from z)
theorem w_or (h : JT X W c ρ a mt) (h' : JW X W c ρ (.BoolOp .Or (b :: rest) pos) nt) : JW X W c ρ (.BoolOp .Or (a :: b :: rest) pos) (orB mt nt) :=
  PW.imp (pw_or h h') fun σ H Q q => Wd.mono (Wd.ifR q) fun k H' g z => by
    cases k with
    | true => exact Wd.now (show Wd X W c ρ σ (.ok true) H' Q from z)
    | false => exact z
theorem t_w (h : JW X W c ρ e mt) : JT X W c ρ e mt := h.pt
/-- as values -/
theorem v_one {op} {fl : Fl} (h : JE X W c ρ fl a ma) : JE X W c ρ fl (.BoolOp op [a] pos) ma := pe_one h
theorem tru_Wd {σ : L2.St} {H : Hp} {d : D} {x y : R D} {P : D → Hp → Prop} (q : Wd X W c ρ σ (ifR (truthy d) x y) H P) : ∃ k, truthy d = .ok k ∧ Wd X W c ρ σ (if k = true then x else y) H P := by
  have q1 := Wd.bind q
  obtain ⟨k, e, p⟩ := q1.val (truthy_calm d)
  exact ⟨k, e, p H (.refl _ _ _)⟩
theorem v_and (ha : JE X W c ρ .sh a ma) (hb : JE X W c ρ .sh (.BoolOp .And (b :: rest) pos) mb) : JE X W c ρ .sh (.BoolOp .And (a :: b :: rest) pos) (andV ma mb) :=
  PE.imp (pe_andT ha hb) fun σ H Q q => Wd.mono (Wd.bind q) fun d H1 g q1 v rv => by
    obtain ⟨k, e, p⟩ := tru_Wd q1
    refine ⟨k, bo_tru (hd := c.hd) e (.inl rv), ?_⟩
    cases k with
    | true => exact p
    | false => exact Wd.now (show Wd X W c ρ σ (.ok d) H1 _ from p) v rv
theorem v_or (ha : JE X W c ρ .sh a ma) (hb : JE X W c ρ .sh (.BoolOp .Or (b :: rest) pos) mb) : JE X W c ρ .sh (.BoolOp .Or (a :: b :: rest) pos) (orV ma mb) :=
  PE.imp (pe_orT ha hb) fun σ H Q q => Wd.mono (Wd.bind q) fun d H1 g q1 v rv => by
    obtain ⟨k, e, p⟩ := tru_Wd q1
    refine ⟨k, bo_tru (hd := c.hd) e (.inl rv), ?_⟩
    cases k with
    | false => exact p
    | true => exact Wd.now (show Wd X W c ρ σ (.ok d) H1 _ from p) v rv
theorem v_not (ha : JE X W c ρ .bo a ma) : JE X W c ρ .sh (.UnaryOp .Not a pos) (notV ma) :=
  PE.imp (pe_notT ha) fun σ H Q q => Wd.mono (Wd.bind (Wd.map q)) fun d H1 g q1 v rv => by
    obtain ⟨k, e, p⟩ := q1.val (truthy_calm d)
    exact ⟨k, bo_tru e (bo_at rv), p H1 (.refl _ _ _) _ rfl⟩
/-- chains -/
theorem ch_read {f g : D → D → R D} (hf : ∀ x y, Calm (f x y)) (hb : Blf f) (hg : ∀ x y, Calm (g x y)) {mc : R D} {σ : L2.St} {H : Hp} {Q : VK} (q : tE X W c ρ .ra (chD f g ma mb mc) σ H Q) :
    tChain (rD2 X.bs f) (rD2 X.bs g) (tE X W c ρ .bo ma) (tE X W c ρ .bo mb) (tE X W c ρ .bo mc) σ H Q := by
  refine Wd.mono (Wd.bind q) fun da H1 g1 q1 x rx => ?_
  refine Wd.mono (Wd.bind q1) fun db H2 g2 q2 y ry => ?_
  obtain ⟨d, e, p⟩ := (Wd.bind q2).val (hf da db)
  obtain ⟨k, rfl⟩ := hb _ _ _ e
  refine ⟨c.hd, OA c ρ σ, da, db, _, q2.1.there, bo_at (RepX.pg g2 q1.1.hdO q.1.hth rx), bo_at ry, e, fun v H3 g3 r => ?_⟩
  cases (show v = V.bl k from r)
  refine ⟨k, rfl, ?_⟩
  have p := p H3 g3.pg
  cases k with
  | false =>
    have p2 : Wd X W c ρ σ (R.ok (D.bl false)) H3 _ := p
    exact p2.now _ rfl
  | true =>
    refine Wd.mono (Wd.bind (show Wd X W c ρ σ (mc.bind fun w => g db w) H3 _ from p)) fun dc H4 g4 q4 z rz => ?_
    obtain ⟨d', e', p'⟩ := q4.val (hg db dc)
    exact ⟨c.hd, OA c ρ σ, db, dc, d', q4.1.there, bo_at (RepX.pg (g3.pg.trans g4) q2.1.hdO q1.1.hth ry), bo_at rz, e', fun v H5 g5 r => p' H5 g5.pg v (r.back fun _ => q.1.none (g1.trans (g2.trans (g3.pg.trans g4))))⟩
theorem e_chain {op op' : CmpOp} {f g : D → D → R D} {e3 : Expr} {mc : R D} (ho : OpR X (compareOp op) (rD2 X.bs f)) (ho' : OpR X (compareOp op') (rD2 X.bs g)) (hf : ∀ x y, Calm (f x y)) (hb : Blf f) (hg : ∀ x y, Calm (g x y))
    (ha : JE X W c ρ .bo a ma) (hb' : JE X W c ρ .bo b mb) (hc : JE X W c ρ .bo e3 mc) (hm : lastMarks [op, op'] [b, e3] = false := by with_unfolding_all rfl) : JE X W c ρ .ra (.Compare a [op, op'] [b, e3] pos) (chD f g ma mb mc) :=
  PE.imp (pe_chain ho ho' ha hb' hc hm) fun σ H Q q => ch_read hf hb hg q
theorem t_chain {op op' : CmpOp} {f g : D → D → R D} {e3 : Expr} {mc : R D} (ho : OpR X (compareOp op) (rD2 X.bs f)) (ho' : OpR X (compareOp op') (rD2 X.bs g)) (hf : ∀ x y, Calm (f x y)) (hb : Blf f) (hg : ∀ x y, Calm (g x y)) (hgb : Blf g)
    (ha : JE X W c ρ .bo a ma) (hb' : JE X W c ρ .bo b mb) (hc : JE X W c ρ .bo e3 mc) (hm : lastMarks [op, op'] [b, e3] = false := by with_unfolding_all rfl) : JT X W c ρ (.Compare a [op, op'] [b, e3] pos) (tst (chD f g ma mb mc)) :=
  PT.imp (pt_chain ho ho' ha hb' hc hm) fun σ H Q q => by
    refine ch_read hf hb hg ⟨q.1, ?_⟩
    have q2 := R.sat_bind.mp q.2
    refine R.sat_bind.mpr (R.sat_mono (R.sat_bind.mp q2) (fun da p => ?_) fun _ _ z => z)
    refine R.sat_bind.mpr (R.sat_mono (R.sat_bind.mp p) (fun db p => ?_) fun _ _ z => z)
    refine R.sat_bind.mpr (R.sat_mono (R.sat_bind.mp p) (fun d p => ?_) fun _ _ z => z)
    have key : ∀ (n : R D), (∀ d, n = .ok d → ∃ k, d = .bl k) → Calm n → ∀ {P : D → Prop} {E : String → List (String × D) → Prop}, n.sat P E → n.sat (fun d => (∃ k, d = .bl k) ∧ P d) E := fun n h1 h2 P E h => by
      cases e : n with
      | ok d => rw [e] at h; exact ⟨h1 d e, h⟩
      | exc c fs => exact absurd e (h2.1 c fs)
      | stuck => rw [e] at h; exact h
      | draw n k => exact absurd e (h2.2 n k)
    have fin : ∀ {d : D}, (∃ k, d = .bl k) → (truthy d).sat (fun a => ∀ H', Pg c.T c.hd H H' → Q a H') (fun cl fs => ∀ x dd H', Pg c.T c.hd H H' → ExcV X.bs H' cl fs x dd → W x dd σ H') →
        ∀ H', Pg c.T c.hd H H' → ∀ v, RepX X.bs c.hd H H' (OA c ρ σ) .ra d v → ∃ k, v = .bl k ∧ Q k H' := fun {d} hk p H' g v rv => by
      obtain ⟨k, rfl⟩ := hk
      cases (show v = V.bl k from rv)
      exact ⟨k, rfl, p H' g⟩
    cases d with
    | bl k =>
      cases k with
      | true =>
        refine R.sat_bind.mpr (R.sat_mono (R.sat_bind.mp (show (mc.bind fun w => g db w).sat _ _ from p)) (fun dc p => ?_) fun _ _ z => z)
        exact R.sat_mono (key _ (fun d e => hgb _ _ _ e) (hg db dc) p) (fun d z => fin z.1 z.2) fun _ _ z => z
      | false => exact fin ⟨_, rfl⟩ p
    | _ => exact p.elim
theorem e_if {fl : Fl} {t : Expr} (ht : JT X W c ρ t mt) (ha : JE X W c ρ fl a ma) (hb : JE X W c ρ fl b mb) (hf : fl ≠ .ra := by intro h; cases h) : JE X W c ρ fl (.IfExp t a b pos) (ifR mt ma mb) :=
  PE.imp (pe_ifExp ht ha hb) fun σ H Q q => Wd.mono (Wd.ifR q) fun k H1 g z => by
    have back : ∀ {d : D} {H' : Hp} {v : V}, RepX X.bs c.hd H1 H' (OA c ρ σ) fl d v → RepX X.bs c.hd H H' (OA c ρ σ) fl d v := fun {d H' v} r => by
      cases fl with
      | ra => exact absurd rfl hf
      | sh => exact r
      | bo => exact r
    cases k with
    | true => exact Wd.mono (show Wd X W c ρ σ ma H1 _ from z) fun d H' g' k v r => k v (back r)
    | false => exact Wd.mono (show Wd X W c ρ σ mb H1 _ from z) fun d H' g' k v r => k v (back r)
end

/-! ### simple statements -/
section
variable {X : Cx} {W : WX} {c : Fr} {ρ : List Sl} {e : Expr} {m : R D} {β S α : Type} {K : Ends → β → Prop} {f : D → R β} {rest : List Stmt} {st : Stmt} {i : Nat} {x : Str} {pos : Pos} {fl : Fl}
theorem s_store {te : TE} (hps : PS X st (tAsg te (gName i))) (ht : ∀ σ H Q, tE X W c ρ .sh m σ H Q → te σ H Q) (hi : i < ρ.length) (hr : ∀ d, JX X W c (ρ.set i (.sh d)) rest (f d) K) : JX X W c ρ (st :: rest) (m.bind f) K :=
  PSs.imp (pss_cons hps (pss_ex hr)) fun Dn σ H q => ht σ H _ (Wd.mono (tX.wd q) fun d H' g q1 v rv => ⟨d, q1.1.setSh hi rv, q1.2⟩)
theorem s_storeO {te : TE} {f : List D → R β} (hps : PS X st (tAsg te (gName i))) (ht : ∀ σ H Q, tE X W c ρ .ra m σ H Q → te σ H Q) (hi : i < ρ.length) (hr : ∀ xs, JX X W c (ρ.set i (.ow (.lst xs))) rest (f xs) K) : JX X W c ρ (st :: rest) (m.bind fun d => (ownL d).bind f) K :=
  PSs.imp (pss_cons hps (pss_ex hr)) fun Dn σ H q => ht σ H _ (Wd.mono (tX.wd q) fun d H' g q1 v rv => by
    have q2 := R.sat_bind.mp q1.2
    cases d with
    | lst xs => exact ⟨xs, q.1.setRa g hi ⟨_, rfl⟩ rv, q2⟩
    | _ => exact q2.elim)
/-- name = e -/
theorem s_set {p : Pos} (hN : X.N.Nodup) (he : JE X W c ρ .sh e m) (hr : ∀ d, JX X W c (ρ.set i (.sh d)) rest (f d) K) (hi : i < ρ.length := by exact Nat.le_of_ble_eq_true rfl) (hn : X.N[i]? = some x := by rfl) (hx : Loc X.env.scope x := by first | exact Or.inl rfl | exact Or.inr rfl)
    (hs : swapsWith e (some (.Name x p)) pos.line X.env = pure false := by rfl) (hf : X.fn x = true ∨ X.env.scope.names.lookup x = some .local := by first | exact .inl rfl | exact .inr rfl) : JX X W c ρ (.Assign [.Name x p] e pos :: rest) (m.bind f) K :=
  s_store (ps_set hN hn hx he hs hf) (fun _ _ _ q => q) hi hr
theorem s_setO {f : List D → R β} {p : Pos} (hN : X.N.Nodup) (he : JE X W c ρ .ra e m) (hr : ∀ xs, JX X W c (ρ.set i (.ow (.lst xs))) rest (f xs) K) (hi : i < ρ.length := by exact Nat.le_of_ble_eq_true rfl) (hn : X.N[i]? = some x := by rfl) (hx : Loc X.env.scope x := by first | exact Or.inl rfl | exact Or.inr rfl)
    (hs : swapsWith e (some (.Name x p)) pos.line X.env = pure false := by rfl) (hf : X.fn x = true ∨ X.env.scope.names.lookup x = some .local := by first | exact .inl rfl | exact .inr rfl) : JX X W c ρ (.Assign [.Name x p] e pos :: rest) (m.bind fun d => (ownL d).bind f) K :=
  s_storeO (ps_set hN hn hx he hs hf) (fun _ _ _ q => q) hi hr
/-- e, its value left -/
theorem s_expr {m2 : R β} (he : JE X W c ρ fl e m) (hr : JX X W c ρ rest m2 K) (hs : swapsWith e none pos.line X.env = pure false := by rfl) : JX X W c ρ (.Expr e pos :: rest) (m.bind fun _ => m2) K :=
  PSs.imp (pss_cons (ps_expr he hs) hr) fun Dn σ H q => Wd.mono (tX.wd q) fun d H' g q1 v rv => q1
theorem s_pass {m : R β} (hr : JX X W c ρ rest m K) : JX X W c ρ (.Pass pos :: rest) m K := PSs.imp (pss_cons ps_pass hr) fun Dn σ H q => q
/-! ### if -/
variable {t : Expr} {a b : List Stmt} {mt : R Bool} {k : S → List Sl}
theorem ifR_sat {m1 m2 : R α} {P : α → Prop} {E : String → List (String × D) → Prop} : (ifR mt m1 m2).sat P E ↔ mt.sat (fun k => (if k = true then m1 else m2).sat P E) E := R.sat_bind
/-- the test ahead -/
theorem tX.wt {m1 m2 : R α} {K : Ends → α → Prop} {Dn : Ends} {σ : L2.St} {H : Hp} (h : tX X W c ρ (ifR mt m1 m2) K Dn σ H) : Wd X W c ρ σ mt H fun q H' => if q = true then tX X W c ρ m1 K Dn σ H' else tX X W c ρ m2 K Dn σ H' :=
  Wd.mono (tX.wd h) fun q H' g z => by
    cases q with
    | true => exact z
    | false => exact z
/-- if t: a else: b, then on -/
theorem s_if {ma mb : R S} {f : S → R β} (ht : JT X W c ρ t mt) (ha : JX X W c ρ a ma (KS X c k)) (hb : JX X W c ρ b mb (KS X c k)) (hr : ∀ s, JX X W c (k s) rest (f s) K) : JX X W c ρ (.If t a b pos :: rest) ((ifR mt ma mb).bind f) K :=
  PSs.imp (pss_cons (ps_if ht ha hb) (pss_ex hr)) fun Dn σ H q => by
    have q' : tX X W c ρ (ifR mt (ma.bind f) (mb.bind f)) K Dn σ H := by
      refine ⟨q.1, ifR_sat.mpr (R.sat_mono (ifR_sat.mp (R.sat_bind.mp q.2)) (fun k z => ?_) fun _ _ z => z)⟩
      cases k with
      | true => exact R.sat_bind.mpr z
      | false => exact R.sat_bind.mpr z
    have conv : ∀ {m : R S} {H' : Hp}, tX X W c ρ (m.bind f) K Dn σ H' → tX X W c ρ m (KS X c k) { Dn with nx := fun σ H => ∃ s, tX X W c (k s) (f s) K Dn σ H } σ H' := fun {m H'} z => ⟨z.1, R.sat_mono (R.sat_bind.mp z.2) (fun s y σ' H2 w => ⟨s, w, y⟩) fun _ _ y => y⟩
    refine Wd.mono (tX.wt q') fun k H' g z => ?_
    cases k with
    | true => exact conv z
    | false => exact conv z
/-- a mode told by ι: what is returned from within is K's, too -/
def Rt (X : Cx) (c : Fr) (fl : Fl) (K : Ends → β → Prop) (ι : D → β) : Prop := ∀ (Dn : Ends) (d : D), K Dn (ι d) → ExitD X c fl d Dn.rt
theorem rD : Rt X c fl (KD X c fl) id := fun _ _ h => h
theorem rC : Rt X c fl (KC X c fl k) Ct.ret := fun _ _ h => h
/-- if t: .. return, then on -/
theorem s_ifR {ma : R D} {mb : R β} (ι : D → β) (hι : Rt X c fl K ι) (ht : JT X W c ρ t mt) (ha : JX X W c ρ a ma (KD X c fl)) (hr : JX X W c ρ rest mb K) : JX X W c ρ (.If t a [] pos :: rest) (ifR mt (ma.map ι) mb) K :=
  PSs.imp (pss_cons (ps_if ht ha pss_nil) hr) fun Dn σ H q => Wd.mono (tX.wt q) fun k H' g z => by
    cases k with
    | true => exact ⟨(show tX X W c ρ (ma.map ι) K Dn σ H' from z).1, R.sat_mono (R.sat_map.mp (show tX X W c ρ (ma.map ι) K Dn σ H' from z).2) (fun d y => hι Dn _ y) fun _ _ y => y⟩
    | false => exact (show tX X W c ρ mb K Dn σ H' from z)
theorem s_ifD {ma mb : R D} (ht : JT X W c ρ t mt) (ha : JX X W c ρ a ma (KD X c fl)) (hr : JX X W c ρ rest mb (KD X c fl)) : JX X W c ρ (.If t a [] pos :: rest) (ifR mt ma mb) (KD X c fl) := by
  have := s_ifR (pos := pos) id rD ht ha hr
  rwa [show ma.map id = ma from R.bind_pure ma] at this
/-- both return -/
theorem s_ifDD {ma mb : R D} (ht : JT X W c ρ t mt) (ha : JX X W c ρ a ma (KD X c fl)) (hb : JX X W c ρ b mb (KD X c fl)) : JX X W c ρ [.If t a b pos] (ifR mt ma mb) (KD X c fl) :=
  PSs.imp (pss_one (ps_if ht ha hb)) fun Dn σ H q => Wd.mono (tX.wt q) fun k H' g z => by
    cases k with
    | true => exact z
    | false => exact z
theorem thenC_sat {m : R (Ct S)} {r : D → R β} {f : S → R β} {P : β → Prop} {E : String → List (String × D) → Prop} : (thenC m r f).sat P E ↔ m.sat (fun s => match s with
    | .go s => (f s).sat P E
    | .ret d => (r d).sat P E) E := by
  constructor
  · exact fun h => R.sat_mono (R.sat_bind.mp h) (fun s z => by cases s <;> exact z) fun _ _ z => z
  · exact fun h => R.sat_bind.mpr (R.sat_mono h (fun s z => by cases s <;> exact z) fun _ _ z => z)
/-- some ways return -/
theorem s_ifC {ma mb : R (Ct S)} {f : S → R β} (ι : D → β) (hι : Rt X c fl K ι) (ht : JT X W c ρ t mt) (ha : JX X W c ρ a ma (KC X c fl k)) (hb : JX X W c ρ b mb (KC X c fl k)) (hr : ∀ s, JX X W c (k s) rest (f s) K) :
    JX X W c ρ (.If t a b pos :: rest) (thenC (ifR mt ma mb) (fun d => .ok (ι d)) f) K :=
  PSs.imp (pss_cons (ps_if ht ha hb) (pss_ex hr)) fun Dn σ H q => by
    have q1 := ifR_sat.mp (thenC_sat.mp q.2)
    have q2 : Wd X W c ρ σ mt H fun k' H' => tX X W c ρ (if k' = true then ma else mb) (KC X c fl k) { Dn with nx := fun σ H => ∃ s, tX X W c (k s) (f s) K Dn σ H } σ H' := by
      refine ⟨q.1, R.sat_mono q1 (fun k' z H' g => ⟨q.1.pg g, R.sat_mono z (fun s y => ?_) fun _ _ y => y⟩) fun cl fs y x dd H' g ev => y x dd σ H' (q.1.ext.trans g) ev⟩
      cases s with
      | go s => exact fun σ' H2 w => ⟨s, w, y⟩
      | ret d => exact hι Dn _ y
    refine Wd.mono q2 fun k H' g z => ?_
    cases k with
    | true => exact z
    | false => exact z
end
end Ev


set_option Elab.async false
set_option linter.all false
set_option maxRecDepth 100000
/-! Ev, part F: what is walked; for, while; comprehensions. -/
namespace Ev
open PySem PySem.Spec PyProof.Rows L2

/-! ### iterators -/
theorem PI.imp {X : Cx} {tg it : Expr} {t u : TI} (h : PI X tg it t) (i : ∀ σ H R, u σ H R → t σ H R) : PI X tg it u := ⟨fun pins s σ H R I q => h.run pins s σ H R I (i σ H R q)⟩
def iAny (K : PySem.W.Frag) (te : TE) : TI := fun σ H R => te σ H fun v H1 =>
  (∃ a xs, v = .ref a ∧ SqL K H1 a xs ∧ (xs.length ≤ sizeLine → R (Itl K a) H1)) ∨ (∃ a xs, v = .ref a ∧ SqT K H1 a xs ∧ (xs.length ≤ sizeLine → R (Itt K a) H1)) ∨ ∃ z, v = .str z ∧ R (Its z) H1
theorem pi_any {X : Cx} {tg e : Expr} {te : TE} (he : PE X e te) : PI X tg e (iAny X.K te) := by
  refine ⟨fun pins s σ H R I h => thn (he.run pins s σ H _ I h) fun v s1 ⟨y, H1, I1, r1, q⟩ => ?_⟩
  rcases q with ⟨a, xs, rfl, h1, q⟩ | ⟨a, xs, rfl, h1, q⟩ | ⟨z, rfl, q⟩
  · cases r1
    obtain ⟨its, _, pl, hz⟩ := I1.list h1
    exact wpAny_pyIter_list pl.isList (pi_one (tk := s1.toks) I1 _ (turn_list a _) ⟨_, Heap.get?_push_size _ rfl, rfl, rfl⟩ (q hz))
  · cases r1
    obtain ⟨its, _, pl, hz⟩ := I1.tuple h1
    exact wpAny_pyIter_tuple (show s1.heap.IsTuple a its.toArray from pl) (pi_one (tk := s1.toks) I1 _ (turn_tuple a _) ⟨_, Heap.get?_push_size _ rfl, rfl, rfl⟩ (q hz))
  · obtain ⟨t, rfl⟩ := r1
    cases hb : z.cps.all (· < 128) with
    | false => exact wpAny_pyIter_wide hb (pi_one (tk := s1.toks) I1 _ (turn_str _ z t _ (.inr rfl)) ⟨_, Heap.get?_push_size _ rfl, rfl, rfl⟩ q)
    | true => exact wpAny_pyIter_ascii hb (pi_one (tk := s1.toks) I1 _ (turn_str _ z t _ (.inl rfl)) ⟨_, Heap.get?_push_size _ rfl, rfl, rfl⟩ q)
/-- what was there and is not in hand stands since H0 -/
def Still (H0 : Hp) (O : Ad) (H1 : Hp) : Prop := ∀ a u, NT u → H0 a = some u → ¬ O a → H1 a = some u
/-- the reading of what is walked -/
def tI (X : Cx) (W : WX) (c : Fr) (ρ : List Sl) (m : R (List D)) : TI := fun σ H R => Wd X W c ρ σ m H fun xs H' => ∀ J Y, xs.length ≤ SZ → Walk J xs.length (Still H' (OA c ρ σ)) Y →
  (∀ (i : Nat) (H1 : Hp) (v : V) (H2 : Hp) (O1 : Ad), i < xs.length → Still H' (OA c ρ σ) H1 → (∀ a, O1 a → Fre H' a ∨ OA c ρ σ a) → (∀ a, O1 a → ∃ u, H1 a = some u) → Y i H1 v H2 → Gr H1 H2 ∧ ∃ d, xs[i]? = some d ∧ Rep X.bs H2 O1 d v) → R J H'
abbrev JI (X : Cx) (W : WX) (c : Fr) (ρ : List Sl) (tg it : Expr) (m : R (List D)) : Prop := PI X tg it (tI X W c ρ m)
theorem Still.kp {H0 H1 : Hp} {O O1 : Ad} (s : Still H0 O H1) (h : ∀ a, O1 a → Fre H0 a ∨ O a) : Kp H0 H1 O O1 := .of fun a u t e n => ⟨s a u t e n, fun z => by
  rcases h a z with q | q
  · exact q.no ⟨u, t, e⟩
  · exact n q⟩
theorem itD_calm (d : D) : Calm (itD d) := by
  unfold itD
  split <;> first | exact calm_ok | exact calm_stuck | exact calm_ite calm_ok calm_stuck
section
variable {X : Cx} {W : WX} {c : Fr} {ρ : List Sl} {e tg : Expr} {m : R D} {pos p : Pos}
/-- a list, a tuple, a text -/
theorem i_seq (he : JE X W c ρ .sh e m) : JI X W c ρ tg e (itR m) :=
  PI.imp (pi_any he) fun σ H R q => by
    refine Wd.mono (Wd.bind q) fun d H1 g q1 v rv => ?_
    obtain ⟨xs, e, k⟩ := q1.val (itD_calm d)
    have k := k H1 (.refl _ _ _)
    have rows : ∀ {vs : List V}, RepL X.bs H1 (OA c ρ σ) xs vs → ∀ (i : Nat) (H2 : Hp) (v : V) (H3 : Hp) (O1 : Ad), i < xs.length → Still H1 (OA c ρ σ) H2 → (∀ a, O1 a → Fre H1 a ∨ OA c ρ σ a) → (∀ a, O1 a → ∃ u, H2 a = some u) → YAt vs i H2 v H3 →
        Gr H2 H3 ∧ ∃ d, xs[i]? = some d ∧ Rep X.bs H3 O1 d v := fun {vs} r i H2 v H3 O1 hi st ho _ y => by
      obtain ⟨rfl, y⟩ := y
      obtain ⟨d, e, r⟩ := r.getV y
      exact ⟨Gr.refl _, d, e, r.kp (st.kp ho)⟩
    unfold itD at e
    split at e
    · cases e
      obtain ⟨a, vs, rfl, ⟨h1, n1⟩, r⟩ := rv
      refine .inl ⟨a, vs, rfl, .of h1, fun hz => k _ _ (by rw [← r.length, SZ_eq]; exact hz) ?_ (rows r)⟩
      rw [← r.length]
      exact walk_list.mono (fun H st => .of (st a _ nt_lst h1 n1)) fun _ _ _ _ _ _ y => y
    · cases e
      obtain ⟨a, vs, rfl, t, r⟩ := rv
      refine .inr (.inl ⟨a, vs, rfl, t.seq, fun hz => k _ _ (by rw [← r.length, SZ_eq]; exact hz) ?_ (rows r)⟩)
      rw [← r.length]
      refine walk_tup.mono (fun H st => ?_) fun _ _ _ _ _ _ y => y
      exact t.still fun u w => st a u w
    · cases e
      obtain ⟨a, vs, rfl, t, r⟩ := rv
      refine .inl ⟨a, vs, rfl, t.seq, fun hz => k _ _ (by rw [← r.length, SZ_eq]; exact hz) ?_ (rows r)⟩
      rw [← r.length]
      refine walk_list.mono (fun H st => ?_) fun _ _ _ _ _ _ y => y
      rcases t with ⟨t | ⟨o, t⟩, n⟩ | t
      · exact .of (st a _ nt_lst t n)
      · exact .inl (.inr ⟨o, st a _ nt_frz t n⟩)
      · exact .inr t
    · rename_i z
      obtain ⟨e1, e2⟩ := if_ok e
      cases e2
      cases (show v = V.str (tx z) from rv)
      refine .inr (.inr ⟨_, rfl, k _ (fun i H x H' => H' = H ∧ ∃ c, (tx z).cps[i]? = some c ∧ x = .str ⟨#[c]⟩) (by rw [List.length_map]; exact e1) ?_ ?_⟩)
      · have : (z.map fun c => D.str [c]).length = (tx z).cps.size := by simp
        rw [this]
        exact (walk_str (z := tx z)).mono (fun _ _ => True.intro) fun _ _ _ _ _ _ y => y
      · intro i H2 v H3 O1 hi st ho _ y
        obtain ⟨rfl, c, h, rfl⟩ := y
        refine ⟨Gr.refl _, .str [c], ?_, rfl⟩
        have h : z[i]? = some c := by simpa using h
        rw [List.getElem?_map, h]; rfl
    · cases e
theorem rngD_calm (a b : D) : Calm (rngD a b) := by
  unfold rngD
  split <;> first | exact calm_stuck | exact calm_ite calm_ok calm_stuck
theorem rng_walk {X : Cx} {c : Fr} {ρ : List Sl} {σ : L2.St} {H1 : Hp} {i : Int} {n : Nat} {R : It → Hp → Prop} (hn : n ≤ SZ) (k : ∀ J Y, (rngL i n).length ≤ SZ → Walk J (rngL i n).length (Still H1 (OA c ρ σ)) Y →
  (∀ (j : Nat) (H2 : Hp) (v : V) (H3 : Hp) (O1 : Ad), j < (rngL i n).length → Still H1 (OA c ρ σ) H2 → (∀ a, O1 a → Fre H1 a ∨ OA c ρ σ a) → (∀ a, O1 a → ∃ u, H2 a = some u) → Y j H2 v H3 → Gr H2 H3 ∧ ∃ d, (rngL i n)[j]? = some d ∧ Rep X.bs H3 O1 d v) → R J H1) : R (Itr i n) H1 := by
  have hl : (rngL i n).length = n := by simp [rngL]
  rw [hl] at k
  refine k (Itr i n) _ hn (walk_range.mono (fun _ _ => True.intro) fun _ _ _ _ _ _ y => y) ?_
  intro j H2 v H3 O1 hj st ho _ y
  obtain ⟨rfl, rfl⟩ := y
  refine ⟨Gr.refl _, .int (i + j), ?_, rfl⟩
  unfold rngL
  rw [List.getElem?_map, List.getElem?_range hj]; rfl
theorem i_rng1 (he : JE X W c ρ .bo e m) (hm : X.mg "range" = none) (hg : Gl X "range" := by rfl) (hs : starEach [e] X.env = [(false, eval e X.env)] := by rfl) : JI X W c ρ tg (.Call (.Name "range" p) [e] [] pos) (rng1 m) :=
  PI.imp (pi_range1 hg hm (a_cons he a_nil hs) hs) fun σ H Rk q => by
    refine ⟨q.1, R.sat_bind.mpr (R.sat_mono (R.sat_bind.mp q.2) (fun d z => ?_) fun _ _ z => z)⟩
    have z' : Wd X W c ρ σ (rngD (.int 0) d) H _ := ⟨q.1, z⟩
    obtain ⟨xs, e, k⟩ := z'.val (rngD_calm _ _)
    show ∀ H', Pg c.T c.hd H H' → ∀ vs, _ → _
    intro H' g vs ⟨v, vr, e1, rv, e2⟩
    cases (show vr = [] from e2)
    subst e1
    unfold rngD at e
    split at e
    · obtain ⟨⟨⟨b1, b2, b3, b4⟩, b5⟩, e3⟩ := if_ok e
      rename_i i j ei
      cases ei
      cases e3
      cases bo_int rv
      refine ⟨j, rfl, b3, b4, ?_⟩
      have hj : (j - 0).toNat = j.toNat := by rw [Int.sub_zero]
      rw [hj] at k b5
      exact rng_walk (X := X) (c := c) (ρ := ρ) (σ := σ) b5 (k H' g)
    · cases e
theorem i_rng2 {e2 : Expr} {m2 : R D} (he : JE X W c ρ .bo e m) (he2 : JE X W c ρ .bo e2 m2) (hm : X.mg "range" = none) (hg : Gl X "range" := by rfl) (hs : starEach [e, e2] X.env = [(false, eval e X.env), (false, eval e2 X.env)] := by rfl) (hs2 : starEach [e2] X.env = [(false, eval e2 X.env)] := by rfl) :
    JI X W c ρ tg (.Call (.Name "range" p) [e, e2] [] pos) (rng2 m m2) :=
  PI.imp (pi_range2 hg hm (a_cons he (a_cons he2 a_nil hs2) (by rw [hs, hs2])) hs hs2) fun σ H Rk q => by
    refine ⟨q.1, R.sat_bind.mpr (R.sat_mono (R.sat_bind.mp q.2) (fun d z => ?_) fun _ _ z => z)⟩
    refine R.sat_bind.mpr (R.sat_bind.mpr (R.sat_mono (R.sat_bind.mp z) (fun d2 z => ?_) fun _ _ z => z))
    have z' : Wd X W c ρ σ (rngD d d2) H _ := ⟨q.1, z⟩
    obtain ⟨xs, e, k⟩ := z'.val (rngD_calm _ _)
    show ∀ H', Pg c.T c.hd H H' → ∀ vs, _ → _
    intro H' g vs ⟨v, vr, e1, rv, v2, vr2, e3, rv2, e4⟩
    cases (show vr2 = [] from e4)
    subst e3 e1
    unfold rngD at e
    split at e
    · obtain ⟨⟨⟨b1, b2, b3, b4⟩, b5⟩, e3⟩ := if_ok e
      cases e3
      cases bo_int rv
      cases bo_int rv2
      refine ⟨_, _, rfl, ⟨b1, b2, b3, b4⟩, ?_⟩
      exact rng_walk (X := X) (c := c) (ρ := ρ) (σ := σ) b5 (k H' g)
    · cases e
end

/-! ### targets -/
def wipeS (ρ : List Sl) : List Nat → List Sl
  | [] => ρ
  | v :: vs => (wipeS ρ vs).set v .no
def noOw (ρ : List Sl) (vs : List Nat) : Bool := vs.all fun i => match ρ[i]? with
  | some (.ow _) => false
  | _ => true
theorem noOw_at {ρ : List Sl} {vs : List Nat} {i : Nat} {d : D} (n : noOw ρ vs = true) (h : i ∈ vs) : ρ[i]? ≠ some (.ow d) := fun e => by
  have := List.all_eq_true.mp n i h
  rw [e] at this
  cases this
theorem OA_kept {c : Fr} {ρ : List Sl} {σ : L2.St} {i : Nat} {s : Sl} {v : Option V} {a : Addr} (n : ∀ d, ρ[i]? ≠ some (.ow d)) (h : OA c ρ σ a) : OA c (ρ.set i s) (σ.set i v) a := h.imp id fun ⟨j, d, e1, e2⟩ => by
  have hj : i ≠ j := fun z => n d (by rw [z]; exact e1)
  exact ⟨j, d, by rw [List.getElem?_set_ne hj]; exact e1, by rw [List.getElem?_set_ne hj]; exact e2⟩
/-- a target: how it takes an item apart, what it stores, where -/
structure Tg (X : Cx) (tg : Expr) {T : Type} (U : (γ : Type) → D → (T → R γ) → R γ) (st : List Sl → T → List Sl) (vs : List Nat) where
  g : TG
  pg : PG X tg g
  run : ∀ {γ : Type} (c : Fr) (ρ : List Sl) (σ : L2.St) (H : Hp) (d : D) (v : V) (Q : L2.St → Hp → Prop) (F : T → R γ) (P : γ → Prop) (E : String → List (String × D) → Prop), vs.all (fun i => decide (i < ρ.length)) = true → WI X.bs c ρ σ H → Rep X.bs H (OA c ρ σ) d v → (U γ d F).sat P E →
    (∀ t σ', WI X.bs c (st ρ t) σ' H → (F t).sat P E → wipe σ' vs = wipe σ vs → (noOw ρ vs = true → ∀ a, OA c ρ σ a → OA c (st ρ t) σ' a) → Q σ' H) → g v σ H Q
theorem wipe_set {σ : L2.St} {i : Nat} {v : Option V} : ∀ {vs : List Nat}, i ∈ vs → wipe (σ.set i v) vs = wipe σ vs
  | [], h => by cases h
  | j :: vs, h => by
    unfold wipe
    by_cases e : i ∈ vs
    · rw [wipe_set e]
    · have hj : i = j := by
        rcases List.mem_cons.mp h with e' | e'
        · exact e'
        · exact absurd e' e
      subst hj
      have key : ∀ {vs : List Nat}, i ∉ vs → wipe (σ.set i v) vs = (wipe σ vs).set i v := by
        intro vs
        induction vs with
        | nil => intro _; rfl
        | cons k vs ih =>
          intro hk
          unfold wipe
          rw [ih fun z => hk (List.mem_cons_of_mem _ z), List.set_comm _ _ fun z => hk (by rw [z]; exact List.mem_cons_self)]
      rw [key e, List.set_set]
section
variable {X : Cx} {W : WX} {c : Fr} {ρ : List Sl} {pos p p2 p3 : Pos} {x y z : Str} {i j k : Nat}
def tg1 (hN : X.N.Nodup) (hi : X.N[i]? = some x := by rfl) (hx : Loc X.env.scope x := by first | exact Or.inl rfl | exact Or.inr rfl) (hf : X.fn x = true ∨ X.env.scope.names.lookup x = some .local := by first | exact .inl rfl | exact .inr rfl) :
    Tg X (.Name x pos) U1 (fun ρ d => ρ.set i (.sh d)) [i] where
  g := gName i
  pg := pg_name hN hi hx hf
  run := fun c ρ σ H d v Q F P E hl w r s k => k d _ (w.setSh (by simpa using hl) r) s (wipe_set List.mem_cons_self) fun n a z => OA_kept (fun d => noOw_at n List.mem_cons_self) z
theorem TupAt.got {B : Bs} {H : Hp} {O : Ad} {d : D} {v : V} {n : Nat} {xs : List D} (e : d = .tup xs) (r : Rep B H O d v) (hn : xs.length = n) : ∃ a vs, v = .ref a ∧ SqT B.K H a vs ∧ vs.length = n ∧ RepL B H O xs vs := by
  subst e
  obtain ⟨a, vs, rfl, t, r⟩ := r
  exact ⟨a, vs, rfl, t.seq, by rw [r.length, hn], r⟩
def tg2 {kk : Nat} (hc : X.calm = true) (hN : X.N.Nodup) (hi : X.N[i]? = some x := by rfl) (hx : Loc X.env.scope x := by first | exact Or.inl rfl | exact Or.inr rfl) (hf : X.fn x = true ∨ X.env.scope.names.lookup x = some .local := by first | exact .inl rfl | exact .inr rfl)
    (hj : X.N[j]? = some y := by rfl) (hy : Loc X.env.scope y := by first | exact Or.inl rfl | exact Or.inr rfl) (hf' : X.fn y = true ∨ X.env.scope.names.lookup y = some .local := by first | exact .inl rfl | exact .inr rfl) :
    Tg X (.Tuple [.Name x p, .Name y p2] kk pos) U2 (fun ρ t => (ρ.set i (.sh t.1)).set j (.sh t.2)) [i, j] where
  g := gTup X.K 2 (gCons (gName i) (gCons (gName j) gNil))
  pg := pg_tup hc (pgs_cons (pg_name hN hi hx hf) (pgs_cons (pg_name hN hj hy hf') pgs_nil))
  run := fun c ρ σ H d v Q F P E hl w r s k => by
    have hl : i < ρ.length ∧ j < ρ.length := by simpa using hl
    unfold U2 unp2 at s
    split at s
    · rename_i a b
      obtain ⟨p, vs, rfl, h1, h2, r1⟩ := TupAt.got rfl r rfl
      obtain ⟨v1, v2, rfl, ra, rb⟩ := r1.two
      refine ⟨p, _, rfl, h1, h2, v1, _, rfl, v2, _, rfl, rfl, ?_⟩
      have w1 := w.setSh hl.1 ra
      have ho : ∀ q, OA c (ρ.set i (.sh a)) (σ.set i (some v1)) q → OA c ρ σ q := fun q z => z.imp id (hand_set fun d e => by cases e)
      refine k (a, b) _ (w1.setSh (by rw [List.length_set]; exact hl.2) (rb.less ho)) s ?_ fun n a z => OA_kept (fun d e => ?_) (OA_kept (fun d => noOw_at n List.mem_cons_self) z)
      · rw [wipe_set (List.mem_cons_of_mem _ List.mem_cons_self), wipe_set List.mem_cons_self]
      · rcases ix_set e with ⟨_, e, _⟩ | ⟨_, e⟩
        · cases e
        · exact noOw_at n (List.mem_cons_of_mem _ List.mem_cons_self) e
    · exact s.elim
def tg3 {kk : Nat} (hc : X.calm = true) (hN : X.N.Nodup) (hi : X.N[i]? = some x := by rfl) (hx : Loc X.env.scope x := by first | exact Or.inl rfl | exact Or.inr rfl) (hf : X.fn x = true ∨ X.env.scope.names.lookup x = some .local := by first | exact .inl rfl | exact .inr rfl)
    (hj : X.N[j]? = some y := by rfl) (hy : Loc X.env.scope y := by first | exact Or.inl rfl | exact Or.inr rfl) (hf' : X.fn y = true ∨ X.env.scope.names.lookup y = some .local := by first | exact .inl rfl | exact .inr rfl)
    (hk : X.N[k]? = some z := by rfl) (hz : Loc X.env.scope z := by first | exact Or.inl rfl | exact Or.inr rfl) (hf'' : X.fn z = true ∨ X.env.scope.names.lookup z = some .local := by first | exact .inl rfl | exact .inr rfl) :
    Tg X (.Tuple [.Name x p, .Name y p2, .Name z p3] kk pos) U3 (fun ρ t => ((ρ.set i (.sh t.1)).set j (.sh t.2.1)).set k (.sh t.2.2)) [i, j, k] where
  g := gTup X.K 3 (gCons (gName i) (gCons (gName j) (gCons (gName k) gNil)))
  pg := pg_tup hc (pgs_cons (pg_name hN hi hx hf) (pgs_cons (pg_name hN hj hy hf') (pgs_cons (pg_name hN hk hz hf'') pgs_nil)))
  run := fun c ρ σ H d v Q F P E hl w r s kk => by
    have hl : i < ρ.length ∧ j < ρ.length ∧ k < ρ.length := by simpa using hl
    unfold U3 unp3 at s
    split at s
    · rename_i a b e
      obtain ⟨p, vs, rfl, h1, h2, v1, vr, rfl, ra, r1⟩ := TupAt.got rfl r rfl
      obtain ⟨v2, v3, rfl, rb, rc⟩ := RepL.two r1
      refine ⟨p, _, rfl, h1, h2, v1, _, rfl, v2, _, rfl, v3, _, rfl, rfl, ?_⟩
      have w1 := w.setSh hl.1 ra
      have ho : ∀ q, OA c (ρ.set i (.sh a)) (σ.set i (some v1)) q → OA c ρ σ q := fun q z => z.imp id (hand_set fun d e => by cases e)
      have w2 := w1.setSh (by rw [List.length_set]; exact hl.2.1) (rb.less ho)
      have ho2 : ∀ q, OA c ((ρ.set i (.sh a)).set j (.sh b)) ((σ.set i (some v1)).set j (some v2)) q → OA c ρ σ q := fun q z => ho q (z.imp id (hand_set fun d e => by cases e))
      refine kk (a, b, e) _ (w2.setSh (by rw [List.length_set, List.length_set]; exact hl.2.2) (rc.less ho2)) s ?_ fun n q z => OA_kept (fun d e => ?_) (OA_kept (fun d e => ?_) (OA_kept (fun d => noOw_at n List.mem_cons_self) z))
      · rw [wipe_set (by simp), wipe_set (by simp), wipe_set List.mem_cons_self]
      · rcases ix_set e with ⟨_, e, _⟩ | ⟨_, e⟩
        · cases e
        · rcases ix_set e with ⟨_, e, _⟩ | ⟨_, e⟩
          · cases e
          · exact noOw_at n (by simp) e
      · rcases ix_set e with ⟨_, e, _⟩ | ⟨_, e⟩
        · cases e
        · exact noOw_at n (by simp) e
    · exact s.elim
end

/-! ### for -/
section
variable {X : Cx} {W : WX} {c : Fr} {ρ : List Sl} {it tg : Expr} {mi : R (List D)} {S T β : Type} {U : (γ : Type) → D → (T → R γ) → R γ} {st : List Sl → T → List Sl} {vs : List Nat} {body rest : List Stmt} {K : Ends → β → Prop} {k : S → List Sl} {pos : Pos} {fl : Fl}
theorem drop_at {α : Type} {xs : List α} {i : Nat} {x : α} (h : xs[i]? = some x) : xs.drop i = x :: xs.drop (i + 1) := by
  obtain ⟨hi, e⟩ := List.getElem?_eq_some_iff.mp h
  rw [List.drop_eq_getElem_cons hi, e]
theorem s_for {fb : S → T → R S} {f : S → R β} (s0 : S) (hp : PassesOwn (model X.prog X.w) X.A X.env X.xe) (hc : X.calm = true) (hi : JI X W c ρ tg it mi) (G : Tg X tg U st vs) (hw : SlW ρ (k s0)) (hl : ∀ s, vs.all (fun i => decide (i < (k s).length)) = true)
    {Tt : List (Addr × Str)} (hT : c.T = Tt) (hb : ∀ c' : Fr, c'.T = Tt → ∀ s t, JX X W c' (st (k s) t) body (fb s t) (KS X c' k)) (hr : ∀ s, JX X W c (k s) rest (f s) K) (hs : ∀ x, foldedSetIterable it X.env x = pure x := by exact fun _ => rfl) :
    JX X W c ρ (.For tg it body [] pos :: rest) ((mi.bind fun xs => forR (fun s d => U S d (fb s)) s0 xs).bind f) K := by
  have hbody : PSs X body fun Dn σ H => ∃ q : {c' : Fr // c'.T = Tt} × S × T, tX X W q.1.1 (st (k q.2.1) q.2.2) (fb q.2.1 q.2.2) (KS X q.1.1 k) Dn σ H := pss_ex fun q => hb q.1.1 q.1.2 q.2.1 q.2.2
  refine PSs.imp (pss_cons (ps_for hp hc hi G.pg hbody hs) (pss_ex hr)) fun Dn σ H q => ?_
  have q' : tX X W c ρ (mi.bind fun xs => (forR (fun s d => U S d (fb s)) s0 xs).bind f) K Dn σ H := by rw [R.bind_assoc] at q; exact q
  refine Wd.mono (tX.wd q') fun xs H1 g q1 J Y hz w ys => ?_
  have w1 := q1.1
  refine for_it (g := G.g) (tb := fun Dn σ H => ∃ q : {c' : Fr // c'.T = Tt} × S × T, tX X W q.1.1 (st (k q.2.1) q.2.2) (fb q.2.1 q.2.2) (KS X q.1.1 k) Dn σ H) (D := { Dn with nx := fun σ H => ∃ d, tX X W c (k d) (f d) K Dn σ H }) w (fun i σ2 H2 => ∃ s, WI X.bs (c.at H1 (OA c ρ σ)) (k s) σ2 H2 ∧ ((forR (fun s d => U S d (fb s)) s (xs.drop i)).bind f).sat (K Dn) (ExcS X W c)) ⟨s0, ?_, q1.2⟩ (fun i σ2 H2 hi z => ?_) (fun i v σ2 H2 H3 hi z y => ?_) fun σ2 H2 z => ?_
  · exact w1.mark.weak hw
  · obtain ⟨s, w2, _⟩ := z
    exact w2.snE _ _ (.inr ⟨rfl, rfl⟩)
  · obtain ⟨s, w2, sat⟩ := z
    obtain ⟨g3, d, hd, rd⟩ := ys i H2 v H3 (OA (c.at H1 (OA c ρ σ)) (k s) σ2) hi (w2.snE _ _ (.inr ⟨rfl, rfl⟩)) (w2.snO _ _ (.inr ⟨rfl, rfl⟩)) (fun a z => w2.there a z) y
    rw [drop_at hd] at sat
    have sat2 : (U S d (fb s)).sat (fun s' => ((forR (fun s d => U S d (fb s)) s' (xs.drop (i + 1))).bind f).sat (K Dn) (ExcS X W c)) (ExcS X W c) := by
      have := R.sat_bind.mp sat
      rw [forR] at this
      refine R.sat_mono (R.sat_bind.mp this) (fun s' z => R.sat_bind.mpr z) fun _ _ z => z
    refine G.run (c.at H1 (OA c ρ σ)) (k s) σ2 H3 d v _ _ _ _ (hl s) (w2.gr g3) rd sat2 fun t σ3 w3 sat3 _ _ => ⟨(⟨c.at H1 (OA c ρ σ), hT⟩, s, t), w3, R.sat_mono sat3 (fun s' z σ4 H4 w4 => ⟨s', w4, z⟩) fun _ _ z => z⟩
  · obtain ⟨s, w2, sat⟩ := z
    rw [List.drop_eq_nil_of_le (Nat.le_refl _)] at sat
    exact ⟨s, w2.unmark, sat⟩
/-- .. with ways out -/
theorem s_forC {fb : S → T → R (Ct S)} {f : S → R β} (s0 : S) (ι : D → β) (hι : Rt X c fl K ι) (hp : PassesOwn (model X.prog X.w) X.A X.env X.xe) (hc : X.calm = true) (hi : JI X W c ρ tg it mi) (G : Tg X tg U st vs) (hw : SlW ρ (k s0)) (hl : ∀ s, vs.all (fun i => decide (i < (k s).length)) = true)
    {Tt : List (Addr × Str)} (hT : c.T = Tt) (hb : ∀ c' : Fr, c'.T = Tt → ∀ s t, JX X W c' (st (k s) t) body (fb s t) (KC X c' fl k)) (hr : ∀ s, JX X W c (k s) rest (f s) K) (hs : ∀ x, foldedSetIterable it X.env x = pure x := by exact fun _ => rfl) :
    JX X W c ρ (.For tg it body [] pos :: rest) (thenC (mi.bind fun xs => forC (fun s d => U (Ct S) d (fb s)) s0 xs) (fun d => .ok (ι d)) f) K := by
  have hbody : PSs X body fun Dn σ H => ∃ q : {c' : Fr // c'.T = Tt} × S × T, tX X W q.1.1 (st (k q.2.1) q.2.2) (fb q.2.1 q.2.2) (KC X q.1.1 fl k) Dn σ H := pss_ex fun q => hb q.1.1 q.1.2 q.2.1 q.2.2
  refine PSs.imp (pss_cons (ps_for hp hc hi G.pg hbody hs) (pss_ex hr)) fun Dn σ H q => ?_
  have q' : tX X W c ρ (mi.bind fun xs => thenC (forC (fun s d => U (Ct S) d (fb s)) s0 xs) (fun d => .ok (ι d)) f) K Dn σ H := by unfold thenC at q ⊢; rw [R.bind_assoc] at q; exact q
  refine Wd.mono (tX.wd q') fun xs H1 g q1 J Y hz w ys => ?_
  have w1 := q1.1
  refine for_it (g := G.g) (tb := fun Dn σ H => ∃ q : {c' : Fr // c'.T = Tt} × S × T, tX X W q.1.1 (st (k q.2.1) q.2.2) (fb q.2.1 q.2.2) (KC X q.1.1 fl k) Dn σ H) (D := { Dn with nx := fun σ H => ∃ d, tX X W c (k d) (f d) K Dn σ H }) w (fun i σ2 H2 => ∃ s, WI X.bs (c.at H1 (OA c ρ σ)) (k s) σ2 H2 ∧ (thenC (forC (fun s d => U (Ct S) d (fb s)) s (xs.drop i)) (fun d => .ok (ι d)) f).sat (K Dn) (ExcS X W c)) ⟨s0, ?_, q1.2⟩ (fun i σ2 H2 hi z => ?_) (fun i v σ2 H2 H3 hi z y => ?_) fun σ2 H2 z => ?_
  · exact w1.mark.weak hw
  · obtain ⟨s, w2, _⟩ := z
    exact w2.snE _ _ (.inr ⟨rfl, rfl⟩)
  · obtain ⟨s, w2, sat⟩ := z
    obtain ⟨g3, d, hd, rd⟩ := ys i H2 v H3 (OA (c.at H1 (OA c ρ σ)) (k s) σ2) hi (w2.snE _ _ (.inr ⟨rfl, rfl⟩)) (w2.snO _ _ (.inr ⟨rfl, rfl⟩)) (fun a z => w2.there a z) y
    rw [drop_at hd] at sat
    have sat2 : (U (Ct S) d (fb s)).sat (fun s' => match s' with
        | .go s' => (thenC (forC (fun s d => U (Ct S) d (fb s)) s' (xs.drop (i + 1))) (fun d => .ok (ι d)) f).sat (K Dn) (ExcS X W c)
        | .ret d => K Dn (ι d)) (ExcS X W c) := by
      have := thenC_sat.mp sat
      rw [forC] at this
      refine R.sat_mono (R.sat_bind.mp this) (fun s' z => ?_) fun _ _ z => z
      cases s' with
      | go s' => exact thenC_sat.mpr z
      | ret d => exact z
    refine G.run (c.at H1 (OA c ρ σ)) (k s) σ2 H3 d v _ _ _ _ (hl s) (w2.gr g3) rd sat2 fun t σ3 w3 sat3 _ _ => ⟨(⟨c.at H1 (OA c ρ σ), hT⟩, s, t), w3, R.sat_mono sat3 (fun s' z => ?_) fun _ _ z => z⟩
    cases s' with
    | go s' => exact fun σ4 H4 w4 => ⟨s', w4, z⟩
    | ret d => exact hι Dn _ z
  · obtain ⟨s, w2, sat⟩ := z
    rw [List.drop_eq_nil_of_le (Nat.le_refl _)] at sat
    exact ⟨s, w2.unmark, sat⟩

/-! ### while -/
theorem s_while {t : Expr} {ct : S → R Bool} {fb : S → R S} {f : S → R β} (n : Nat) (s0 : S) (hp : PassesOwn (model X.prog X.w) X.A X.env X.xe) (hw : SlW ρ (k s0)) (ht : ∀ s, JT X W c (k s) t (ct s)) (hb : ∀ s, JX X W c (k s) body (fb s) (KS X c k)) (hr : ∀ s, JX X W c (k s) rest (f s) K) :
    JX X W c ρ (.While t body [] pos :: rest) ((whR ct fb n s0).bind f) K := by
  have htest : PT X t fun σ H Q => ∃ s, tB X W c (k s) (ct s) σ H Q := ⟨fun pins s σ H Q I ⟨x, q⟩ => (ht x).run pins s σ H Q I q⟩
  have hbody : PSs X body fun Dn σ H => ∃ s, tX X W c (k s) (fb s) (KS X c k) Dn σ H := pss_ex hb
  refine PSs.imp (pss_cons (ps_while hp htest hbody) (pss_ex hr)) fun Dn σ H q => ?_
  refine ⟨fun m σ2 H2 => ∃ s, WI X.bs c (k s) σ2 H2 ∧ ((whR ct fb m s).bind f).sat (K Dn) (ExcS X W c), ⟨n, s0, q.1.weak hw, q.2⟩, fun m σ2 H2 z => ?_⟩
  obtain ⟨s, w, sat⟩ := z
  cases m with
  | zero => exact sat.elim
  | succ m =>
    refine ⟨s, w, ?_⟩
    have sat1 := R.sat_bind.mp sat
    rw [whR] at sat1
    have sat2 := ifR_sat.mp sat1
    refine R.sat_mono sat2 (fun b z H3 g => ?_) fun cl fs y x dd H' g ev => y x dd σ2 H' (w.ext.trans g) ev
    cases b with
    | true => exact ⟨fun σ4 H4 => ∃ s, WI X.bs c (k s) σ4 H4 ∧ ((whR ct fb m s).bind f).sat (K Dn) (ExcS X W c), fun σ4 H4 y => ⟨m, Nat.lt_succ_self m, y⟩, s, w.pg g, R.sat_mono (R.sat_bind.mp z) (fun s' y σ4 H4 w4 => ⟨s', w4, R.sat_bind.mpr y⟩) fun _ _ y => y⟩
    | false => exact ⟨s, w.pg g, z⟩
theorem s_whileC {t : Expr} {ct : S → R Bool} {fb : S → R (Ct S)} {f : S → R β} (n : Nat) (s0 : S) (ι : D → β) (hι : Rt X c fl K ι) (hp : PassesOwn (model X.prog X.w) X.A X.env X.xe) (hw : SlW ρ (k s0)) (ht : ∀ s, JT X W c (k s) t (ct s)) (hb : ∀ s, JX X W c (k s) body (fb s) (KC X c fl k)) (hr : ∀ s, JX X W c (k s) rest (f s) K) :
    JX X W c ρ (.While t body [] pos :: rest) (thenC (whC ct fb n s0) (fun d => .ok (ι d)) f) K := by
  have htest : PT X t fun σ H Q => ∃ s, tB X W c (k s) (ct s) σ H Q := ⟨fun pins s σ H Q I ⟨x, q⟩ => (ht x).run pins s σ H Q I q⟩
  have hbody : PSs X body fun Dn σ H => ∃ s, tX X W c (k s) (fb s) (KC X c fl k) Dn σ H := pss_ex hb
  refine PSs.imp (pss_cons (ps_while hp htest hbody) (pss_ex hr)) fun Dn σ H q => ?_
  refine ⟨fun m σ2 H2 => ∃ s, WI X.bs c (k s) σ2 H2 ∧ (thenC (whC ct fb m s) (fun d => .ok (ι d)) f).sat (K Dn) (ExcS X W c), ⟨n, s0, q.1.weak hw, q.2⟩, fun m σ2 H2 z => ?_⟩
  obtain ⟨s, w, sat⟩ := z
  cases m with
  | zero => exact sat.elim
  | succ m =>
    refine ⟨s, w, ?_⟩
    have sat1 := thenC_sat.mp sat
    rw [whC] at sat1
    have sat2 := ifR_sat.mp sat1
    refine R.sat_mono sat2 (fun b z H3 g => ?_) fun cl fs y x dd H' g ev => y x dd σ2 H' (w.ext.trans g) ev
    cases b with
    | true =>
      refine ⟨fun σ4 H4 => ∃ s, WI X.bs c (k s) σ4 H4 ∧ (thenC (whC ct fb m s) (fun d => .ok (ι d)) f).sat (K Dn) (ExcS X W c), fun σ4 H4 y => ⟨m, Nat.lt_succ_self m, y⟩, s, w.pg g, R.sat_mono (R.sat_bind.mp z) (fun s' y => ?_) fun _ _ y => y⟩
      cases s' with
      | go s' => exact fun σ4 H4 w4 => ⟨s', w4, thenC_sat.mpr y⟩
      | ret d => exact hι Dn _ y
    | false => exact ⟨s, w.pg g, z⟩
end
end Ev


set_option Elab.async false
set_option linter.all false
set_option maxRecDepth 100000
/-! Ev, part C: list comprehensions. -/
namespace Ev
open PySem PySem.Spec PyProof.Rows L2

/-- nothing is let out of a comprehension's block -/
abbrev W0 : WX := fun _ _ _ _ => False
theorem pe_ex {X : Cx} {e : Expr} {γ : Type} {t : γ → TE} (h : ∀ d, PE X e (t d)) : PE X e fun σ H Q => ∃ d, t d σ H Q := ⟨fun pins s σ H Q I ⟨d, q⟩ => (h d).run pins s σ H Q I q⟩
theorem pt_ex {X : Cx} {e : Expr} {γ : Type} {t : γ → TT} (h : ∀ d, PT X e (t d)) : PT X e fun σ H Q => ∃ d, t d σ H Q := ⟨fun pins s σ H Q I ⟨d, q⟩ => (h d).run pins s σ H Q I q⟩
/-- one more is in hand -/
abbrev Fr.plus (c : Fr) (D : Addr) : Fr := { c with O0 := fun a => c.O0 a ∨ a = D }
section
variable {B : Bs} {c : Fr} {ρ : List Sl} {σ : L2.St} {H H1 : Hp} {D : Addr}
theorem OA_plus {a : Addr} : OA (c.plus D) ρ σ a ↔ OA c ρ σ a ∨ a = D := by
  unfold OA
  constructor
  · rintro ((z | z) | z)
    · exact .inl (.inl z)
    · exact .inr z
    · exact .inl (.inr z)
  · rintro ((z | z) | z)
    · exact .inl (.inl z)
    · exact .inr z
    · exact .inl (.inr z)
/-- the frame with a new object at D, seen from the heap ahead of it -/
theorem WI.plus (w : WI B c ρ σ H1) (hD : Fre H1 D) (g : Pg c.T c.hd H1 H) (e : Thr H D) : WI B (c.plus D) ρ σ H := by
  have w' := w.pg g
  have k : Kp H1 H (OA c ρ σ) (OA (c.plus D) ρ σ) := .of fun a u t e n => ⟨g.kp a u t e fun z => n (w.hdO a z), fun z => (OA_plus.mp z).elim n fun z => hD.no ⟨u, t, by rw [← z]; exact e⟩⟩
  have nhd : ¬ c.hd D := fun z => hD.no (w.hth D z)
  refine ⟨w.len, fun i d z => ?_, fun i d z => ?_, w.hsl, w.vas, w.dj, fun a z => ?_, fun a z => .inl (w.hdo a z), fun a z => ?_, w'.ext, w.h00, w'.tbs, w'.snE, w'.snT, fun Hs Os z a q => ?_, w.snH⟩
  · obtain ⟨v, e, r⟩ := w.shs i d z
    exact ⟨v, e, r.kp k⟩
  · obtain ⟨a, e, r, f, m, m2⟩ := w.ows i d z
    have hne : a ≠ D := fun z => hD.no (by rw [← z]; exact r.thr)
    exact ⟨a, e, r.kp k fun u t e => g.kp a u t e m, f, m, fun z => z.elim m2 hne⟩
  · rcases z with z | rfl
    · exact w'.o0 a z
    · exact e
  · obtain ⟨p, q, n⟩ := w.hds a z
    refine ⟨p, g.hs a p z q, fun y => (OA_plus.mp y).elim n fun y => ?_⟩
    exact hD.no (by rw [← y]; exact q.cells)
  · rcases OA_plus.mp q with q | rfl
    · exact w.snO Hs Os z a q
    · exact .inl fun u q t => hD.no (w.snT Hs Os z a ⟨u, t, q⟩)
theorem wipeS_len (ρ : List Sl) : ∀ vs : List Nat, (wipeS ρ vs).length = ρ.length
  | [] => rfl
  | v :: vs => by unfold wipeS; rw [List.length_set, wipeS_len ρ vs]
theorem wipeS_get {ρ : List Sl} {j : Nat} {s : Sl} : ∀ {vs : List Nat}, (wipeS ρ vs)[j]? = some s → s = Sl.no ∨ (ρ[j]? = some s ∧ j ∉ vs)
  | [], h => .inr ⟨h, by simp⟩
  | v :: vs, h => by
    unfold wipeS at h
    rcases ix_set h with ⟨_, e, _⟩ | ⟨n, h⟩
    · exact .inl e
    · rcases wipeS_get h with e | ⟨e, m⟩
      · exact .inl e
      · exact .inr ⟨e, by simp only [List.mem_cons, not_or]; exact ⟨fun z => n z.symm, m⟩⟩
theorem wipeS_keep {ρ : List Sl} {j : Nat} : ∀ {vs : List Nat}, j ∉ vs → (wipeS ρ vs)[j]? = ρ[j]?
  | [], _ => rfl
  | v :: vs, h => by
    unfold wipeS
    rw [List.getElem?_set_ne fun z => h (by rw [z]; exact List.mem_cons_self), wipeS_keep fun z => h (List.mem_cons_of_mem _ z)]
theorem wipe_keep {σ : L2.St} {j : Nat} : ∀ {vs : List Nat}, j ∉ vs → (wipe σ vs)[j]? = σ[j]?
  | [], _ => rfl
  | v :: vs, h => by
    unfold wipe
    rw [List.getElem?_set_ne fun z => h (by rw [z]; exact List.mem_cons_self), wipe_keep fun z => h (List.mem_cons_of_mem _ z)]
theorem WI.wipe (w : WI B c ρ σ H) (vs : List Nat) : WI B c (wipeS ρ vs) (L2.wipe σ vs) H := w.sub (by rw [wipeS_len, wipe_length]; exact w.len) fun j s e => (wipeS_get e).imp id fun z => ⟨z.1, wipe_keep z.2⟩
theorem OA_wipe {vs : List Nat} (n : noOw ρ vs = true) {a : Addr} (h : OA c ρ σ a) : OA c (wipeS ρ vs) (L2.wipe σ vs) a := h.imp id fun ⟨i, d, e1, e2⟩ => by
  have hi : i ∉ vs := fun z => noOw_at n z e1
  exact ⟨i, d, by rw [wipeS_keep hi]; exact e1, by rw [wipe_keep hi]; exact e2⟩
end
section
variable {X : Cx} {W : WX} {c : Fr} {ρ : List Sl} {T : Type} {U : (γ : Type) → D → (T → R γ) → R γ} {st : List Sl → T → List Sl} {vs : List Nat} {mi : R (List D)} {tg iter elt : Expr} {ifs : List Expr} {scope : Scope} {own : List (Str × Nat)} {pos : Pos}
/-- the readings of a comprehension's test and element -/
def tCt (X : Cx) (ρ : List Sl) (st : List Sl → T → List Sl) (vs : List Nat) (Tt : List (Addr × Str)) (C : T → R Bool) : TT := fun σ H Q => ∃ q : {c' : Fr // c'.T = Tt} × T, tB X W0 q.1.1 (st (wipeS ρ vs) q.2) (C q.2) σ H Q
def tCe (X : Cx) (ρ : List Sl) (st : List Sl → T → List Sl) (vs : List Nat) (Tt : List (Addr × Str)) (F : T → R D) : TE := fun σ H Q => ∃ q : {c' : Fr // c'.T = Tt} × T, tE X W0 q.1.1 (st (wipeS ρ vs) q.2) .sh (F q.2) σ H Q
theorem Wd.wish {σ : L2.St} {H : Hp} {α : Type} {m : R α} {P : α → Hp → Prop} (w : WI X.bs c ρ σ H) (h : m.sat (fun a => ∀ H', Pg c.T c.hd H H' → P a H') fun _ _ => False) : Wd X W0 c ρ σ m H P := ⟨w, R.sat_mono h (fun _ z => z) fun _ _ z => z.elim⟩
/-- what the list under way holds -/
structure Acc (X : Cx) (c : Fr) (O : Ad) (H1 : Hp) (Da : Addr) (i : Nat) (ds : List D) (H : Hp) : Prop where
  pg : Pg c.T c.hd H1 H
  ex : ∃ acc, H Da = some (.lst acc) ∧ RepL X.bs H (fun b => O b ∨ b = Da) ds acc ∧ acc.length ≤ i
theorem Acc.next {O : Ad} {H1 H4 : Hp} {Da : Addr} {i : Nat} {ds : List D} {d : D} {v : V} (nhd : ¬ c.hd Da) (hO : ∀ a, c.hd a → O a) (hh : ∀ a, c.hd a → Thr H1 a) (hn : H1 Da = none) (a : Acc X c O H1 Da i ds H4) (r : Rep X.bs H4 (fun b => O b ∨ b = Da) d v) :
    ∃ acc, H4 Da = some (.lst acc) ∧ (i < SZ → acc.length < sizeLine) ∧ Acc X c O H1 Da (i + 1) (ds ++ [d]) (L2.upd H4 Da (.lst (acc ++ [v]))) := by
  obtain ⟨acc, e, r0, hl⟩ := a.ex
  refine ⟨acc, e, fun hi => by rw [← SZ_eq]; omega, ⟨?_, ?_, ?_, fun h p hp => tab_upd e nt_lst (fun _ z => by cases z) (a.pg.tb h p hp)⟩, ?_⟩
  · intro b u t q n
    rw [upd_ne fun z => by rw [z, hn] at q; cases q]
    exact a.pg.kp b u t q n
  · intro b p hb q
    obtain ⟨u0, q0⟩ := q.cells.ex
    obtain ⟨u1, q1⟩ := q.there.ex
    obtain ⟨cs, x, y, z', l, w, h1, h2⟩ := a.pg.hs b p hb q
    refine ⟨cs, x, y, z', l, w, ?_, ?_⟩
    · rw [upd_ne fun z => by rw [z, hn] at q1; cases q1]; exact h1
    · rw [upd_ne fun z => by rw [z, hn] at q0; cases q0]; exact h2
  · intro b q
    obtain ⟨u1, t1, e1⟩ := a.pg.th b q
    by_cases n : b = Da
    · rw [n]; exact ⟨_, nt_lst, upd_same⟩
    · exact ⟨u1, t1, by rw [upd_ne n]; exact e1⟩
  · have k : Kp H4 (L2.upd H4 Da (.lst (acc ++ [v]))) (fun b => O b ∨ b = Da) (fun b => O b ∨ b = Da) := .of fun b u _ q n => ⟨by rw [upd_ne fun z => n (.inr z)]; exact q, n⟩
    exact ⟨_, upd_same, (r0.kp k).append (RepL.cons (r.kp k) rfl), by rw [List.length_append, List.length_singleton]; omega⟩
theorem Acc.on {O : Ad} {H1 H2 H3 : Hp} {Da : Addr} {i : Nat} {ds : List D} (nhd : ¬ c.hd Da) (hO : ∀ a, c.hd a → O a) (a : Acc X c O H1 Da i ds H2) (g : Pg c.T c.hd H2 H3) : Acc X c O H1 Da i ds H3 := by
  obtain ⟨acc, e, r, hl⟩ := a.ex
  exact ⟨a.pg.trans g, acc, g.kp _ _ nt_lst e nhd, r.kp (.of fun b u t q n => ⟨g.kp b u t q fun z => n (.inl (hO b z)), n⟩), hl⟩
theorem lf_read {g0 : TG} {C : T → R Bool} {F : T → R D} (run : ∀ {γ : Type} (c : Fr) (ρ : List Sl) (σ : L2.St) (H : Hp) (d : D) (v : V) (Q : L2.St → Hp → Prop) (F : T → R γ) (P : γ → Prop) (E : String → List (String × D) → Prop), vs.all (fun i => decide (i < ρ.length)) = true → WI X.bs c ρ σ H → Rep X.bs H (OA c ρ σ) d v → (U γ d F).sat P E →
    (∀ t σ', WI X.bs c (st ρ t) σ' H → (F t).sat P E → wipe σ' vs = wipe σ vs → (noOw ρ vs = true → ∀ a, OA c ρ σ a → OA c (st ρ t) σ' a) → Q σ' H) → g0 v σ H Q)
    {Tt : List (Addr × Str)} (hT : c.T = Tt) (hl : vs.all (fun i => decide (i < ρ.length)) = true) (no : noOw ρ vs = true) {σ : L2.St} {H : Hp} {Q : VK}
    (q : tE X W c ρ .ra (lfR mi fun d => U _ d fun t => keep (C t) (F t)) σ H Q) : tLc (tI X W c ρ mi) g0 (tCt X ρ st vs Tt C) (tCe X ρ st vs Tt F) vs σ H Q := by
  refine Wd.mono (Wd.bind q) fun xs H1 g q1 J Y hz w ys Da hD => ?_
  have w1 := q1.1
  have nhd : ¬ c.hd Da := fun z => (Fre.of hD).no (w1.hth Da z)
  have hn : Pg c.T c.hd H1 (L2.upd H1 Da (.lst [])) := (Gr.laid hD).pg
  let stp : D → R (Option D) := fun d => nx (U _ d fun t => keep (C t) (F t))
  refine lc_it w (fun i H2 => ∃ ds, Acc X c (OA c ρ σ) H1 Da i ds H2 ∧ (filR stp (xs.drop i)).sat (fun ys => ∀ H', Pg c.T c.hd H1 H' → ∀ v, RepX X.bs c.hd H H' (OA c ρ σ) .ra (.lst (ds ++ ys)) v → Q v H') fun _ _ => True) ⟨[], ⟨hn, [], upd_same, rfl, Nat.zero_le _⟩, ?_⟩ (fun i H2 hi z => ?_) (fun i v H2 H3 hi z y => ?_) fun H2 z => ?_
  · exact R.sat_mono (R.sat_map.mp q1.2) (fun ys z => z) fun _ _ _ => trivial
  · obtain ⟨ds, a, _⟩ := z
    exact fun b u t e n => a.pg.kp b u t e fun z => n (w1.hdO b z)
  · obtain ⟨ds, a, sat⟩ := z
    have stl : Still H1 (OA c ρ σ) H2 := fun b u t e n => a.pg.kp b u t e fun z => n (w1.hdO b z)
    obtain ⟨acc0, eD, _, _⟩ := a.ex
    have w2 := (w1.plus (.of hD) a.pg ⟨_, nt_lst, eD⟩).wipe vs
    have hO1 : ∀ b, OA (c.plus Da) (wipeS ρ vs) (wipe σ vs) b → OA c ρ σ b ∨ b = Da := fun b z => by
      rcases z with (z | z) | ⟨j, d, e1, e2⟩
      · exact .inl (.inl z)
      · exact .inr z
      · rcases wipeS_get e1 with e | ⟨e, m⟩
        · cases e
        · exact .inl (.inr ⟨j, d, e, by rw [wipe_keep m] at e2; exact e2⟩)
    have hO2 : ∀ b, (OA c ρ σ b ∨ b = Da) → OA (c.plus Da) (wipeS ρ vs) (wipe σ vs) b := fun b z => OA_plus.mpr (z.imp (OA_wipe no) id)
    obtain ⟨g3, d, hd, rd⟩ := ys i H2 v H3 (OA (c.plus Da) (wipeS ρ vs) (wipe σ vs)) hi stl (fun b z => by
      rcases hO1 b z with z | rfl
      · exact .inr z
      · exact .inl (.of hD)) (fun b z => w2.there b z) y
    rw [drop_at hd] at sat
    have sat2 : (U _ d fun t => keep (C t) (F t)).sat (fun o => (filR stp (xs.drop (i + 1))).sat (fun ys => ∀ H', Pg c.T c.hd H1 H' → ∀ v, RepX X.bs c.hd H H' (OA c ρ σ) .ra (.lst (ds ++ (match o with
        | some y => y :: ys
        | none => ys))) v → Q v H') fun _ _ => True) (fun _ _ => False) := by
      have := R.sat_bind.mp sat
      refine nx_sat (R.sat_mono this (fun o z => by cases o <;> exact R.sat_map.mp z) fun _ _ z => z) (E' := fun _ _ => False)
    have a3 := a.on nhd w1.hdO g3.pg
    refine run (c.plus Da) (wipeS ρ vs) (wipe σ vs) H3 d v _ _ _ _ (by rw [wipeS_len]; exact hl) (w2.gr g3) rd sat2 fun t σ2 w3 sat3 hw hk => ⟨by
      rw [hw]
      have key : ∀ ws : List Nat, (∀ j ∈ ws, j ∈ vs) → wipe (wipe σ vs) ws = wipe σ vs := by
        intro ws
        induction ws with
        | nil => intro _; rfl
        | cons j ws ih =>
          intro h
          show (wipe (wipe σ vs) ws).set j none = _
          rw [ih fun k z => h k (List.mem_cons_of_mem _ z)]
          have : j ∈ vs := h j List.mem_cons_self
          have key2 : ∀ us : List Nat, j ∈ us → (wipe σ us).set j none = wipe σ us := by
            intro us
            induction us with
            | nil => intro z; cases z
            | cons k us ih2 =>
              intro z
              unfold wipe
              by_cases e : j = k
              · subst e; rw [List.set_set]
              · rw [List.set_comm _ _ (Ne.symm e), ih2 ((List.mem_cons.mp z).resolve_left e)]
          exact key2 vs this
      exact key vs fun _ z => z, ?_⟩
    have hO3 : ∀ b, (OA c ρ σ b ∨ b = Da) → OA (c.plus Da) (st (wipeS ρ vs) t) σ2 b := fun b z => hk (by
      unfold noOw
      refine List.all_eq_true.mpr fun j hj => ?_
      cases e : (wipeS ρ vs)[j]? with
      | none => rfl
      | some s =>
        rcases wipeS_get e with e | ⟨_, m⟩
        · rw [e]
        · exact absurd hj m) b (hO2 b z)
    refine ⟨(⟨c.plus Da, hT⟩, t), Wd.wish w3 (R.sat_mono (R.sat_bind.mp sat3) (fun b z H4 g4 => ?_) fun _ _ z => z)⟩
    have a4 := a3.on nhd w1.hdO g4
    cases b with
    | true =>
      refine ⟨(⟨c.plus Da, hT⟩, t), Wd.wish (w3.pg g4) (R.sat_mono (R.sat_map.mp (show ((F t).map some).sat _ _ from z)) (fun d' z H5 g5 v' rv => ?_) fun _ _ z => z)⟩
      have a5 := a4.on nhd w1.hdO g5
      obtain ⟨acc, e5, hs, a6⟩ := Acc.next nhd w1.hdO w1.hth hD a5 (Rep.less hO3 (show Rep X.bs H5 _ d' v' from rv))
      refine ⟨acc, e5, hs (by omega), ds ++ [d'], a6, ?_⟩
      refine R.sat_mono z (fun ys z => ?_) fun _ _ z => z
      rw [List.append_assoc]
      exact z
    | false => exact ⟨ds, ⟨a4.pg, let ⟨acc, e, r, h⟩ := a4.ex; ⟨acc, e, r, by omega⟩⟩, z⟩
  · obtain ⟨ds, a, sat⟩ := z
    rw [List.drop_eq_nil_of_le (Nat.le_refl _)] at sat
    obtain ⟨acc, e, r, _⟩ := a.ex
    have sat : ∀ H', Pg c.T c.hd H1 H' → ∀ v, RepX X.bs c.hd H H' (OA c ρ σ) .ra (.lst (ds ++ [])) v → Q v H' := sat
    rw [List.append_nil] at sat
    exact sat H2 a.pg _ ⟨Da, rfl, q.1.none g (.of hD), acc, e, r⟩
theorem lc_read {g0 : TG} {F : T → R D} (run : ∀ {γ : Type} (c : Fr) (ρ : List Sl) (σ : L2.St) (H : Hp) (d : D) (v : V) (Q : L2.St → Hp → Prop) (F : T → R γ) (P : γ → Prop) (E : String → List (String × D) → Prop), vs.all (fun i => decide (i < ρ.length)) = true → WI X.bs c ρ σ H → Rep X.bs H (OA c ρ σ) d v → (U γ d F).sat P E →
    (∀ t σ', WI X.bs c (st ρ t) σ' H → (F t).sat P E → wipe σ' vs = wipe σ vs → (noOw ρ vs = true → ∀ a, OA c ρ σ a → OA c (st ρ t) σ' a) → Q σ' H) → g0 v σ H Q)
    {Tt : List (Addr × Str)} (hT : c.T = Tt) (hl : vs.all (fun i => decide (i < ρ.length)) = true) (no : noOw ρ vs = true) {σ : L2.St} {H : Hp} {Q : VK}
    (q : tE X W c ρ .ra (lcR mi fun d => U _ d F) σ H Q) : tLc (tI X W c ρ mi) g0 tYes (tCe X ρ st vs Tt F) vs σ H Q := by
  refine Wd.mono (Wd.bind q) fun xs H1 g q1 J Y hz w ys Da hD => ?_
  have w1 := q1.1
  have nhd : ¬ c.hd Da := fun z => (Fre.of hD).no (w1.hth Da z)
  have hn : Pg c.T c.hd H1 (L2.upd H1 Da (.lst [])) := (Gr.laid hD).pg
  let stp : D → R D := fun d => nx (U _ d F)
  refine lc_it w (fun i H2 => ∃ ds, Acc X c (OA c ρ σ) H1 Da i ds H2 ∧ (mapR stp (xs.drop i)).sat (fun ys => ∀ H', Pg c.T c.hd H1 H' → ∀ v, RepX X.bs c.hd H H' (OA c ρ σ) .ra (.lst (ds ++ ys)) v → Q v H') fun _ _ => True) ⟨[], ⟨hn, [], upd_same, rfl, Nat.zero_le _⟩, ?_⟩ (fun i H2 hi z => ?_) (fun i v H2 H3 hi z y => ?_) fun H2 z => ?_
  · exact R.sat_mono (R.sat_map.mp q1.2) (fun ys z => z) fun _ _ _ => trivial
  · obtain ⟨ds, a, _⟩ := z
    exact fun b u t e n => a.pg.kp b u t e fun z => n (w1.hdO b z)
  · obtain ⟨ds, a, sat⟩ := z
    have stl : Still H1 (OA c ρ σ) H2 := fun b u t e n => a.pg.kp b u t e fun z => n (w1.hdO b z)
    obtain ⟨acc0, eD, _, _⟩ := a.ex
    have w2 := (w1.plus (.of hD) a.pg ⟨_, nt_lst, eD⟩).wipe vs
    have hO1 : ∀ b, OA (c.plus Da) (wipeS ρ vs) (wipe σ vs) b → OA c ρ σ b ∨ b = Da := fun b z => by
      rcases z with (z | z) | ⟨j, d, e1, e2⟩
      · exact .inl (.inl z)
      · exact .inr z
      · rcases wipeS_get e1 with e | ⟨e, m⟩
        · cases e
        · exact .inl (.inr ⟨j, d, e, by rw [wipe_keep m] at e2; exact e2⟩)
    have hO2 : ∀ b, (OA c ρ σ b ∨ b = Da) → OA (c.plus Da) (wipeS ρ vs) (wipe σ vs) b := fun b z => OA_plus.mpr (z.imp (OA_wipe no) id)
    obtain ⟨g3, d, hd, rd⟩ := ys i H2 v H3 (OA (c.plus Da) (wipeS ρ vs) (wipe σ vs)) hi stl (fun b z => by
      rcases hO1 b z with z | rfl
      · exact .inr z
      · exact .inl (.of hD)) (fun b z => w2.there b z) y
    rw [drop_at hd] at sat
    have sat2 : (U _ d F).sat (fun o => (mapR stp (xs.drop (i + 1))).sat (fun ys => ∀ H', Pg c.T c.hd H1 H' → ∀ v, RepX X.bs c.hd H H' (OA c ρ σ) .ra (.lst (ds ++ o :: ys)) v → Q v H') fun _ _ => True) (fun _ _ => False) := by
      have := R.sat_bind.mp sat
      refine nx_sat (R.sat_mono this (fun o z => R.sat_map.mp z) fun _ _ z => z) (E' := fun _ _ => False)
    have a3 := a.on nhd w1.hdO g3.pg
    refine run (c.plus Da) (wipeS ρ vs) (wipe σ vs) H3 d v _ _ _ _ (by rw [wipeS_len]; exact hl) (w2.gr g3) rd sat2 fun t σ2 w3 sat3 hw hk => ⟨by
      rw [hw]
      have key : ∀ ws : List Nat, (∀ j ∈ ws, j ∈ vs) → wipe (wipe σ vs) ws = wipe σ vs := by
        intro ws
        induction ws with
        | nil => intro _; rfl
        | cons j ws ih =>
          intro h
          show (wipe (wipe σ vs) ws).set j none = _
          rw [ih fun k z => h k (List.mem_cons_of_mem _ z)]
          have : j ∈ vs := h j List.mem_cons_self
          have key2 : ∀ us : List Nat, j ∈ us → (wipe σ us).set j none = wipe σ us := by
            intro us
            induction us with
            | nil => intro z; cases z
            | cons k us ih2 =>
              intro z
              unfold wipe
              by_cases e : j = k
              · subst e; rw [List.set_set]
              · rw [List.set_comm _ _ (Ne.symm e), ih2 ((List.mem_cons.mp z).resolve_left e)]
          exact key2 vs this
      exact key vs fun _ z => z, ?_⟩
    have hO3 : ∀ b, (OA c ρ σ b ∨ b = Da) → OA (c.plus Da) (st (wipeS ρ vs) t) σ2 b := fun b z => hk (by
      unfold noOw
      refine List.all_eq_true.mpr fun j hj => ?_
      cases e : (wipeS ρ vs)[j]? with
      | none => rfl
      | some s =>
        rcases wipeS_get e with e | ⟨_, m⟩
        · rw [e]
        · exact absurd hj m) b (hO2 b z)
    show ∃ q : {c' : Fr // c'.T = Tt} × T, _
    refine ⟨(⟨c.plus Da, hT⟩, t), Wd.wish w3 (R.sat_mono sat3 (fun d' z H5 g5 v' rv => ?_) fun _ _ z => z)⟩
    have a5 := a3.on nhd w1.hdO g5
    obtain ⟨acc, e5, hs, a6⟩ := Acc.next nhd w1.hdO w1.hth hD a5 (Rep.less hO3 (show Rep X.bs H5 _ d' v' from rv))
    refine ⟨acc, e5, hs (by omega), ds ++ [d'], a6, ?_⟩
    refine R.sat_mono z (fun ys z => ?_) fun _ _ z => z
    rw [List.append_assoc]
    exact z
  · obtain ⟨ds, a, sat⟩ := z
    rw [List.drop_eq_nil_of_le (Nat.le_refl _)] at sat
    obtain ⟨acc, e, r, _⟩ := a.ex
    have sat : ∀ H', Pg c.T c.hd H1 H' → ∀ v, RepX X.bs c.hd H H' (OA c ρ σ) .ra (.lst (ds ++ [])) v → Q v H' := sat
    rw [List.append_nil] at sat
    exact sat H2 a.pg _ ⟨Da, rfl, q.1.none g (.of hD), acc, e, r⟩

/-- [e for t in it if test] -/
theorem e_lf {C : T → R Bool} {F : T → R D} {ct : Expr} {Tt : List (Addr × Str)} (hT : c.T = Tt) (hc : X.calm = true) (hN : X.N.Nodup) (hi : JI X W c ρ tg iter mi) (ok : BlkOk X.N X.env.scope scope own) (G : ∀ (s : Shared) (H : Hp) (Ca : Addr) (cl : List (Str × Addr)) (fp : List Addr), Tg (X.blk s H scope (compEnvC scope cl Ca X.env) fp) tg U st (own.map (·.2)))
    (hg : ∀ s H Ca cl fp, (G s H Ca cl fp).g = (G X.s_0 X.H_0 0 [] []).g) (hl : (own.map (·.2)).all (fun i => decide (i < ρ.length)) = true) (no : noOw ρ (own.map (·.2)) = true)
    (ht : ∀ (s : Shared) (H : Hp) (Ca : Addr) (cl : List (Str × Addr)) (fp : List Addr) (c' : Fr) (hT' : c'.T = Tt) (t : T), JT (X.blk s H scope (compEnvC scope cl Ca X.env) fp) W0 c' (st (wipeS ρ (own.map (·.2))) t) ct (C t))
    (he : ∀ (s : Shared) (H : Hp) (Ca : Addr) (cl : List (Str × Addr)) (fp : List Addr) (c' : Fr) (hT' : c'.T = Tt) (t : T), JE (X.blk s H scope (compEnvC scope cl Ca X.env) fp) W0 c' (st (wipeS ρ (own.map (·.2))) t) .sh elt (F t)) (hs : ∀ x, foldedSetIterable iter X.env x = pure x := by exact fun _ => rfl) :
    JE X W c ρ .ra (.ListComp elt [⟨tg, iter, [ct], 0⟩] scope pos) (lfR mi fun d => U _ d fun t => keep (C t) (F t)) :=
  PE.imp (pe_lc (g := (G X.s_0 X.H_0 0 [] []).g) (tt := tCt X ρ st (own.map (·.2)) Tt C) (te := tCe X ρ st (own.map (·.2)) Tt F) hc hN hi ok (fun s H Ca cl fp => hg s H Ca cl fp ▸ (G s H Ca cl fp).pg) (fun s H Ca cl fp => pts_one (pt_ex fun q => ht s H Ca cl fp q.1.1 q.1.2 q.2)) (fun s H Ca cl fp => pe_ex fun q => he s H Ca cl fp q.1.1 q.1.2 q.2) hs)
    fun σ H Q q => lf_read (G X.s_0 X.H_0 0 [] []).run hT hl no q
theorem e_lc {F : T → R D} {Tt : List (Addr × Str)} (hT : c.T = Tt) (hc : X.calm = true) (hN : X.N.Nodup) (hi : JI X W c ρ tg iter mi) (ok : BlkOk X.N X.env.scope scope own) (G : ∀ (s : Shared) (H : Hp) (Ca : Addr) (cl : List (Str × Addr)) (fp : List Addr), Tg (X.blk s H scope (compEnvC scope cl Ca X.env) fp) tg U st (own.map (·.2)))
    (hg : ∀ s H Ca cl fp, (G s H Ca cl fp).g = (G X.s_0 X.H_0 0 [] []).g) (hl : (own.map (·.2)).all (fun i => decide (i < ρ.length)) = true) (no : noOw ρ (own.map (·.2)) = true)
    (he : ∀ (s : Shared) (H : Hp) (Ca : Addr) (cl : List (Str × Addr)) (fp : List Addr) (c' : Fr) (hT' : c'.T = Tt) (t : T), JE (X.blk s H scope (compEnvC scope cl Ca X.env) fp) W0 c' (st (wipeS ρ (own.map (·.2))) t) .sh elt (F t)) (hs : ∀ x, foldedSetIterable iter X.env x = pure x := by exact fun _ => rfl) :
    JE X W c ρ .ra (.ListComp elt [⟨tg, iter, [], 0⟩] scope pos) (lcR mi fun d => U _ d F) :=
  PE.imp (pe_lc (g := (G X.s_0 X.H_0 0 [] []).g) (tt := tYes) (te := tCe X ρ st (own.map (·.2)) Tt F) hc hN hi ok (fun s H Ca cl fp => hg s H Ca cl fp ▸ (G s H Ca cl fp).pg) (fun s H Ca cl fp => pts_nil) (fun s H Ca cl fp => pe_ex fun q => he s H Ca cl fp q.1.1 q.1.2 q.2) hs)
    fun σ H Q q => lc_read (G X.s_0 X.H_0 0 [] []).run hT hl no q
/-- name = [..] -/
theorem s_setLf {β : Type} {K : Ends → β → Prop} {f : D → R β} {rest : List Stmt} {C : T → R Bool} {F : T → R D} {ct : Expr} {i : Nat} {y : Str} {py spos : Pos} {Tt : List (Addr × Str)} (hT : c.T = Tt) (hc : X.calm = true) (hN : X.N.Nodup) (hi : JI X W c ρ tg iter mi) (ok : BlkOk X.N X.env.scope scope own) (G : ∀ (s : Shared) (H : Hp) (Ca : Addr) (cl : List (Str × Addr)) (fp : List Addr), Tg (X.blk s H scope (compEnvC scope cl Ca X.env) fp) tg U st (own.map (·.2)))
    (hg : ∀ s H Ca cl fp, (G s H Ca cl fp).g = (G X.s_0 X.H_0 0 [] []).g) (hl : (own.map (·.2)).all (fun i => decide (i < ρ.length)) = true) (no : noOw ρ (own.map (·.2)) = true)
    (ht : ∀ (s : Shared) (H : Hp) (Ca : Addr) (cl : List (Str × Addr)) (fp : List Addr) (c' : Fr) (hT' : c'.T = Tt) (t : T), JT (X.blk s H scope (compEnvC scope cl Ca X.env) fp) W0 c' (st (wipeS ρ (own.map (·.2))) t) ct (C t))
    (he : ∀ (s : Shared) (H : Hp) (Ca : Addr) (cl : List (Str × Addr)) (fp : List Addr) (c' : Fr) (hT' : c'.T = Tt) (t : T), JE (X.blk s H scope (compEnvC scope cl Ca X.env) fp) W0 c' (st (wipeS ρ (own.map (·.2))) t) .sh elt (F t))
    (hil : i < ρ.length) (hy : X.N[i]? = some y) (hyl : X.env.scope.names.lookup y = some .local) (hsw : swapsWith (.ListComp elt [⟨tg, iter, [ct], 0⟩] scope pos) (some (.Name y py)) spos.line X.env = pure true)
    (hr : ∀ d, JX X W c (ρ.set i (.sh d)) rest (f d) K) (hs : ∀ x, foldedSetIterable iter X.env x = pure x := by exact fun _ => rfl) :
    JX X W c ρ (.Assign [.Name y py] (.ListComp elt [⟨tg, iter, [ct], 0⟩] scope pos) spos :: rest) ((lfR mi fun d => U _ d fun t => keep (C t) (F t)).bind f) K := by
  have hps := ps_setLc (g := (G X.s_0 X.H_0 0 [] []).g) (tt := tCt X ρ st (own.map (·.2)) Tt C) (te := tCe X ρ st (own.map (·.2)) Tt F) hc hN hy hyl hsw hi ok (fun s H Ca cl fp => hg s H Ca cl fp ▸ (G s H Ca cl fp).pg) (fun s H Ca cl fp => pts_one (pt_ex fun q => ht s H Ca cl fp q.1.1 q.1.2 q.2)) (fun s H Ca cl fp => pe_ex fun q => he s H Ca cl fp q.1.1 q.1.2 q.2) hs
  exact s_store hps (fun σ H Q q => lf_read (G X.s_0 X.H_0 0 [] []).run hT hl no (Wd.mono q fun d H' g k v r => k v (RepX.sh r q.1.thr))) hil hr
theorem s_setLfO {β : Type} {K : Ends → β → Prop} {f : List D → R β} {rest : List Stmt} {C : T → R Bool} {F : T → R D} {ct : Expr} {i : Nat} {y : Str} {py spos : Pos} {Tt : List (Addr × Str)} (hT : c.T = Tt) (hc : X.calm = true) (hN : X.N.Nodup) (hi : JI X W c ρ tg iter mi) (ok : BlkOk X.N X.env.scope scope own) (G : ∀ (s : Shared) (H : Hp) (Ca : Addr) (cl : List (Str × Addr)) (fp : List Addr), Tg (X.blk s H scope (compEnvC scope cl Ca X.env) fp) tg U st (own.map (·.2)))
    (hg : ∀ s H Ca cl fp, (G s H Ca cl fp).g = (G X.s_0 X.H_0 0 [] []).g) (hl : (own.map (·.2)).all (fun i => decide (i < ρ.length)) = true) (no : noOw ρ (own.map (·.2)) = true)
    (ht : ∀ (s : Shared) (H : Hp) (Ca : Addr) (cl : List (Str × Addr)) (fp : List Addr) (c' : Fr) (hT' : c'.T = Tt) (t : T), JT (X.blk s H scope (compEnvC scope cl Ca X.env) fp) W0 c' (st (wipeS ρ (own.map (·.2))) t) ct (C t))
    (he : ∀ (s : Shared) (H : Hp) (Ca : Addr) (cl : List (Str × Addr)) (fp : List Addr) (c' : Fr) (hT' : c'.T = Tt) (t : T), JE (X.blk s H scope (compEnvC scope cl Ca X.env) fp) W0 c' (st (wipeS ρ (own.map (·.2))) t) .sh elt (F t))
    (hil : i < ρ.length) (hy : X.N[i]? = some y) (hyl : X.env.scope.names.lookup y = some .local) (hsw : swapsWith (.ListComp elt [⟨tg, iter, [ct], 0⟩] scope pos) (some (.Name y py)) spos.line X.env = pure true)
    (hr : ∀ xs, JX X W c (ρ.set i (.ow (.lst xs))) rest (f xs) K) (hs : ∀ x, foldedSetIterable iter X.env x = pure x := by exact fun _ => rfl) :
    JX X W c ρ (.Assign [.Name y py] (.ListComp elt [⟨tg, iter, [ct], 0⟩] scope pos) spos :: rest) ((lfR mi fun d => U _ d fun t => keep (C t) (F t)).bind fun d => (ownL d).bind f) K := by
  have hps := ps_setLc (g := (G X.s_0 X.H_0 0 [] []).g) (tt := tCt X ρ st (own.map (·.2)) Tt C) (te := tCe X ρ st (own.map (·.2)) Tt F) hc hN hy hyl hsw hi ok (fun s H Ca cl fp => hg s H Ca cl fp ▸ (G s H Ca cl fp).pg) (fun s H Ca cl fp => pts_one (pt_ex fun q => ht s H Ca cl fp q.1.1 q.1.2 q.2)) (fun s H Ca cl fp => pe_ex fun q => he s H Ca cl fp q.1.1 q.1.2 q.2) hs
  exact s_storeO hps (fun σ H Q q => lf_read (G X.s_0 X.H_0 0 [] []).run hT hl no q) hil hr
theorem s_setLc {β : Type} {K : Ends → β → Prop} {f : D → R β} {rest : List Stmt} {F : T → R D} {i : Nat} {y : Str} {py spos : Pos} {Tt : List (Addr × Str)} (hT : c.T = Tt) (hc : X.calm = true) (hN : X.N.Nodup) (hi : JI X W c ρ tg iter mi) (ok : BlkOk X.N X.env.scope scope own) (G : ∀ (s : Shared) (H : Hp) (Ca : Addr) (cl : List (Str × Addr)) (fp : List Addr), Tg (X.blk s H scope (compEnvC scope cl Ca X.env) fp) tg U st (own.map (·.2)))
    (hg : ∀ s H Ca cl fp, (G s H Ca cl fp).g = (G X.s_0 X.H_0 0 [] []).g) (hl : (own.map (·.2)).all (fun i => decide (i < ρ.length)) = true) (no : noOw ρ (own.map (·.2)) = true)
    (he : ∀ (s : Shared) (H : Hp) (Ca : Addr) (cl : List (Str × Addr)) (fp : List Addr) (c' : Fr) (hT' : c'.T = Tt) (t : T), JE (X.blk s H scope (compEnvC scope cl Ca X.env) fp) W0 c' (st (wipeS ρ (own.map (·.2))) t) .sh elt (F t))
    (hil : i < ρ.length) (hy : X.N[i]? = some y) (hyl : X.env.scope.names.lookup y = some .local) (hsw : swapsWith (.ListComp elt [⟨tg, iter, [], 0⟩] scope pos) (some (.Name y py)) spos.line X.env = pure true)
    (hr : ∀ d, JX X W c (ρ.set i (.sh d)) rest (f d) K) (hs : ∀ x, foldedSetIterable iter X.env x = pure x := by exact fun _ => rfl) :
    JX X W c ρ (.Assign [.Name y py] (.ListComp elt [⟨tg, iter, [], 0⟩] scope pos) spos :: rest) ((lcR mi fun d => U _ d F).bind f) K := by
  have hps := ps_setLc (g := (G X.s_0 X.H_0 0 [] []).g) (tt := tYes) (te := tCe X ρ st (own.map (·.2)) Tt F) hc hN hy hyl hsw hi ok (fun s H Ca cl fp => hg s H Ca cl fp ▸ (G s H Ca cl fp).pg) (fun s H Ca cl fp => pts_nil) (fun s H Ca cl fp => pe_ex fun q => he s H Ca cl fp q.1.1 q.1.2 q.2) hs
  exact s_store hps (fun σ H Q q => lc_read (G X.s_0 X.H_0 0 [] []).run hT hl no (Wd.mono q fun d H' g k v r => k v (RepX.sh r q.1.thr))) hil hr
theorem s_setLcO {β : Type} {K : Ends → β → Prop} {f : List D → R β} {rest : List Stmt} {F : T → R D} {i : Nat} {y : Str} {py spos : Pos} {Tt : List (Addr × Str)} (hT : c.T = Tt) (hc : X.calm = true) (hN : X.N.Nodup) (hi : JI X W c ρ tg iter mi) (ok : BlkOk X.N X.env.scope scope own) (G : ∀ (s : Shared) (H : Hp) (Ca : Addr) (cl : List (Str × Addr)) (fp : List Addr), Tg (X.blk s H scope (compEnvC scope cl Ca X.env) fp) tg U st (own.map (·.2)))
    (hg : ∀ s H Ca cl fp, (G s H Ca cl fp).g = (G X.s_0 X.H_0 0 [] []).g) (hl : (own.map (·.2)).all (fun i => decide (i < ρ.length)) = true) (no : noOw ρ (own.map (·.2)) = true)
    (he : ∀ (s : Shared) (H : Hp) (Ca : Addr) (cl : List (Str × Addr)) (fp : List Addr) (c' : Fr) (hT' : c'.T = Tt) (t : T), JE (X.blk s H scope (compEnvC scope cl Ca X.env) fp) W0 c' (st (wipeS ρ (own.map (·.2))) t) .sh elt (F t))
    (hil : i < ρ.length) (hy : X.N[i]? = some y) (hyl : X.env.scope.names.lookup y = some .local) (hsw : swapsWith (.ListComp elt [⟨tg, iter, [], 0⟩] scope pos) (some (.Name y py)) spos.line X.env = pure true)
    (hr : ∀ xs, JX X W c (ρ.set i (.ow (.lst xs))) rest (f xs) K) (hs : ∀ x, foldedSetIterable iter X.env x = pure x := by exact fun _ => rfl) :
    JX X W c ρ (.Assign [.Name y py] (.ListComp elt [⟨tg, iter, [], 0⟩] scope pos) spos :: rest) ((lcR mi fun d => U _ d F).bind fun d => (ownL d).bind f) K := by
  have hps := ps_setLc (g := (G X.s_0 X.H_0 0 [] []).g) (tt := tYes) (te := tCe X ρ st (own.map (·.2)) Tt F) hc hN hy hyl hsw hi ok (fun s H Ca cl fp => hg s H Ca cl fp ▸ (G s H Ca cl fp).pg) (fun s H Ca cl fp => pts_nil) (fun s H Ca cl fp => pe_ex fun q => he s H Ca cl fp q.1.1 q.1.2 q.2) hs
  exact s_storeO hps (fun σ H Q q => lc_read (G X.s_0 X.H_0 0 [] []).run hT hl no q) hil hr
end
end Ev


set_option Elab.async false
set_option linter.all false
set_option maxRecDepth 100000
/-! Ev, part I: enumerate, zip; more targets. -/
namespace PySem
open Sem (wp)
open AutoSeq1 (wpAny_loadPart')
theorem ev_enum_newT (l : Addr) (items : Array Value) (n : Nat) (dct : Option Addr) (sl : Array (Option Value)) :
    Meets (Builtin.«enumerate.__new__» ⟨[.type "enumerate", .ref l], []⟩) (fun _ R s => s.heap.get? l = some { cls := .type "tuple", dict := dct, data := .seq items n, slots := sl } ∧
      R (.ok (.ret (.ref (s.heap.push { cls := .type "tuple_iterator", data := .fields #[.ref l, .int 0 0] }).objs.size)))
        { s with heap := (s.heap.push { cls := .type "tuple_iterator", data := .fields #[.ref l, .int 0 0] }).push { cls := .type "enumerate", data := .fields #[.none, .bool false, .ref s.heap.objs.size, rawInt 0, .none, .none] } }) :=
  .of_wp fun prog w A R s h => by
    obtain ⟨hp, g, d, tk, os⟩ := s; obtain ⟨hl, h⟩ := h
    have hsub := sub_enumerate
    have hL : Heap.IsTuple (Shared.heap ⟨hp, g, d, tk, os⟩) l items := ⟨_, hl, rfl, n, rfl⟩
    wp_walk using wpAny_loadPart' hl
    refine wpAny_stack_any fun st => wpAny_pure ?_
    split
    · rename_i c _ _ _ _ _
      cases (c == Value.type "enumerate")
      · wp_walk using wpAny_loadPart' hl, wpAny_pyIter_tuple hL
        exact ⟨_, rfl, h⟩
      · wp_walk using wpAny_loadPart' hl, wpAny_pyIter_tuple hL
        exact ⟨_, rfl, h⟩
    · wp_walk using wpAny_loadPart' hl, wpAny_pyIter_tuple hL
      exact ⟨_, rfl, h⟩
theorem ev_call_enumT {prog : Program} {w : World} {A : Around} {E : Value → Shared → Prop} {s : Shared} {l : Addr} {items : Array Value} {Q : Value → Shared → Prop} (hL : s.heap.IsTuple l items)
    (h : ∀ h', IsEnum h' (s.heap.objs.size + 1) s.heap.objs.size 0 .none → h'.IsTupleIter s.heap.objs.size l 0 → h'.objs.size = s.heap.objs.size + 2 →
      (∀ b o, s.heap.get? b = some o → h'.get? b = some o) → Q (.ref (s.heap.objs.size + 1)) { s with heap := h' }) :
    wpAny (model prog w) A (call (.type "enumerate") [.ref l]) Q E s := by
  obtain ⟨⟨c, dct, dt, sl⟩, hl, hc, n, hd⟩ := hL
  replace hc : c = .type "tuple" := hc
  replace hd : dt = .seq items n := hd
  subst hc hd
  refine callType_new F.called_enumerate (by decide) (F.typeCall_enumerate_1 _) (F.newCall_enumerate_1 _) (fun obj => F.args_object_init_2 obj _) F.entry_enumerate_new
    (ev_enum_newT l items n dct sl) ⟨hl, ?_⟩
  have hz : (s.heap.push { cls := .type "tuple_iterator", data := .fields #[.ref l, .int 0 0] }).objs.size = s.heap.objs.size + 1 := Heap.size_push ..
  show _ ∧ _
  rw [hz]
  have he : IsEnum ((s.heap.push { cls := .type "tuple_iterator", data := .fields #[.ref l, .int 0 0] }).push
      { cls := .type "enumerate", data := .fields #[.none, .bool false, .ref s.heap.objs.size, rawInt 0, .none, .none] }) (s.heap.objs.size + 1) s.heap.objs.size 0 .none := by
    have := Heap.get?_push_size (s.heap.push { cls := .type "tuple_iterator", data := .fields #[.ref l, .int 0 0] })
      (o := { cls := .type "enumerate", data := .fields #[.none, .bool false, .ref s.heap.objs.size, rawInt 0, .none, .none] }) rfl
    rw [hz] at this; exact this
  refine ⟨⟨_, he, rfl⟩, h _ he ⟨_, Heap.get?_push_of_some _ (Heap.get?_push_size _ rfl), rfl, rfl⟩ (by rw [Heap.size_push, hz]) fun b o x => Heap.get?_push_of_some _ (Heap.get?_push_of_some _ x)⟩
end PySem
namespace Ev
open PySem PySem.Spec PyProof.Rows L2 RZ

/-- both of these, i-th of them, in a tuple known to its object -/
def YPr (xs ys : Nat → Option V) : Nat → Hp → V → Hp → Prop := fun i H v H' => ∃ T ob x y, v = .ref T ∧ H T = none ∧ ob.dict = none ∧ H' = L2.upd H T (.frz ob (.tup [x, y])) ∧ xs i = some x ∧ ys i = some y
/-! zip of lists and tuples in any mix: true is a list, false a tuple -/
def SqB (b : Bool) (K : PySem.W.Frag) (H : Hp) (a : Addr) (xs : List V) : Prop := if b = true then SqL K H a xs else SqT K H a xs
def IsB (b : Bool) (h : Heap) (a : Addr) (its : Array Value) : Prop := if b = true then h.IsList a its else h.IsTuple a its
def WkB (b : Bool) (h : Heap) (it l : Addr) (i : Nat) : Prop := if b = true then h.IsListIter it l i else h.IsTupleIter it l i
def obB (b : Bool) (l : Addr) : Obj := if b = true then { cls := .type "list_iterator", data := .fields #[.ref l, .int 0 0] } else { cls := .type "tuple_iterator", data := .fields #[.ref l, .int 0 0] }
section
variable {b : Bool} {Z : Cx} {pins : List (Addr × Obj)} {σ : L2.St} {H : Hp} {s : Shared} {h h' : Heap} {a it l : Addr} {i : Nat}
theorem sqB_is {xs : List V} (I : Inv Z pins σ H s) (q : SqB b Z.K H a xs) : ∃ its : List Value, Vals xs its ∧ IsB b s.heap a its.toArray := by
  cases b with
  | true => exact let ⟨its, r, p, _⟩ := I.list q; ⟨its, r, p.isList⟩
  | false => exact let ⟨its, r, p, _⟩ := I.tuple q; ⟨its, r, p⟩
theorem sqB_inj {xs ys : List V} (I : Inv Z pins σ H s) (q : SqB b Z.K H a xs) (q' : SqB b Z.K H a ys) : xs = ys := by
  cases b with
  | true => exact I.list_inj q q'
  | false => exact I.tuple_inj q q'
theorem isB_lt {its : Array Value} (p : IsB b h a its) : a < h.objs.size := by
  cases b with
  | true => exact let ⟨_, e, _⟩ := (show h.IsList a its from p); Heap.lt_size e
  | false => exact let ⟨_, e, _⟩ := (show h.IsTuple a its from p); Heap.lt_size e
theorem drawsB {P : Program} {w : World} {A : Around} (hh : A.handled = none) (hne : l ≠ it) (items : Array Value) : Draws P w A it [it, l] items.size (fun i v => items[i]? = some v) (fun i h => WkB b h it l i ∧ IsB b h l items) := by
  cases b with
  | true => exact Draws.list hh it l hne items
  | false => exact Draws.tuple hh it l hne items
theorem beginsB (b : Bool) (l : Addr) (items : Array Value) : Begins (.ref l) (obB b l) fun h => IsB b h l items := by
  cases b with
  | true => exact begins_list l items
  | false => exact begins_tuple l items
theorem wkB_new (e : h.get? it = some (obB b l)) : WkB b h it l 0 := by
  cases b with
  | true => exact ⟨_, e, rfl, rfl⟩
  | false => exact ⟨_, e, rfl, rfl⟩
theorem wkB_at (w : WkB b h it l i) (k : ∀ o, h.get? it = some o → h'.get? it = some o) : WkB b h' it l i := by
  cases b with
  | true => exact Heap.IsListIter.at w k
  | false => exact Heap.IsTupleIter.at w k
theorem wkB_ob (w : WkB b h it l i) : ∃ o, h.get? it = some o ∧ ∀ v, o.data ≠ .cell v := by
  cases b with
  | true => exact let ⟨o, e, _, d⟩ := (show h.IsListIter it l i from w); ⟨o, e, fun v q => by rw [d] at q; cases q⟩
  | false => exact let ⟨o, e, _, d⟩ := (show h.IsTupleIter it l i from w); ⟨o, e, fun v q => by rw [d] at q; cases q⟩
end
/-! ### enumerate of tuples, of texts -/
def IteT (b : Bool) (K : PySem.W.Frag) (a : Addr) : It :=
  ⟨fun i H => ∃ (xs : List V) (x : V), SqB b K H a xs ∧ xs[i]? = some x, fun i H v H' => ∃ T ob x, v = .ref T ∧ H T = none ∧ ob.dict = none ∧ H' = L2.upd H T (.frz ob (.tup [.int (i : Nat), x])) ∧ ∀ xs, SqB b K H a xs → xs[i]? = some x, fun i H => ∃ xs : List V, SqB b K H a xs ∧ xs.length = i⟩
def IteS (z : Str) : It :=
  ⟨fun i _ => i < z.cps.size, fun i H v H' => ∃ T ob x, v = .ref T ∧ H T = none ∧ ob.dict = none ∧ H' = L2.upd H T (.frz ob (.tup [.int (i : Nat), x])) ∧ ∃ c, z.cps[i]? = some c ∧ x = .str ⟨#[c]⟩, fun i _ => i = z.cps.size⟩
theorem turn_enumT {b : Bool} {P : Program} {w : World} {K : PySem.W.Frag} {elts : List Expr} {kk : Nat} {tpos : Pos} (a e it : Addr) (hai : a ≠ it) (hae : a ≠ e) :
    Turn P w K (.Tuple elts kk tpos) (IteT b K a) [e, it] e (fun i h => (∃ old, IsEnum h e it ((i : Nat) : Int) old) ∧ WkB b h it a i ∧ e ≠ it) where
  mem := by simp
  obj := fun i h st b2 hb => by
    obtain ⟨⟨old, he⟩, hw, _⟩ := st
    have e' : b2 = e ∨ b2 = it := by simpa using hb
    rcases e' with z | z
    · rw [z]; exact ⟨_, he, fun v q => nomatch q⟩
    · rw [z]; exact wkB_ob hw
  keep := fun i h h' st k => let ⟨⟨old, he⟩, hi, hne⟩ := st; ⟨⟨old, k e (by simp) _ he⟩, wkB_at hi fun o q => k it (by simp) o q, hne⟩
  item := by
    intro X hP hw hK hc i pins s σ H E I hf st hg
    subst hP hw hK
    obtain ⟨⟨old, he⟩, hit, hne⟩ := st
    have hh : X.A.in1.handled = none := I.ok.hd hc
    have hel : e < s.heap.objs.size := Heap.lt_size he
    have hil : it < s.heap.objs.size := by obtain ⟨_, q, _⟩ := wkB_ob hit; exact Heap.lt_size q
    obtain ⟨xs, x, hq, hx⟩ := hg
    obtain ⟨its, rv, p⟩ := sqB_is I hq
    obtain ⟨u0, hu0, ru0⟩ := rv.get hx
    have hlt : i < its.toArray.size := by
      obtain ⟨q, _⟩ := List.getElem?_eq_some_iff.mp hu0
      simpa using q
    have D := drawsB (b := b) (P := X.prog) (w := X.w) hh hai its.toArray
    refine wpAny_pyNext_enum_itemD D he ⟨hit, p⟩ hlt hne (by simp only [List.mem_cons, List.not_mem_nil, or_false, not_or]; exact ⟨hne, Ne.symm hae⟩) fun u h' tk hu ho hit' hT hsz hk => ?_
    have ru : RelV x u := by
      have hu : its[i]? = some u := by simpa using hu
      rw [hu0] at hu
      cases hu
      exact ru0
    refine ⟨_, rfl, wpAny_letOwnedTupleGo_enum (s := { s with heap := h', toks := tk + 1 }) ho fun h'' he' sb => ?_⟩
    have hT2 : h''.get? s.heap.objs.size = some { cls := .type "tuple", data := .seq #[.int i tk, u] } := (sb.2 _ (Nat.ne_of_gt hel)).trans hT
    have new : ObjOk X.prog X.w (L2.upd H s.heap.objs.size (.frz { cls := .type "tuple", data := .seq #[.int i tk, u] } (.tup [.int (i : Nat), x]))) h'' s.heap.objs.size (.frz { cls := .type "tuple", data := .seq #[.int i tk, u] } (.tup [.int (i : Nat), x])) :=
      ⟨hT2, by show 2 ≤ sizeLine; decide, [.int i tk, u], .cons ⟨_, rfl⟩ (.cons ru .nil), ⟨_, hT2, rfl, _, rfl⟩⟩
    have I1 : Inv X pins σ (L2.upd H s.heap.objs.size (.frz { cls := .type "tuple", data := .seq #[.int i tk, u] } (.tup [.int (i : Nat), x]))) { s with heap := h'', toks := tk + 1 } :=
      I.turnedNew (ch := [e, it]) (fun b ob hb q => (sb.2 b (fun z => hb (by simp [z]))).trans (hk b ob (fun z => hb (by simp [z])) (fun z => hb (by simp [z])) q)) hf (Nat.le_refl _) new
    refine ⟨.ref s.heap.objs.size, _, I1, rfl, ⟨_, _, x, rfl, I.hok.fresh (Nat.le_refl _), rfl, rfl, fun ys hy => by rw [sqB_inj I hy hq]; exact hx⟩, ⟨⟨u, ?_⟩, wkB_at hit'.1 fun o q => (sb.2 it (Ne.symm hne)).trans q, hne⟩, fun b hb => ?_⟩
    · have e1 : ((i + 1 : Nat) : Int) = (i : Int) + 1 := by omega
      rw [e1]; exact he'
    · have hb' : b < s.heap.objs.size := by
        have e' : b = e ∨ b = it := by simpa using hb
        rcases e' with z | z
        · rw [z]; exact hel
        · rw [z]; exact hil
      rw [upd_ne (Nat.ne_of_lt hb')]
      exact (hf b hb).1
  done := by
    intro X hP hw hK hc i pins s σ H E I hf st hg
    subst hP hw hK
    obtain ⟨⟨old, he⟩, hit, hne⟩ := st
    have hh : X.A.in1.handled = none := I.ok.hd hc
    obtain ⟨f0, f1, f2, f3, f4, f5⟩ := hf it (by simp)
    obtain ⟨xs, hq, hx⟩ := hg
    obtain ⟨its, rv, p⟩ := sqB_is I hq
    have hl := rv.length
    have e1 : i = its.toArray.size := by simp only [List.size_toArray]; omega
    rw [e1] at hit
    exact wpAny_pyNext_enum_endD (drawsB (b := b) (P := X.prog) (w := X.w) hh hai its.toArray) he ⟨hit, p⟩ fun h' eb => ⟨rfl, I.turned (t' := s.toks) (fun b o hb q => eb b o hb q) f0 f1 f3 f4 f5⟩
  self := fun A i s Q E st h => let ⟨⟨_, he⟩, _⟩ := st; wpAny_pyIter_enum he h
theorem turn_enumS {P : Program} {w : World} {K : PySem.W.Frag} {elts : List Expr} {kk : Nat} {tpos : Pos} (z : Str) (t : Tok) (e it : Addr) :
    Turn P w K (.Tuple elts kk tpos) (IteS z) [e, it] e (fun i h => (∃ old, IsEnum h e it ((i : Nat) : Int) old) ∧ h.IsStrIter it (strIterType z) z t i ∧ e ≠ it) where
  mem := by simp
  obj := fun i h st b hb => by
    obtain ⟨⟨old, he⟩, ⟨o, ho, hc, hd⟩, _⟩ := st
    have e' : b = e ∨ b = it := by simpa using hb
    rcases e' with z | z
    · rw [z]; exact ⟨_, he, fun v q => nomatch q⟩
    · rw [z]; exact ⟨o, ho, fun v q => by rw [hd] at q; cases q⟩
  keep := fun i h h' st k => let ⟨⟨old, he⟩, hi, hne⟩ := st; ⟨⟨old, k e (by simp) _ he⟩, let ⟨o, ho, r⟩ := hi; ⟨o, k it (by simp) o ho, r⟩, hne⟩
  item := by
    intro X hP hw hK hc i pins s σ H E I hf st hg
    subst hP hw hK
    obtain ⟨⟨old, he⟩, hit, hne⟩ := st
    have hh : X.A.in1.handled = none := I.ok.hd hc
    have hel : e < s.heap.objs.size := Heap.lt_size he
    have hil : it < s.heap.objs.size := by obtain ⟨_, q, _⟩ := hit; exact Heap.lt_size q
    have hlt : i < z.cps.size := hg
    have D := Draws.text (prog := X.prog) (w := X.w) hh it z t
    refine wpAny_pyNext_enum_itemD D he hit hlt hne (by simpa using hne) fun u h' tk hu ho hit' hT hsz hk => ?_
    obtain ⟨c, tu, hcx, eu⟩ := hu
    let x : V := .str ⟨#[c]⟩
    have ru : RelV x u := ⟨tu, eu⟩
    refine ⟨_, rfl, wpAny_letOwnedTupleGo_enum (s := { s with heap := h', toks := tk + 1 }) ho fun h'' he' sb => ?_⟩
    have hT2 : h''.get? s.heap.objs.size = some { cls := .type "tuple", data := .seq #[.int i tk, u] } := (sb.2 _ (Nat.ne_of_gt hel)).trans hT
    have new : ObjOk X.prog X.w (L2.upd H s.heap.objs.size (.frz { cls := .type "tuple", data := .seq #[.int i tk, u] } (.tup [.int (i : Nat), x]))) h'' s.heap.objs.size (.frz { cls := .type "tuple", data := .seq #[.int i tk, u] } (.tup [.int (i : Nat), x])) :=
      ⟨hT2, by show 2 ≤ sizeLine; decide, [.int i tk, u], .cons ⟨_, rfl⟩ (.cons ru .nil), ⟨_, hT2, rfl, _, rfl⟩⟩
    have I1 : Inv X pins σ (L2.upd H s.heap.objs.size (.frz { cls := .type "tuple", data := .seq #[.int i tk, u] } (.tup [.int (i : Nat), x]))) { s with heap := h'', toks := tk + 1 } :=
      I.turnedNew (ch := [e, it]) (fun b ob hb q => (sb.2 b (fun z => hb (by simp [z]))).trans (hk b ob (fun z => hb (by simp [z])) (fun z => hb (by simp [z])) q)) hf (Nat.le_refl _) new
    refine ⟨.ref s.heap.objs.size, _, I1, rfl, ⟨_, _, x, rfl, I.hok.fresh (Nat.le_refl _), rfl, rfl, c, hcx, rfl⟩, ⟨⟨u, ?_⟩, let ⟨o, ho2, r⟩ := hit'; ⟨o, (sb.2 it (Ne.symm hne)).trans ho2, r⟩, hne⟩, fun b hb => ?_⟩
    · have e1 : ((i + 1 : Nat) : Int) = (i : Int) + 1 := by omega
      rw [e1]; exact he'
    · have hb' : b < s.heap.objs.size := by
        have e' : b = e ∨ b = it := by simpa using hb
        rcases e' with z | z
        · rw [z]; exact hel
        · rw [z]; exact hil
      rw [upd_ne (Nat.ne_of_lt hb')]
      exact (hf b hb).1
  done := by
    intro X hP hw hK hc i pins s σ H E I hf st hg
    subst hP hw hK
    obtain ⟨⟨old, he⟩, hit, hne⟩ := st
    have hh : X.A.in1.handled = none := I.ok.hd hc
    obtain ⟨f0, f1, f2, f3, f4, f5⟩ := hf it (by simp)
    have e1 : i = z.cps.size := hg
    rw [e1] at hit
    exact wpAny_pyNext_enum_endD (Draws.text (prog := X.prog) (w := X.w) hh it z t) he hit fun h' eb => ⟨rfl, I.turned (t' := s.toks) (fun b o hb q => eb b o hb q) f0 f1 f3 f4 f5⟩
  self := fun A i s Q E st h => let ⟨⟨_, he⟩, _⟩ := st; wpAny_pyIter_enum he h

theorem enumL_len (xs : List D) : (enumL xs).length = xs.length := by simp [enumL]
theorem enumL_at {xs : List D} {i : Nat} {d : D} (h : xs[i]? = some d) : (enumL xs)[i]? = some (.tup [.int (i : Nat), d]) := by
  unfold enumL
  rw [List.getElem?_map, List.getElem?_zipIdx, h]
  simp
theorem zipL_at {xs ys : List D} {i : Nat} {d e : D} (h : xs[i]? = some d) (h2 : ys[i]? = some e) : (zipL xs ys)[i]? = some (.tup [d, e]) := by
  unfold zipL
  rw [List.getElem?_map, (List.getElem?_zip_eq_some (z := (d, e))).mpr ⟨h, h2⟩]; rfl
/-- a new pair stands for the pair of data -/
theorem pair_rep {B : Bs} {H1 H2 : Hp} {O1 : Ad} {T : Addr} {ob : Obj} {x y : V} {d e : D} (hT : H1 T = none) (d0 : ob.dict = none) (e2 : H2 = L2.upd H1 T (.frz ob (.tup [x, y]))) (hO : ∀ a, O1 a → ∃ u, H1 a = some u) (r1 : Rep B H1 O1 d x) (r2 : Rep B H1 O1 e y) : Gr H1 H2 ∧ Rep B H2 O1 (.tup [d, e]) (.ref T) := by
  subst e2
  have g : Gr H1 (L2.upd H1 T (.frz ob (.tup [x, y]))) := Gr.laid hT
  refine ⟨g, T, [x, y], rfl, .inl ⟨⟨ob, upd_same, d0⟩, fun z => ?_⟩, .cons (r1.gr g) (.cons (r2.gr g) rfl)⟩
  obtain ⟨u, q⟩ := hO T z
  rw [hT] at q
  cases q
def iEnumA (K : PySem.W.Frag) (ta : TA) : TI := fun σ H R => ta σ H fun vs H1 => ∃ v, vs = [v] ∧ ((∃ a xs, v = .ref a ∧ SqL K H1 a xs ∧ (xs.length ≤ sizeLine → R (IteT true K a) H1)) ∨ (∃ a xs, v = .ref a ∧ SqT K H1 a xs ∧ (xs.length ≤ sizeLine → R (IteT false K a) H1)) ∨ ∃ z, v = .str z ∧ R (IteS z) H1)
theorem pi_enumA {X : Cx} {e : Expr} {ta : TA} {p pos tpos : Pos} {elts : List Expr} {kk : Nat} (hg : Gl X "enumerate") (hm : X.mg "enumerate" = none) (ha : PA X [e] ta) (hs : starEach [e] X.env = [(false, eval e X.env)] := by rfl) :
    PI X (.Tuple elts kk tpos) (.Call (.Name "enumerate" p) [e] [] pos) (iEnumA X.K ta) := by
  refine ⟨fun pins s σ H R I h => ?_⟩
  refine Call_ (ld_blt I hg hm boot_enumerate (PyProof.Rows.callWith_type1 (thn (ha.run pos pins s σ H _ I h) fun us s1 ⟨vs, H1, I1, r1, q1⟩ => ?_) hs rfl))
  obtain ⟨v, ex, q1⟩ := q1
  subst ex
  have fin : ∀ {h' : Heap} {J : It} {tn : Nat → Heap → Prop} (k : ∀ b o, s1.heap.get? b = some o → h'.get? b = some o) (T : Turn X.prog X.w X.K (.Tuple elts kk tpos) J [s1.heap.objs.size + 1, s1.heap.objs.size] (s1.heap.objs.size + 1) tn) (st : tn 0 h') (q : R J H1), PIE X pins σ (.Tuple elts kk tpos) R (.ref (s1.heap.objs.size + 1)) { s1 with heap := h' } := fun {h' J tn} k T st q => by
    have I2 : Inv X pins σ H1 { s1 with heap := h' } := I1.kept (t' := s1.toks) k
    refine ⟨s1.heap.objs.size + 1, [s1.heap.objs.size + 1, s1.heap.objs.size], tn, J, H1, rfl, I2, T, st, fun b hb => ?_, q⟩
    have e' : b = s1.heap.objs.size + 1 ∨ b = s1.heap.objs.size := by simpa using hb
    have hle : s1.heap.objs.size ≤ b := by
      rcases e' with z | z
      · rw [z]; exact Nat.le_add_right _ _
      · rw [z]; exact Nat.le_refl _
    exact I1.fpOk hle (I1.hok.fresh hle)
  cases r1 with
  | cons r rr =>
    cases rr
    rcases q1 with ⟨a, xs, rfl, hq, q⟩ | ⟨a, xs, rfl, hq, q⟩ | ⟨z, rfl, q⟩
    · cases r
      obtain ⟨its, rv, p', hz⟩ := I1.list hq
      have p2 : s1.heap.IsList a its.toArray := p'.isList
      have hlt : a < s1.heap.objs.size := by
        obtain ⟨o, e, _⟩ := p2
        exact Heap.lt_size e
      exact call_enumerate_list p2 fun h' he hit hsz hk => wpAny_pyIter_enum he (fin hk (turn_enumT (b := true) a (s1.heap.objs.size + 1) s1.heap.objs.size (Nat.ne_of_lt hlt) (Nat.ne_of_lt (Nat.lt_succ_of_lt hlt))) ⟨⟨.none, he⟩, hit, Nat.succ_ne_self _⟩ (q hz))
    · cases r
      obtain ⟨its, rv, p', hz⟩ := I1.tuple hq
      have p2 : s1.heap.IsTuple a its.toArray := p'
      have hlt : a < s1.heap.objs.size := by
        obtain ⟨o, e, _⟩ := p2
        exact Heap.lt_size e
      exact ev_call_enumT p2 fun h' he hit hsz hk => wpAny_pyIter_enum he (fin hk (turn_enumT (b := false) a (s1.heap.objs.size + 1) s1.heap.objs.size (Nat.ne_of_lt hlt) (Nat.ne_of_lt (Nat.lt_succ_of_lt hlt))) ⟨⟨.none, he⟩, hit, Nat.succ_ne_self _⟩ (q hz))
    · obtain ⟨t, rfl⟩ := r
      exact call_enumerate_str fun h' he hit hsz hk => wpAny_pyIter_enum he (fin hk (turn_enumS z t (s1.heap.objs.size + 1) s1.heap.objs.size) ⟨⟨.none, he⟩, hit, Nat.succ_ne_self _⟩ q)
theorem walk_enumT {b : Bool} {K : PySem.W.Frag} {a : Addr} {xs : List V} : Walk (IteT b K a) xs.length (fun H => SqB b K H a xs) (YPr (fun i => some (.int (i : Nat))) (fun i => xs[i]?)) := by
  refine ⟨fun i _ hi q => ⟨xs, xs[i], q, by simp [hi]⟩, fun _ q => ⟨xs, q, rfl⟩, fun i H v H' _ q y => ?_⟩
  obtain ⟨T, ob, x, h1, h2, h0, h3, h4⟩ := y
  exact ⟨T, ob, .int (i : Nat), x, h1, h2, h0, h3, rfl, h4 xs q⟩
theorem walk_enumS {z : Str} : Walk (IteS z) z.cps.size (fun _ => True) (YPr (fun i => some (.int (i : Nat))) (fun i => z.cps[i]?.map fun c => V.str ⟨#[c]⟩)) := by
  refine ⟨fun i _ hi q => hi, fun _ q => rfl, fun i H v H' _ q y => ?_⟩
  obtain ⟨T, ob, x, h1, h2, h0, h3, c, h4, h5⟩ := y
  exact ⟨T, ob, .int (i : Nat), x, h1, h2, h0, h3, rfl, by show Option.map _ z.cps[i]? = _; rw [h4, h5]; rfl⟩
section
variable {X : Cx} {W : WX} {c : Fr} {ρ : List Sl} {e : Expr} {m : R D} {pos p tpos : Pos} {elts : List Expr} {kk : Nat}
theorem i_enum (he : JE X W c ρ .sh e m) (hm : X.mg "enumerate" = none) (hg : Gl X "enumerate" := by rfl) (hs : starEach [e] X.env = [(false, eval e X.env)] := by rfl) : JI X W c ρ (.Tuple elts kk tpos) (.Call (.Name "enumerate" p) [e] [] pos) (enumD m) :=
  PI.imp (pi_enumA hg hm (s_cons he s_nil hs) hs) fun σ H Rk q => by
    · refine ⟨q.1, R.sat_bind.mpr (R.sat_mono (R.sat_bind.mp (R.sat_map.mp q.2)) (fun d z => ?_) fun _ _ z => z)⟩
      show ∀ H', Pg c.T c.hd H H' → ∀ vs, _ → _
      intro H1 g vs ⟨v, vr, e1, rv, e2⟩
      cases (show vr = [] from e2)
      subst e1
      have w1 := q.1.pg g
      have z' : Wd X W c ρ σ (itD d) H _ := ⟨q.1, z⟩
      obtain ⟨xs, e, k⟩ := z'.val (itD_calm d)
      have k := k H1 g
      refine ⟨v, rfl, ?_⟩
      have rows : ∀ {vs : List V}, RepL X.bs H1 (OA c ρ σ) xs vs → ∀ (i : Nat) (H2 : Hp) (v : V) (H3 : Hp) (O1 : Ad), i < (enumL xs).length → Still H1 (OA c ρ σ) H2 → (∀ a, O1 a → Fre H1 a ∨ OA c ρ σ a) → (∀ a, O1 a → ∃ u, H2 a = some u) → YPr (fun i => some (.int (i : Nat))) (fun i => vs[i]?) i H2 v H3 →
          Gr H2 H3 ∧ ∃ d, (enumL xs)[i]? = some d ∧ Rep X.bs H3 O1 d v := fun {vs} r i H2 v H3 O1 hi st ho hO y => by
        obtain ⟨T, ob, x, y, rfl, hT, d0, hH, ex, ey⟩ := y
        cases ex
        obtain ⟨d, e, r⟩ := r.getV ey
        obtain ⟨g, rp⟩ := pair_rep hT d0 hH hO (d := .int (i : Nat)) rfl (r.kp (st.kp ho))
        exact ⟨g, _, enumL_at e, rp⟩
      unfold itD at e
      split at e
      · cases e
        obtain ⟨a, vs, rfl, ⟨h1, n1⟩, r⟩ := rv
        refine .inl ⟨a, vs, rfl, .of h1, fun hz => k _ _ (by rw [enumL_len, ← r.length, SZ_eq]; exact hz) ?_ (rows r)⟩
        rw [enumL_len, ← r.length]
        exact (walk_enumT (b := true)).mono (fun H st => show SqL X.K H a vs from .of (st a _ nt_lst h1 n1)) fun _ _ _ _ _ _ y => y
      · cases e
        obtain ⟨a, vs, rfl, t, r⟩ := rv
        refine .inr (.inl ⟨a, vs, rfl, t.seq, fun hz => k _ _ (by rw [enumL_len, ← r.length, SZ_eq]; exact hz) ?_ (rows r)⟩)
        rw [enumL_len, ← r.length]
        refine (walk_enumT (b := false)).mono (fun H st => ?_) fun _ _ _ _ _ _ y => y
        exact t.still fun u w => st a u w
      · cases e
        obtain ⟨a, vs, rfl, t, r⟩ := rv
        refine .inl ⟨a, vs, rfl, t.seq, fun hz => k _ _ (by rw [enumL_len, ← r.length, SZ_eq]; exact hz) ?_ (rows r)⟩
        rw [enumL_len, ← r.length]
        refine (walk_enumT (b := true)).mono (fun H st => show SqL X.K H a vs from ?_) fun _ _ _ _ _ _ y => y
        rcases t with ⟨t | ⟨o, t⟩, n⟩ | t
        · exact .of (st a _ nt_lst t n)
        · exact .inl (.inr ⟨o, st a _ nt_frz t n⟩)
        · exact .inr t
      · rename_i zs
        obtain ⟨e1, e2⟩ := if_ok e
        cases e2
        cases (show v = V.str (tx zs) from rv)
        refine .inr (.inr ⟨_, rfl, k _ (YPr (fun i => some (.int (i : Nat))) (fun i => (tx zs).cps[i]?.map fun c => V.str ⟨#[c]⟩)) (by rw [enumL_len, List.length_map]; exact e1) ?_ ?_⟩)
        · have : (enumL (zs.map fun c => D.str [c])).length = (tx zs).cps.size := by rw [enumL_len]; simp
          rw [this]
          exact walk_enumS.mono (fun _ _ => True.intro) fun _ _ _ _ _ _ y => y
        · intro i H2 v H3 O1 hi st ho hO y
          obtain ⟨T, ob, x, y, rfl, hT, d0, hH, ex, ey⟩ := y
          cases ex
          obtain ⟨c, h, rfl⟩ := Option.map_eq_some_iff.mp ey
          have h : zs[i]? = some c := by simpa using h
          obtain ⟨g, rp⟩ := pair_rep (d := .int (i : Nat)) (e := .str [c]) hT d0 hH hO rfl rfl
          exact ⟨g, _, enumL_at (by rw [List.getElem?_map, h]; rfl), rp⟩
      · cases e
/-- what stands at a and l, side by side -/
def ItzB (b1 b2 : Bool) (K : PySem.W.Frag) (a l : Addr) : It where
  go := fun i H => ∃ (xs ys : List V) (x y : V), SqB b1 K H a xs ∧ SqB b2 K H l ys ∧ xs[i]? = some x ∧ ys[i]? = some y
  yld := fun i H v H' => ∃ T ob x y, v = .ref T ∧ H T = none ∧ ob.dict = none ∧ H' = L2.upd H T (.frz ob (.tup [x, y])) ∧ (∀ xs, SqB b1 K H a xs → xs[i]? = some x) ∧ ∀ ys, SqB b2 K H l ys → ys[i]? = some y
  stop := fun i H => ∃ xs ys : List V, SqB b1 K H a xs ∧ SqB b2 K H l ys ∧ i = min xs.length ys.length
theorem turnB {P : Program} {w : World} {K : PySem.W.Frag} {elts : List Expr} {kk : Nat} {tpos : Pos} {b1 b2 : Bool} {a l z TI TO i1 i2 : Addr} (S : ZipSep2 z TI TO i1 i2 [i1, a] [i2, l]) (ha : a ≠ i1) (hl : l ≠ i2) :
    Turn P w K (.Tuple elts kk tpos) (ItzB b1 b2 K a l) [z, TI, TO, i1, i2] z (fun i h => IsZip h z TI TO .none ∧ IsTupOf2 h TI (.ref i1) (.ref i2) ∧ (∃ x y, IsTupOf2 h TO x y) ∧ WkB b1 h i1 a i ∧ WkB b2 h i2 l i) := by
  have five : ∀ {c : Addr}, c ∈ [z, TI, TO, i1, i2] → c = z ∨ c = TI ∨ c = TO ∨ c = i1 ∨ c = i2 := fun {c} m => by simpa using m
  have out : ∀ {c : Addr}, c ∉ [z, TI, TO, i1, i2] → c ≠ z ∧ c ≠ TO ∧ c ≠ i1 ∧ c ≠ i2 := fun {c} m => by
    simp only [List.mem_cons, List.not_mem_nil, or_false, not_or] at m
    exact ⟨m.1, m.2.2.1, m.2.2.2.1, m.2.2.2.2⟩
  refine ⟨by simp, fun i h ⟨hz, hT, ⟨x, y, hO⟩, w1, w2⟩ c hc => ?_, fun i h h' ⟨hz, hT, ⟨x, y, hO⟩, w1, w2⟩ k => ?_, ?_, ?_, fun A i s Q E st q => wpAny_pyIter_zip st.1 q⟩
  · rcases five hc with e | e | e | e | e <;> rw [e]
    · exact ⟨_, hz, fun v q => nomatch q⟩
    · exact ⟨_, hT, fun v q => nomatch q⟩
    · exact ⟨_, hO, fun v q => nomatch q⟩
    · exact wkB_ob w1
    · exact wkB_ob w2
  · exact ⟨k z (by simp) _ hz, k TI (by simp) _ hT, ⟨x, y, k TO (by simp) _ hO⟩, wkB_at w1 fun o q => k i1 (by simp) o q, wkB_at w2 fun o q => k i2 (by simp) o q⟩
  · intro X eP ew eK hc i pins s σ H E I fp ⟨hz, hT, ⟨x0, y0, hO⟩, w1, w2⟩ ⟨xs, ys, x, y, qx, qy, gx, gy⟩
    subst eP ew eK
    obtain ⟨its, rv, p1⟩ := sqB_is I qx
    obtain ⟨jts, rw_, p2⟩ := sqB_is I qy
    have low : z < s.heap.objs.size := Heap.lt_size hz
    have n1 : i < its.toArray.size := by
      have := (List.getElem?_eq_some_iff.mp gx).1
      rw [List.size_toArray, ← rv.length]; exact this
    have n2 : i < jts.toArray.size := by
      have := (List.getElem?_eq_some_iff.mp gy).1
      rw [List.size_toArray, ← rw_.length]; exact this
    refine wpAny_pyNext_zipD2_item S (drawsB (A := X.A.in1) (I.ok.hd hc) ha its.toArray) (drawsB (A := X.A.in1) (I.ok.hd hc) hl jts.toArray) hz hT hO ⟨w1, p1⟩ ⟨w2, p2⟩ n1 n2 fun u v h' tk eu ev z' O' d1 d2 T' _ kp => ?_
    obtain ⟨u', eu', ru⟩ := rv.get gx
    obtain ⟨v', ev', rv'⟩ := rw_.get gy
    have eu : its[i]? = some u := by simpa using eu
    have ev : jts[i]? = some v := by simpa using ev
    rw [eu'] at eu
    rw [ev'] at ev
    cases eu
    cases ev
    refine ⟨_, rfl, wpAny_letOwnedTupleGo_zip (s := { s with heap := h', toks := tk }) z' fun h2 z2 sb => ?_⟩
    have T2 : h2.get? s.heap.objs.size = some { cls := .type "tuple", data := .seq #[u, v] } := (sb.2 _ (Nat.ne_of_gt low)).trans T'
    have J : Inv X pins σ (L2.upd H s.heap.objs.size (.frz { cls := .type "tuple", data := .seq #[u, v] } (.tup [x, y]))) { s with heap := h2, toks := tk } :=
      I.turnedNew (t' := tk) (ch := [z, TI, TO, i1, i2]) (fun c o m q => let ⟨m1, m2, m3, m4⟩ := out m; (sb.2 c m1).trans (kp c o m1 m2 m3 m4 q)) fp (Nat.le_refl _) ⟨T2, by rw [sizeLine_eq, List.length_cons, List.length_singleton]; omega, [u, v], .cons ru (.cons rv' .nil), ⟨_, T2, rfl, _, rfl⟩⟩
    refine ⟨.ref s.heap.objs.size, _, J, rfl, ⟨_, _, x, y, rfl, I.hok.fresh (Nat.le_refl _), rfl, rfl, fun xs' q => by rw [sqB_inj I q qx]; exact gx, fun ys' q => by rw [sqB_inj I q qy]; exact gy⟩, ⟨z2, (sb.2 _ S.TIz).trans (kp _ _ S.TIz S.TITO S.TIi1 S.TIi2 hT), ⟨u, v, (sb.2 _ S.TOz).trans O'⟩, wkB_at d1.1 fun o q => (sb.2 _ (Ne.symm S.zi1)).trans q, wkB_at d2.1 fun o q => (sb.2 _ (Ne.symm S.zi2)).trans q⟩, fun c hcm => ?_⟩
    have lt : c < s.heap.objs.size := by
      rcases five hcm with e | e | e | e | e <;> rw [e]
      · exact low
      · exact Heap.lt_size hT
      · exact Heap.lt_size hO
      · exact let ⟨_, e, _⟩ := wkB_ob w1; Heap.lt_size e
      · exact let ⟨_, e, _⟩ := wkB_ob w2; Heap.lt_size e
    rw [upd_ne (Nat.ne_of_lt lt)]
    exact (fp c hcm).1
  · intro X eP ew eK hc i pins s σ H E I fp ⟨hz, hT, ⟨x0, y0, hO⟩, w1, w2⟩ ⟨xs, ys, qx, qy, ei⟩
    subst eP ew eK
    obtain ⟨its, rv, p1⟩ := sqB_is I qx
    obtain ⟨jts, rw_, p2⟩ := sqB_is I qy
    have z1 : its.toArray.size = xs.length := by rw [List.size_toArray, ← rv.length]
    have z2 : jts.toArray.size = ys.length := by rw [List.size_toArray, ← rw_.length]
    exact wpAny_pyNext_zipD2_end S (drawsB (A := X.A.in1) (I.ok.hd hc) ha its.toArray) (drawsB (A := X.A.in1) (I.ok.hd hc) hl jts.toArray) hz hT hO ⟨w1, p1⟩ ⟨w2, p2⟩ (by rw [z1]; omega) (by rw [z2]; omega) (by rw [z1, z2]; omega) fun h' tk kp => ⟨rfl, I.turnedL (t' := tk) (ch := [z, TI, TO, i1, i2]) (fun c o m q => let ⟨m1, m2, m3, m4⟩ := out m; kp c o m1 m2 m3 m4 q) fp⟩
theorem walkB {K : PySem.W.Frag} {b1 b2 : Bool} {a l : Addr} {xs ys : List V} : Walk (ItzB b1 b2 K a l) (min xs.length ys.length) (fun H => SqB b1 K H a xs ∧ SqB b2 K H l ys) (YPr (fun i => xs[i]?) (fun i => ys[i]?)) := by
  refine ⟨fun i _ hi q => ?_, fun _ q => ⟨xs, ys, q.1, q.2, rfl⟩, fun i H v H' _ q ⟨T, ob, x, y, e1, e2, e0, e3, e4, e5⟩ => ⟨T, ob, x, y, e1, e2, e0, e3, e4 xs q.1, e5 ys q.2⟩⟩
  have h1 : i < xs.length := by omega
  have h2 : i < ys.length := by omega
  exact ⟨xs, ys, xs[i], ys[i], q.1, q.2, by simp [h1], by simp [h2]⟩
def iZipB (K : PySem.W.Frag) (ta : TA) : TI := fun σ H R => ta σ H fun vs H1 => ∃ (b1 b2 : Bool) (a l : Addr) (xs ys : List V), vs = [.ref a, .ref l] ∧ SqB b1 K H1 a xs ∧ SqB b2 K H1 l ys ∧ R (ItzB b1 b2 K a l) H1
theorem pi_zipB {Z : Cx} {e e2 : Expr} {ta : TA} {p pos tpos : Pos} {elts : List Expr} {kk : Nat} (hg : Gl Z "zip") (hm : Z.mg "zip" = none) (hargs : PA Z [e, e2] ta)
    (s1 : starEach [e, e2] Z.env = (false, eval e Z.env) :: starEach [e2] Z.env) (pl : (backTo pos (starEach [e2] Z.env)).any (·.1) = false) : PI Z (.Tuple elts kk tpos) (.Call (.Name "zip" p) [e, e2] [] pos) (iZipB Z.K ta) := by
  refine ⟨fun pins s σ H R I q => Call_ (ld_blt I hg hm PyProof.Rows.boot_zip (PyProof.Rows.callWith_type1 (thn (hargs.run pos pins s σ H _ I q) fun us t ⟨vs, H1, J, rel, q1⟩ => ?_) s1 pl))⟩
  obtain ⟨b1, b2, a, l, xs, ys, rfl, qx, qy, q2⟩ := q1
  obtain ⟨u1, u2, rfl, ra, rl⟩ : ∃ u1 u2, us = [u1, u2] ∧ RelV (.ref a) u1 ∧ RelV (.ref l) u2 := by
    cases rel with
    | cons r1 rr =>
      cases rr with
      | cons r2 rr =>
        cases rr
        exact ⟨_, _, rfl, r1, r2⟩
  cases ra
  cases rl
  obtain ⟨its, _, p1⟩ := sqB_is J qx
  obtain ⟨jts, _, p2⟩ := sqB_is J qy
  have la := isB_lt p1
  have ll := isB_lt p2
  refine zip_begins2 (beginsB b1 a its.toArray) (beginsB b2 l jts.toArray) p1 p2 fun h' z T O g1 g2 _ kp => wpAny_pyIter_zip z ?_
  have J2 : Inv Z pins σ H1 { t with heap := h' } := J.kept (t' := t.toks) kp
  refine ⟨t.heap.objs.size + 4, [t.heap.objs.size + 4, t.heap.objs.size + 2, t.heap.objs.size + 3, t.heap.objs.size, t.heap.objs.size + 1], _, _, H1, rfl, J2, turnB (zip_sep2 (fun c hc => by rw [List.mem_singleton.mp hc]; exact la) fun c hc => by rw [List.mem_singleton.mp hc]; exact ll) (Nat.ne_of_lt la) (Nat.ne_of_lt (Nat.lt_succ_of_lt ll)), ⟨z, T, ⟨_, _, O⟩, wkB_new g1, wkB_new g2⟩, fun c hc => ?_, q2⟩
  have low : t.heap.objs.size ≤ c := by
    simp only [List.mem_cons, List.not_mem_nil, or_false] at hc
    rcases hc with e | e | e | e | e <;> rw [e] <;> first | exact Nat.le_refl _ | exact Nat.le_add_right _ _
  exact J.fpOk low (J.hok.fresh low)
theorem sat_ite {α : Type} {p : Prop} [Decidable p] {m : Ev.R α} {P : α → Prop} {E : String → List (String × D) → Prop} (h : (if p then m else .stuck).sat P E) : p ∧ m.sat P E := by
  split at h
  · exact ⟨by assumption, h⟩
  · exact h.elim
theorem i_zip {e2 : Expr} {m2 : R D} (he : JE X W c ρ .sh e m) (he2 : JE X W c ρ .sh e2 m2) (hm : X.mg "zip" = none) (hg : Gl X "zip" := by rfl) (hs : starEach [e, e2] X.env = (false, eval e X.env) :: starEach [e2] X.env := by rfl) (hs2 : starEach [e2] X.env = [(false, eval e2 X.env)] := by rfl) (hpl : (backTo pos (starEach [e2] X.env)).any (·.1) = false := by rfl) :
    JI X W c ρ (.Tuple elts kk tpos) (.Call (.Name "zip" p) [e, e2] [] pos) (zipD m m2) :=
  PI.imp (pi_zipB hg hm (s_cons he (s_cons he2 s_nil hs2) hs) hs hpl) fun σ H Rk q => by
    · refine ⟨q.1, R.sat_bind.mpr (R.sat_mono (R.sat_bind.mp q.2) (fun d z0 => ?_) fun _ _ z => z)⟩
      refine R.sat_bind.mpr (R.sat_bind.mpr (R.sat_mono (R.sat_bind.mp z0) (fun d2 z => ?_) fun _ _ z => z))
      clear z0
      show ∀ H', Pg c.T c.hd H H' → ∀ vs, _ → _
      intro H1 g vs ⟨v, vr, e1, rv, v2, vr2, e3, rv2, e4⟩
      cases (show vr2 = [] from e4)
      subst e3 e1
      have rows : ∀ {xs ys : List D} {vs us : List V}, RepL X.bs H1 (OA c ρ σ) xs vs → RepL X.bs H1 (OA c ρ σ) ys us → ∀ (i : Nat) (H2 : Hp) (v : V) (H3 : Hp) (O1 : Ad), i < (zipL xs ys).length → Still H1 (OA c ρ σ) H2 → (∀ a, O1 a → Fre H1 a ∨ OA c ρ σ a) → (∀ a, O1 a → ∃ u, H2 a = some u) → YPr (fun i => vs[i]?) (fun i => us[i]?) i H2 v H3 →
          Gr H2 H3 ∧ ∃ d, (zipL xs ys)[i]? = some d ∧ Rep X.bs H3 O1 d v := fun {xs ys vs us} r r2 i H2 v H3 O1 hi st ho hO y => by
        obtain ⟨T, ob, x, y, rfl, hT, d0, hH, ex, ey⟩ := y
        obtain ⟨d, e, r⟩ := r.getV ex
        obtain ⟨d2, e2, r2⟩ := r2.getV ey
        obtain ⟨g, rp⟩ := pair_rep hT d0 hH hO (r.kp (st.kp ho)) (r2.kp (st.kp ho))
        exact ⟨g, _, zipL_at e e2, rp⟩
      have sqT : ∀ {a : Addr} {vs : List V} {H : Hp}, TupAt X.bs H1 (OA c ρ σ) a vs → Still H1 (OA c ρ σ) H → SqB false X.K H a vs := fun {a vs H} t st => by
        exact t.still fun u w => st a u w
      have sqL : ∀ {a : Addr} {vs : List V} {H : Hp}, H1 a = some (.lst vs) → ¬ OA c ρ σ a → Still H1 (OA c ρ σ) H → SqB true X.K H a vs := fun {a vs H} t n st => .inl (.of (st a _ nt_lst t n))
      have fin : ∀ {xs ys : List D} {b1 b2 : Bool} {a l : Addr} {vs us : List V}, RepL X.bs H1 (OA c ρ σ) xs vs → RepL X.bs H1 (OA c ρ σ) ys us → (∀ {H}, Still H1 (OA c ρ σ) H → SqB b1 X.K H a vs) → (∀ {H}, Still H1 (OA c ρ σ) H → SqB b2 X.K H l us) → v = .ref a → v2 = .ref l → (zipL xs ys).length ≤ SZ →
          (∀ (J : It) (Y : Nat → Hp → V → Hp → Prop), (zipL xs ys).length ≤ SZ → Walk J (zipL xs ys).length (Still H1 (OA c ρ σ)) Y → (∀ (i : Nat) (H2 : Hp) (v : V) (H3 : Hp) (O1 : Ad), i < (zipL xs ys).length → Still H1 (OA c ρ σ) H2 → (∀ a, O1 a → Fre H1 a ∨ OA c ρ σ a) → (∀ a, O1 a → ∃ u, H2 a = some u) → Y i H2 v H3 → Gr H2 H3 ∧ ∃ d, (zipL xs ys)[i]? = some d ∧ Rep X.bs H3 O1 d v) → Rk J H1) →
          ∃ (b1 b2 : Bool) (a l : Addr) (xs ys : List V), [v, v2] = [V.ref a, V.ref l] ∧ SqB b1 X.K H1 a xs ∧ SqB b2 X.K H1 l ys ∧ Rk (ItzB b1 b2 X.K a l) H1 := fun {xs ys b1 b2 a l vs us} r r2 k1 k2 e1 e2 hz k => by
        have hl : (zipL xs ys).length = min vs.length us.length := by rw [r.length, r2.length]; simp [zipL]
        subst e1 e2
        exact ⟨b1, b2, a, l, vs, us, rfl, k1 fun _ _ _ e _ => e, k2 fun _ _ _ e _ => e, k _ _ hz (by rw [hl]; exact walkB.mono (fun H st => ⟨k1 st, k2 st⟩) fun _ _ _ _ _ _ y => y) (rows r r2)⟩
      split at z
      · obtain ⟨a, vs, ea, ⟨h1, n1⟩, r⟩ := rv
        obtain ⟨b, us, eb, ⟨h2, n2⟩, r2⟩ := rv2
        exact fin r r2 (sqL h1 n1) (sqL h2 n2) ea eb (sat_ite z).1 ((sat_ite z).2 H1 g)
      · obtain ⟨a, vs, ea, t1, r⟩ := rv
        obtain ⟨b, us, eb, t2, r2⟩ := rv2
        exact fin r r2 (sqT t1) (sqT t2) ea eb (sat_ite z).1 ((sat_ite z).2 H1 g)
      · obtain ⟨a, vs, ea, t1, r⟩ := rv
        obtain ⟨b, us, eb, ⟨h2, n2⟩, r2⟩ := rv2
        exact fin r r2 (sqT t1) (sqL h2 n2) ea eb (sat_ite z).1 ((sat_ite z).2 H1 g)
      · obtain ⟨a, vs, ea, ⟨h1, n1⟩, r⟩ := rv
        obtain ⟨b, us, eb, t2, r2⟩ := rv2
        exact fin r r2 (sqL h1 n1) (sqT t2) ea eb (sat_ite z).1 ((sat_ite z).2 H1 g)
      · exact z.elim
end

/-! ### targets within targets -/
theorem wipe_get {σ : L2.St} {j : Nat} : ∀ {vs : List Nat}, (wipe σ vs)[j]? = if j ∈ vs then (if j < σ.length then some none else none) else σ[j]?
  | [] => by simp [wipe]
  | v :: vs => by
    unfold wipe
    by_cases e : v = j
    · subst e
      rw [if_pos List.mem_cons_self]
      by_cases hl : v < σ.length
      · rw [List.getElem?_set_self (by rw [wipe_length]; exact hl), if_pos hl]
      · rw [List.getElem?_eq_none (by rw [List.length_set, wipe_length]; omega), if_neg hl]
    · rw [List.getElem?_set_ne e, wipe_get]
      have : (j ∈ v :: vs) ↔ j ∈ vs := by simp [Ne.symm e]
      simp only [this]
theorem wipe_both {σ σ1 σ2 : L2.St} {as bs : List Nat} (h1 : wipe σ1 as = wipe σ as) (h2 : wipe σ2 bs = wipe σ1 bs) : wipe σ2 (as ++ bs) = wipe σ (as ++ bs) := by
  refine List.ext_getElem? fun j => ?_
  have e1 := congrArg (·[j]?) h1
  have e2 := congrArg (·[j]?) h2
  have l1 := congrArg List.length h1
  have l2 := congrArg List.length h2
  simp only [wipe_length] at l1 l2
  simp only [wipe_get] at e1 e2 ⊢
  by_cases ha : j ∈ as
  · simp only [List.mem_append, ha, true_or, if_true, l2, l1]
  · by_cases hb : j ∈ bs
    · simp only [List.mem_append, hb, or_true, if_true, l2, l1]
    · simp only [ha, hb, if_false, List.mem_append, or_self] at e1 e2 ⊢
      rw [e2, e1]
abbrev QRun (X : Cx) {T A : Type} (Re : Hp → Ad → A → Prop) (U : (γ : Type) → A → (T → Ev.R γ) → Ev.R γ) (st : List Sl → T → List Sl) (vs : List Nat) (g : L2.St → Hp → A → (L2.St → Hp → Prop) → Prop) : Prop :=
  ∀ {γ : Type} (c : Fr) (ρ : List Sl) (σ : L2.St) (H : Hp) (d : A) (Q : L2.St → Hp → Prop) (F : T → Ev.R γ) (P : γ → Prop) (E : String → List (String × D) → Prop), vs.all (fun i => decide (i < ρ.length)) = true → WI X.bs c ρ σ H → Re H (OA c ρ σ) d → (U γ d F).sat P E →
    (∀ t σ', WI X.bs c (st ρ t) σ' H → (F t).sat P E → wipe σ' vs = wipe σ vs → (noOw ρ vs = true → ∀ a, OA c ρ σ a → OA c (st ρ t) σ' a) → (∀ a, OA c (st ρ t) σ' a → OA c ρ σ a) → (st ρ t).length = ρ.length → (∀ (i : Nat) (d : D), (st ρ t)[i]? = some (Sl.ow d) → ρ[i]? = some (Sl.ow d)) → Q σ' H) → g σ H d Q
structure Tq (X : Cx) (tg : Expr) {T : Type} (U : (γ : Type) → D → (T → Ev.R γ) → Ev.R γ) (st : List Sl → T → List Sl) (vs : List Nat) where
  g : TG
  pg : PG X tg g
  run : ∀ v, QRun X (fun H O d => Rep X.bs H O d v) U st vs fun σ H _ Q => g v σ H Q
structure Tqs (X : Cx) (tgs : List Expr) {T : Type} (U : (γ : Type) → List D → (T → Ev.R γ) → Ev.R γ) (st : List Sl → T → List Sl) (vs : List Nat) where
  g : TGs
  pg : PGs X tgs g
  run : ∀ us, QRun X (fun H O ds => RepL X.bs H O ds us) U st vs fun σ H _ Q => g us σ H Q
section
variable {X : Cx} {pos p : Pos} {x : Str} {i : Nat}
def q_name (hN : X.N.Nodup) (hi : X.N[i]? = some x := by rfl) (hx : Loc X.env.scope x := by first | exact Or.inl rfl | exact Or.inr rfl) (hf : X.fn x = true ∨ X.env.scope.names.lookup x = some .local := by first | exact .inl rfl | exact .inr rfl) :
    Tq X (.Name x pos) U1 (fun ρ d => ρ.set i (.sh d)) [i] where
  g := gName i
  pg := pg_name hN hi hx hf
  run := by
   intro v γ c ρ σ H d Q F P E hl w r s k
   exact k d _ (w.setSh (by simpa using hl) r) s (wipe_set List.mem_cons_self) (fun n a z => OA_kept (fun d => noOw_at n List.mem_cons_self) z) (fun a z => z.imp id (hand_set fun d e => by cases e)) (by rw [List.length_set]) fun j e h => by
    rcases ix_set h with ⟨_, e, _⟩ | ⟨_, e⟩
    · cases e
    · exact e
def q_nil : Tqs X [] uNil (fun ρ _ => ρ) [] where
  g := gNil
  pg := pgs_nil
  run := by
    intro us γ c ρ σ H ds Q F P E hl w r s k
    unfold uNil at s
    split at s
    · cases (show us = [] from r)
      exact ⟨rfl, k () _ w s rfl (fun _ _ z => z) (fun _ z => z) rfl fun _ _ z => z⟩
    · exact s.elim
def q_cons {e : Expr} {es : List Expr} {A B : Type} {UA : (γ : Type) → D → (A → Ev.R γ) → Ev.R γ} {UB : (γ : Type) → List D → (B → Ev.R γ) → Ev.R γ} {sa : List Sl → A → List Sl} {sb : List Sl → B → List Sl} {va vb : List Nat} (a : Tq X e UA sa va) (b : Tqs X es UB sb vb)
    (hs : (assignEach (e :: es) X.env).map (·.2) = assign e X.env :: (assignEach es X.env).map (·.2) := by rfl) : Tqs X (e :: es) (uCons UA UB) (fun ρ t => sb (sa ρ t.1) t.2) (va ++ vb) where
  g := gCons a.g b.g
  pg := pgs_cons a.pg b.pg hs
  run := by
    intro us γ c ρ σ H ds Q F P E hl w r s k
    unfold uCons at s
    split at s
    · rename_i x r0
      obtain ⟨v, vr, rfl, rv, rr⟩ := (show ∃ v vr, _ from r)
      rw [List.all_append, Bool.and_eq_true] at hl
      refine ⟨v, vr, rfl, a.run v c ρ σ H x _ _ P E hl.1 w rv s fun t σ1 w1 s1 wp1 up1 dn1 ln1 ow1 => ?_⟩
      have hl2 : vb.all (fun i => decide (i < (sa ρ t).length)) = true := by rw [ln1]; exact hl.2
      refine b.run vr c (sa ρ t) σ1 H r0 _ _ P E hl2 w1 (rr.less dn1) s1 fun u σ2 w2 s2 wp2 up2 dn2 ln2 ow2 => k (t, u) _ w2 s2 (wipe_both wp1 wp2) (fun n q z => ?_) (fun q z => dn1 q (dn2 q z)) (ln2.trans ln1) fun i d h => ow1 i d (ow2 i d h)
      unfold noOw at n
      rw [List.all_append, Bool.and_eq_true] at n
      refine up2 (List.all_eq_true.mpr fun j hj => ?_) q (up1 n.1 q z)
      have n2 := List.all_eq_true.mp n.2 j hj
      cases e1 : (sa ρ t)[j]? with
      | none => rfl
      | some sl =>
        cases sl with
        | ow d =>
          rw [ow1 j d e1] at n2
          exact n2
        | _ => rfl
    · exact s.elim
def q_tup {es : List Expr} {kk : Nat} {A : Type} {UA : (γ : Type) → List D → (A → Ev.R γ) → Ev.R γ} {sa : List Sl → A → List Sl} {va : List Nat} (hc : X.calm = true) (n : Nat) (a : Tqs X es UA sa va) (hn : (assignEach es X.env).length = n := by rfl) (hst : (assignEach es X.env).findIdx? (·.1) = none := by rfl) : Tq X (.Tuple es kk pos) (uT n UA) sa va where
  g := gTup X.K n a.g
  pg := pg_tup hc a.pg hn hst
  run := by
    intro v γ c ρ σ H d Q F P E hl w r s k
    unfold uT at s
    split at s
    · rename_i xs
      obtain ⟨hn, s⟩ := sat_ite s
      obtain ⟨p, vs, rfl, h1, h2, r1⟩ := TupAt.got rfl r hn
      exact ⟨p, vs, rfl, h1, h2, a.run vs c ρ σ H xs Q F P E hl w r1 s k⟩
    · exact s.elim
def Tq.tg {e : Expr} {A : Type} {UA : (γ : Type) → D → (A → Ev.R γ) → Ev.R γ} {sa : List Sl → A → List Sl} {va : List Nat} (a : Tq X e UA sa va) : Tg X e UA sa va where
  g := a.g
  pg := a.pg
  run := fun c ρ σ H d v Q F P E hl w r s k => a.run v c ρ σ H d Q F P E hl w r s fun t σ' w' s' wp up _ _ _ => k t σ' w' s' wp up
end
end Ev


set_option Elab.async false
set_option linter.all false
set_option maxRecDepth 100000
/-! Ev, part K: comprehensions of two clauses. -/
namespace Ev
open PySem PySem.Spec PyProof.Rows L2
section
variable {J : It} {n : Nat} {G : Hp → Prop} {Y : Nat → Hp → V → Hp → Prop}
theorem lc_out (w : Walk J n G Y) {g : TG} {tt : TT} {B : L2.St → Hp → (Hp → Prop) → Prop} {vs : List Nat} {σ : L2.St} {H0 : Hp} {Qd : Hp → Prop} (Pv : Nat → Hp → Prop) (h0 : Pv 0 H0) (hG : ∀ i H, i ≤ n → Pv i H → G H)
    (hs : ∀ i x H H', i < n → Pv i H → Y i H x H' → g x (wipe σ vs) H' fun σ2 H2 => wipe σ2 vs = wipe σ vs ∧ tt σ2 H2 fun b H3 => if b = true then B σ2 H3 (Pv (i + 1)) else Pv (i + 1) H3) (hd : ∀ H, Pv n H → Qd H) :
    ∃ W : Nat → Nat → Hp → Prop, (∃ m, W 0 m H0) ∧ ∀ i m H, W i m H → (J.stop i H ∧ Qd H) ∨ (J.go i H ∧ ∃ Nx : Hp → Prop, (∀ H', Nx H' → ∃ m', m' < m ∧ W (i + 1) m' H') ∧ ∀ x H', J.yld i H x H' → g x (wipe σ vs) H' fun σ2 H2 => wipe σ2 vs = wipe σ vs ∧ tt σ2 H2 fun b H3 => if b = true then B σ2 H3 Nx else Nx H3) := by
  refine ⟨fun i m H => m = n - i ∧ i ≤ n ∧ Pv i H, ⟨n, by simp, Nat.zero_le _, h0⟩, ?_⟩
  rintro i m H ⟨rfl, hi, p⟩
  have q := hG i H hi p
  by_cases hlt : i < n
  · refine .inr ⟨w.goes i H hlt q, Pv (i + 1), fun H' p' => ⟨n - (i + 1), by omega, rfl, hlt, p'⟩, fun x H' y => hs i x H H' hlt p (w.yields i H x H' hlt q y)⟩
  · have e : i = n := by omega
    subst e
    exact .inl ⟨w.stops H q, hd H p⟩
end
section
variable {B : Bs} {c : Fr} {ρ : List Sl} {σ : L2.St} {H : Hp} {D : Addr}
/-- the list at D, in hand, is another -/
theorem WI.touch {l0 l : List V} (w : WI B c ρ σ H) (hD : c.O0 D) (fr : Fre c.H0 D) (nhd : ¬ c.hd D) (e : H D = some (.lst l0)) : WI B c ρ σ (L2.upd H D (.lst l)) := by
  have ne : ∀ {a : Addr}, a ≠ D → L2.upd H D (.lst l) a = H a := fun h => upd_ne h
  have k : Kp H (L2.upd H D (.lst l)) (OA c ρ σ) (OA c ρ σ) := .of fun a u t q n => ⟨by rw [ne fun z => n (.inl (by rw [z]; exact hD))]; exact q, n⟩
  have th : ∀ a, Thr H a → Thr (L2.upd H D (.lst l)) a := fun a ⟨u, t, q⟩ => by
    by_cases z : a = D
    · rw [z]; exact ⟨_, nt_lst, upd_same⟩
    · exact ⟨u, t, by rw [ne z]; exact q⟩
  have hp : ∀ a p, c.hd a → p ≠ D → HandP H a p → HandP (L2.upd H D (.lst l)) a p := fun a p ha hp ⟨cs, x, y, z, l, q, h1, h2⟩ => ⟨cs, x, y, z, l, q, by rw [ne fun z => nhd (by rw [← z]; exact ha)]; exact h1, by rw [ne hp]; exact h2⟩
  have tb : LamX.Tabs c.T H → LamX.Tabs c.T (L2.upd H D (.lst l)) := fun h p hp => tab_upd e nt_lst (fun _ z => by cases z) (h p hp)
  refine ⟨w.len, fun i d q => ?_, fun i d q => ?_, w.hsl, w.vas, w.dj, fun a z => th a (w.o0 a z), w.hdo, fun a z => ?_, ⟨fun a u t q n => ?_, fun a p ha h => ?_, fun a h => th a (w.ext.th a h), fun h => tb (w.ext.tb h)⟩, w.h00, tb w.tbs, fun Hs Os z a u t q n => ?_, fun Hs Os z a h => th a (w.snT Hs Os z a h), w.snO, w.snH⟩
  · obtain ⟨v, q, r⟩ := w.shs i d q
    exact ⟨v, q, r.kp k⟩
  · obtain ⟨a, q, r, f, m, m2⟩ := w.ows i d q
    exact ⟨a, q, r.kp k fun u t q => by rw [ne fun z => m2 (by rw [z]; exact hD)]; exact q, f, m, m2⟩
  · obtain ⟨p, q, n⟩ := w.hds a z
    exact ⟨p, hp a p z (fun z => n (.inl (by rw [z]; exact hD))) q, n⟩
  · rw [ne fun z => fr.no (by rw [← z]; exact ⟨u, t, q⟩)]
    exact w.ext.kp a u t q n
  · refine hp a p ha (fun z => ?_) (w.ext.hs a p ha h)
    obtain ⟨cs, _, _, _, _, _, _, h2⟩ := h
    exact fr.no (by rw [← z]; exact ⟨_, nt_lst, h2⟩)
  · rw [ne fun y => ?_]
    · exact w.snE Hs Os z a u t q n
    · subst y
      rcases w.snO Hs Os z a (.inl hD) with f | f
      · exact f.no ⟨u, t, q⟩
      · exact n f
theorem WI.wipeK (w : WI B c ρ σ H) (vs : List Nat) : WI B c (wipeS ρ vs) (L2.wipe σ vs) H := w.wipe vs
end

theorem wipe_idem (σ : L2.St) (vs : List Nat) : wipe (wipe σ vs) vs = wipe σ vs := by
  refine List.ext_getElem? fun j => ?_
  simp only [wipe_get, wipe_length]
  split <;> rfl
theorem noOw_wiped (ρ : List Sl) (vs : List Nat) : noOw (wipeS ρ vs) vs = true := by
  unfold noOw
  refine List.all_eq_true.mpr fun j hj => ?_
  cases e : (wipeS ρ vs)[j]? with
  | none => rfl
  | some s =>
    rcases wipeS_get e with e | ⟨_, m⟩
    · rw [e]
    · exact absurd hj m
theorem OA_wiped {c : Fr} {ρ : List Sl} {σ : L2.St} {vs : List Nat} {b : Addr} (z : OA c (wipeS ρ vs) (wipe σ vs) b) : OA c ρ σ b := by
  rcases z with z | ⟨j, d, e1, e2⟩
  · exact .inl z
  · rcases wipeS_get e1 with e | ⟨e, m⟩
    · cases e
    · exact .inr ⟨j, d, e, by rw [wipe_keep m] at e2; exact e2⟩
abbrev Run (X : Cx) {T : Type} (U : (γ : Type) → D → (T → Ev.R γ) → Ev.R γ) (st : List Sl → T → List Sl) (vs : List Nat) (g0 : TG) : Prop :=
  ∀ {γ : Type} (c : Fr) (ρ : List Sl) (σ : L2.St) (H : Hp) (d : D) (v : V) (Q : L2.St → Hp → Prop) (F : T → Ev.R γ) (P : γ → Prop) (E : String → List (String × D) → Prop), vs.all (fun i => decide (i < ρ.length)) = true → WI X.bs c ρ σ H → Rep X.bs H (OA c ρ σ) d v → (U γ d F).sat P E →
    (∀ t σ', WI X.bs c (st ρ t) σ' H → (F t).sat P E → wipe σ' vs = wipe σ vs → (noOw ρ vs = true → ∀ a, OA c ρ σ a → OA c (st ρ t) σ' a) → Q σ' H) → g0 v σ H Q
section
variable {X : Cx} {W : WX} {c : Fr} {ρ : List Sl} {T S : Type} {U : (γ : Type) → D → (T → Ev.R γ) → Ev.R γ} {V' : (γ : Type) → D → (S → Ev.R γ) → Ev.R γ} {st : List Sl → T → List Sl} {st2 : List Sl → S → List Sl} {vs vs1 : List Nat} {mi : Ev.R (List D)} {m2 : T → Ev.R (List D)} {C : T → Ev.R Bool} {C2 : T → S → Ev.R Bool} {F : T → S → Ev.R D}
def tKi (X : Cx) (ρ : List Sl) (st : List Sl → T → List Sl) (vs : List Nat) (Tt : List (Addr × Str)) (m2 : T → Ev.R (List D)) : TI := fun σ H Rk => ∃ q : {c' : Fr // c'.T = Tt} × T, tI X W0 q.1.1 (st (wipeS ρ vs) q.2) (m2 q.2) σ H Rk
def tKt (X : Cx) (ρ : List Sl) (st : List Sl → T → List Sl) (st2 : List Sl → S → List Sl) (vs vs1 : List Nat) (Tt : List (Addr × Str)) (C2 : T → S → Ev.R Bool) : TT := fun σ H Q => ∃ q : {c' : Fr // c'.T = Tt} × T × S, tB X W0 q.1.1 (st2 (wipeS (st (wipeS ρ vs) q.2.1) vs1) q.2.2) (C2 q.2.1 q.2.2) σ H Q
def tKe (X : Cx) (ρ : List Sl) (st : List Sl → T → List Sl) (st2 : List Sl → S → List Sl) (vs vs1 : List Nat) (Tt : List (Addr × Str)) (F : T → S → Ev.R D) : TE := fun σ H Q => ∃ q : {c' : Fr // c'.T = Tt} × T × S, tE X W0 q.1.1 (st2 (wipeS (st (wipeS ρ vs) q.2.1) vs1) q.2.2) .sh (F q.2.1 q.2.2) σ H Q
theorem l2_read {ga gb : TG} (ra : Run X U st vs ga) (rb : Run X V' st2 vs1 gb) {Tt : List (Addr × Str)} (hT : c.T = Tt) (hl : vs.all (fun i => decide (i < ρ.length)) = true) (no : noOw ρ vs = true) (hl1 : ∀ t, vs1.all (fun i => decide (i < (st (wipeS ρ vs) t).length)) = true) (no1 : ∀ t, noOw (st (wipeS ρ vs) t) vs1 = true)
    {σ : L2.St} {H : Hp} {Q : VK} (q : tE X W c ρ .ra (l2R mi U C m2 V' C2 F) σ H Q) : tLc2 (tI X W c ρ mi) ga (tCt X ρ st vs Tt C) (tKi X ρ st vs Tt m2) gb (tKt X ρ st st2 vs vs1 Tt C2) (tKe X ρ st st2 vs vs1 Tt F) vs vs1 σ H Q := by
  let inn : T → List D → D → Ev.R (List D) := fun t acc y => V' (List D) y fun s => ifR (C2 t s) ((F t s).bind fun d => appL acc d) (.ok acc)
  let stp : List D → D → Ev.R (List D) := fun acc x => nx (U (List D) x fun t => ifR (C t) ((m2 t).bind fun ys => forR (inn t) acc ys) (.ok acc))
  have q' : tE X W c ρ .ra (mi.bind fun xs => (forR stp [] xs).map .lst) σ H Q := by
    unfold l2R at q
    unfold R.map at q ⊢
    rw [R.bind_assoc] at q
    exact q
  refine Wd.mono (Wd.bind q') fun xs H1 g q1 J Y hz w ys Da hD => ?_
  have w1 := q1.1
  have nhd : ¬ c.hd Da := fun z => (Fre.of hD).no (w1.hth Da z)
  have hn : Pg c.T c.hd H1 (L2.upd H1 Da (.lst [])) := (Gr.laid hD).pg
  have fr0 : Fre c.H0 Da := w1.fresh (.of hD)
  let Fin : List D → Prop := fun ys => ∀ H', Pg c.T c.hd H1 H' → ∀ v, RepX X.bs c.hd H H' (OA c ρ σ) .ra (.lst ys) v → Q v H'
  refine lc_out w (fun i H2 => ∃ ds, Acc X c (OA c ρ σ) H1 Da ds.length ds H2 ∧ (forR stp ds (xs.drop i)).sat Fin fun _ _ => True) ⟨[], ⟨hn, [], upd_same, rfl, Nat.zero_le _⟩, ?_⟩ (fun i H2 hi z => ?_) (fun i v H2 H3 hi z y => ?_) fun H2 z => ?_
  · exact R.sat_mono (R.sat_map.mp q1.2) (fun ys z => z) fun _ _ _ => trivial
  · obtain ⟨ds, a, _⟩ := z
    exact fun b u t e n => a.pg.kp b u t e fun z => n (w1.hdO b z)
  · obtain ⟨ds, a, sat⟩ := z
    have stl : Still H1 (OA c ρ σ) H2 := fun b u t e n => a.pg.kp b u t e fun z => n (w1.hdO b z)
    obtain ⟨acc0, eD, _, _⟩ := a.ex
    have w2 := (w1.plus (.of hD) a.pg ⟨_, nt_lst, eD⟩).wipe vs
    have hO1 : ∀ b, OA (c.plus Da) (wipeS ρ vs) (wipe σ vs) b → OA c ρ σ b ∨ b = Da := fun b z => OA_plus.mp (OA_wiped z)
    have hO2 : ∀ b, (OA c ρ σ b ∨ b = Da) → OA (c.plus Da) (wipeS ρ vs) (wipe σ vs) b := fun b z => OA_plus.mpr (z.imp (OA_wipe no) id)
    obtain ⟨g3, d, hd, rd⟩ := ys i H2 v H3 (OA (c.plus Da) (wipeS ρ vs) (wipe σ vs)) hi stl (fun b z => by
      rcases hO1 b z with z | rfl
      · exact .inr z
      · exact .inl (.of hD)) (fun b z => w2.there b z) y
    rw [drop_at hd] at sat
    have sat2 : (U (List D) d fun t => ifR (C t) ((m2 t).bind fun ys => forR (inn t) ds ys) (.ok ds)).sat (fun ds' => (forR stp ds' (xs.drop (i + 1))).sat Fin fun _ _ => True) (fun _ _ => False) := by
      have := R.sat_bind.mp sat
      exact nx_sat this (E' := fun _ _ => False)
    have a3 := a.on nhd w1.hdO g3.pg
    refine ra (c.plus Da) (wipeS ρ vs) (wipe σ vs) H3 d v _ _ _ _ (by rw [wipeS_len]; exact hl) (w2.gr g3) rd sat2 fun t σ2 w3 sat3 hw hk => ⟨by rw [hw, wipe_idem], ?_⟩
    have hO3 : ∀ b, (OA c ρ σ b ∨ b = Da) → OA (c.plus Da) (st (wipeS ρ vs) t) σ2 b := fun b z => hk (noOw_wiped ρ vs) b (hO2 b z)
    refine ⟨(⟨c.plus Da, hT⟩, t), Wd.wish w3 (R.sat_mono (R.sat_bind.mp sat3) (fun b z H4 g4 => ?_) fun _ _ z => z)⟩
    have a4 := a3.on nhd w1.hdO g4
    cases b with
    | false => exact ⟨ds, a4, z⟩
    | true =>
      refine ⟨(⟨c.plus Da, hT⟩, t), Wd.wish (w3.pg g4) (R.sat_mono (R.sat_bind.mp (show ((m2 t).bind fun ys => forR (inn t) ds ys).sat _ _ from z)) (fun ys2 z H5 g5 J1 Y1 hz1 wk1 ys1 => ?_) fun _ _ z => z)⟩
      have w5 := (w3.pg g4).pg g5
      refine lc_out wk1 (B := fun σ3 H6 N => tKe X ρ st st2 vs vs1 Tt F σ3 H6 fun y H7 => ∃ acc, H7 Da = some (.lst acc) ∧ acc.length < sizeLine ∧ N (L2.upd H7 Da (.lst (acc ++ [y]))))
        (fun j H6 => WI X.bs (c.plus Da) (st (wipeS ρ vs) t) σ2 H6 ∧ Still H5 (OA (c.plus Da) (st (wipeS ρ vs) t) σ2) H6 ∧ ∃ ds, Acc X c (OA c ρ σ) H1 Da ds.length ds H6 ∧ (forR (inn t) ds (ys2.drop j)).sat (fun ds' => (forR stp ds' (xs.drop (i + 1))).sat Fin fun _ _ => True) (fun _ _ => False)) ⟨w5, fun _ _ _ e _ => e, ds, a4.on nhd w1.hdO g5, z⟩ (fun j H6 hj z => z.2.1) (fun j y H6 H7 hj z yy => ?_) fun H6 z => ?_
      · obtain ⟨wI, stl2, ds2, a6, sat6⟩ := z
        have wW := wI.wipe vs1
        obtain ⟨g7, d2, hd2, rd2⟩ := ys1 j H6 y H7 (OA (c.plus Da) (wipeS (st (wipeS ρ vs) t) vs1) (wipe σ2 vs1)) hj stl2 (fun b z => .inr (OA_wiped z)) (fun b z => wW.there b z) yy
        rw [drop_at hd2] at sat6
        have sat7 : (V' (List D) d2 fun s => ifR (C2 t s) ((F t s).bind fun d => appL ds2 d) (.ok ds2)).sat (fun ds' => (forR (inn t) ds' (ys2.drop (j + 1))).sat (fun ds' => (forR stp ds' (xs.drop (i + 1))).sat Fin fun _ _ => True) (fun _ _ => False)) (fun _ _ => False) := R.sat_bind.mp sat6
        have stP : ∀ {Ha Hb : Hp}, Pg c.T c.hd Ha Hb → Still H5 (OA (c.plus Da) (st (wipeS ρ vs) t) σ2) Ha → Still H5 (OA (c.plus Da) (st (wipeS ρ vs) t) σ2) Hb := fun gp s a u t e n => gp.kp a u t (s a u t e n) fun z => n (.inl (.inl (w1.hdo a z)))
        refine rb (c.plus Da) (wipeS (st (wipeS ρ vs) t) vs1) (wipe σ2 vs1) H7 d2 y _ _ _ _ (by rw [wipeS_len]; exact hl1 t) (wW.gr g7) rd2 sat7 fun s σ3 w8 sat8 hw2 hk2 => ⟨by rw [hw2, wipe_idem], ?_⟩
        refine ⟨(⟨c.plus Da, hT⟩, t, s), Wd.wish w8 (R.sat_mono (R.sat_bind.mp sat8) (fun b z H8 g8 => ?_) fun _ _ z => z)⟩
        have a8 := (a6.on nhd w1.hdO g7.pg).on nhd w1.hdO g8
        have wI8 := (wI.gr g7).pg g8
        have st8 := stP g8 (stP g7.pg stl2)
        cases b with
        | false => exact ⟨wI8, st8, ds2, a8, z⟩
        | true =>
          refine ⟨(⟨c.plus Da, hT⟩, t, s), Wd.wish (w8.pg g8) (R.sat_mono (R.sat_bind.mp (show ((F t s).bind fun d => appL ds2 d).sat _ _ from z)) (fun d' z H9 g9 v' rv => ?_) fun _ _ z => z)⟩
          obtain ⟨hlt, z⟩ := sat_ite (show (if ds2.length < SZ then Ev.R.ok (ds2 ++ [d']) else .stuck).sat _ _ from z)
          have a9 := a8.on nhd w1.hdO g9
          have hO4 : ∀ b, (OA c ρ σ b ∨ b = Da) → OA (c.plus Da) (st2 (wipeS (st (wipeS ρ vs) t) vs1) s) σ3 b := fun b z => hk2 (noOw_wiped _ vs1) b (OA_wipe (no1 t) (hO3 b z))
          obtain ⟨acc, e9, hs, a10⟩ := Acc.next nhd w1.hdO w1.hth hD a9 (Rep.less hO4 (show Rep X.bs H9 _ d' v' from rv))
          refine ⟨acc, e9, hs hlt, (wI8.pg g9).touch (.inr rfl) fr0 nhd e9, fun a u t e n => ?_, ds2 ++ [d'], ?_, z⟩
          · rw [upd_ne fun z => n (.inl (.inr z))]
            exact stP g9 st8 a u t e n
          · rw [List.length_append, List.length_singleton]
            exact a10
      · obtain ⟨_, _, ds2, a6, sat6⟩ := z
        rw [List.drop_eq_nil_of_le (Nat.le_refl _)] at sat6
        exact ⟨ds2, a6, sat6⟩
  · obtain ⟨ds, a, sat⟩ := z
    rw [List.drop_eq_nil_of_le (Nat.le_refl _)] at sat
    obtain ⟨acc, e, r, _⟩ := a.ex
    have sat : Fin ds := sat
    exact sat H2 a.pg _ ⟨Da, rfl, q.1.none g (.of hD), acc, e, r⟩
end

theorem Run.wider {X : Cx} {T : Type} {U : (γ : Type) → D → (T → Ev.R γ) → Ev.R γ} {st : List Sl → T → List Sl} {va vs : List Nat} {g0 : TG} (h : Run X U st va g0) (s : ∀ i ∈ va, i ∈ vs) : Run X U st vs g0 := by
  intro γ c ρ σ H d v Q F P E hl w r sat k
  refine h c ρ σ H d v Q F P E (List.all_eq_true.mpr fun i hi => List.all_eq_true.mp hl i (s i hi)) w r sat fun t σ' w' sat' hw hk => k t σ' w' sat' ?_ fun n => hk (List.all_eq_true.mpr fun i hi => List.all_eq_true.mp n i (s i hi))
  refine List.ext_getElem? fun j => ?_
  have e := congrArg (·[j]?) hw
  have l := congrArg List.length hw
  simp only [wipe_length] at l
  simp only [wipe_get] at e ⊢
  rw [l]
  by_cases hj : j ∈ vs
  · rw [if_pos hj, if_pos hj]
  · have hj2 : j ∉ va := fun z => hj (s j z)
    rw [if_neg hj2, if_neg hj2] at e
    rw [if_neg hj, if_neg hj, e]
section
variable {X Z : Cx} {W : WX} {c : Fr} {ρ : List Sl} {T S : Type} {U : (γ : Type) → D → (T → Ev.R γ) → Ev.R γ} {V' : (γ : Type) → D → (S → Ev.R γ) → Ev.R γ} {st : List Sl → T → List Sl} {st2 : List Sl → S → List Sl} {va vs vs1 : List Nat} {mi : Ev.R (List D)} {m2 : T → Ev.R (List D)} {C : T → Ev.R Bool} {C2 : T → S → Ev.R Bool} {F : T → S → Ev.R D}
theorem pi_ex {tg e : Expr} {γ : Type} {t : γ → TI} (h : ∀ d, PI X tg e (t d)) : PI X tg e fun σ H Rk => ∃ d, t d σ H Rk := ⟨fun pins s σ H Rk I ⟨d, q⟩ => (h d).run pins s σ H Rk I q⟩
theorem tc_nil {Tt : List (Addr × Str)} : PTs Z [] (tCt Z ρ st vs Tt fun _ => .ok true) := ⟨fun pins s σ H Q I q => pts_nil.run pins s σ H Q I (by
  obtain ⟨p, q⟩ := q
  exact q.now)⟩
theorem tc_one {ct : Expr} {Tt : List (Addr × Str)} (h : ∀ (c' : Fr) (hT : c'.T = Tt) (t : T), JT Z W0 c' (st (wipeS ρ vs) t) ct (C t)) : PTs Z [ct] (tCt Z ρ st vs Tt C) := pts_one (pt_ex fun q => h q.1.1 q.1.2 q.2)
theorem tk_nil {Tt : List (Addr × Str)} : PTs Z [] (tKt Z ρ st st2 vs vs1 Tt fun _ _ => .ok true) := ⟨fun pins s σ H Q I q => pts_nil.run pins s σ H Q I (by
  obtain ⟨p, q⟩ := q
  exact q.now)⟩
theorem tk_one {ct : Expr} {Tt : List (Addr × Str)} (h : ∀ (c' : Fr) (hT : c'.T = Tt) (t : T) (s : S), JT Z W0 c' (st2 (wipeS (st (wipeS ρ vs) t) vs1) s) ct (C2 t s)) : PTs Z [ct] (tKt Z ρ st st2 vs vs1 Tt C2) := pts_one (pt_ex fun q => h q.1.1 q.1.2 q.2.1 q.2.2)
theorem e_l2 {elt tg iter tg1 iter1 : Expr} {ifs ifs1 : List Expr} {scope : Scope} {own : List (Str × Nat)} {pos : Pos} {Tt : List (Addr × Str)} (hT : c.T = Tt) (hc : X.calm = true) (hN : X.N.Nodup) (hi : JI X W c ρ tg iter mi) (ok : BlkOk X.N X.env.scope scope own)
    (GA : ∀ (s : Shared) (H : Hp) (Ca : Addr) (cl : List (Str × Addr)) (fp : List Addr), Tg (X.blk s H scope (compEnvC scope cl Ca X.env) fp) tg U st va) (ga : ∀ s H Ca cl fp, (GA s H Ca cl fp).g = (GA X.s_0 X.H_0 0 [] []).g) (hva : ∀ i ∈ va, i ∈ own.map (·.2))
    (GB : ∀ (s : Shared) (H : Hp) (Ca : Addr) (cl : List (Str × Addr)) (fp : List Addr), Tg (X.blk s H scope (compEnvC scope cl Ca X.env) fp) tg1 V' st2 vs1) (gb : ∀ s H Ca cl fp, (GB s H Ca cl fp).g = (GB X.s_0 X.H_0 0 [] []).g) (hv : ∀ i ∈ vs1, i ∈ own.map (·.2))
    (hl : (own.map (·.2)).all (fun i => decide (i < ρ.length)) = true) (no : noOw ρ (own.map (·.2)) = true) (hl1 : ∀ t, vs1.all (fun i => decide (i < (st (wipeS ρ (own.map (·.2))) t).length)) = true) (no1 : ∀ t, noOw (st (wipeS ρ (own.map (·.2))) t) vs1 = true)
    (ht : ∀ (s : Shared) (H : Hp) (Ca : Addr) (cl : List (Str × Addr)) (fp : List Addr), PTs (X.blk s H scope (compEnvC scope cl Ca X.env) fp) ifs (tCt (X.blk s H scope (compEnvC scope cl Ca X.env) fp) ρ st (own.map (·.2)) Tt C))
    (hi1 : ∀ (s : Shared) (H : Hp) (Ca : Addr) (cl : List (Str × Addr)) (fp : List Addr) (c' : Fr) (hT' : c'.T = Tt) (t : T), JI (X.blk s H scope (compEnvC scope cl Ca X.env) fp) W0 c' (st (wipeS ρ (own.map (·.2))) t) tg1 iter1 (m2 t))
    (ht1 : ∀ (s : Shared) (H : Hp) (Ca : Addr) (cl : List (Str × Addr)) (fp : List Addr), PTs (X.blk s H scope (compEnvC scope cl Ca X.env) fp) ifs1 (tKt (X.blk s H scope (compEnvC scope cl Ca X.env) fp) ρ st st2 (own.map (·.2)) vs1 Tt C2))
    (he : ∀ (s : Shared) (H : Hp) (Ca : Addr) (cl : List (Str × Addr)) (fp : List Addr) (c' : Fr) (hT' : c'.T = Tt) (t : T) (u : S), JE (X.blk s H scope (compEnvC scope cl Ca X.env) fp) W0 c' (st2 (wipeS (st (wipeS ρ (own.map (·.2))) t) vs1) u) .sh elt (F t u)) (hs : ∀ x, foldedSetIterable iter X.env x = pure x := by exact fun _ => rfl) (hs1 : ∀ env x, foldedSetIterable iter1 env x = pure x := by exact fun _ _ => rfl) :
    JE X W c ρ .ra (.ListComp elt [⟨tg, iter, ifs, 0⟩, ⟨tg1, iter1, ifs1, 0⟩] scope pos) (l2R mi U C m2 V' C2 F) :=
  PE.imp (pe_lc2 (g := (GA X.s_0 X.H_0 0 [] []).g) (g1 := (GB X.s_0 X.H_0 0 [] []).g) (tt := tCt X ρ st (own.map (·.2)) Tt C) (wi1 := tKi X ρ st (own.map (·.2)) Tt m2) (tt1 := tKt X ρ st st2 (own.map (·.2)) vs1 Tt C2) (te := tKe X ρ st st2 (own.map (·.2)) vs1 Tt F) hc hN hi ok hv (fun s H Ca cl fp => ga s H Ca cl fp ▸ (GA s H Ca cl fp).pg) ht (fun s H Ca cl fp => pi_ex fun q => hi1 s H Ca cl fp q.1.1 q.1.2 q.2)
    (fun s H Ca cl fp => gb s H Ca cl fp ▸ (GB s H Ca cl fp).pg) ht1 (fun s H Ca cl fp => pe_ex fun q => he s H Ca cl fp q.1.1 q.1.2 q.2.1 q.2.2) hs hs1)
    fun σ H Q q => l2_read (Run.wider (GA X.s_0 X.H_0 0 [] []).run hva) (GB X.s_0 X.H_0 0 [] []).run hT hl no hl1 no1 q
theorem s_setL2 {β : Type} {K : Ends → β → Prop} {f : D → Ev.R β} {rest : List Stmt} {i : Nat} {y : Str} {py spos : Pos} {elt tg iter tg1 iter1 : Expr} {ifs ifs1 : List Expr} {scope : Scope} {own : List (Str × Nat)} {pos : Pos} {Tt : List (Addr × Str)} (hT : c.T = Tt) (hc : X.calm = true) (hN : X.N.Nodup) (hi : JI X W c ρ tg iter mi) (ok : BlkOk X.N X.env.scope scope own)
    (GA : ∀ (s : Shared) (H : Hp) (Ca : Addr) (cl : List (Str × Addr)) (fp : List Addr), Tg (X.blk s H scope (compEnvC scope cl Ca X.env) fp) tg U st va) (ga : ∀ s H Ca cl fp, (GA s H Ca cl fp).g = (GA X.s_0 X.H_0 0 [] []).g) (hva : ∀ i ∈ va, i ∈ own.map (·.2))
    (GB : ∀ (s : Shared) (H : Hp) (Ca : Addr) (cl : List (Str × Addr)) (fp : List Addr), Tg (X.blk s H scope (compEnvC scope cl Ca X.env) fp) tg1 V' st2 vs1) (gb : ∀ s H Ca cl fp, (GB s H Ca cl fp).g = (GB X.s_0 X.H_0 0 [] []).g) (hv : ∀ i ∈ vs1, i ∈ own.map (·.2))
    (hl : (own.map (·.2)).all (fun i => decide (i < ρ.length)) = true) (no : noOw ρ (own.map (·.2)) = true) (hl1 : ∀ t, vs1.all (fun i => decide (i < (st (wipeS ρ (own.map (·.2))) t).length)) = true) (no1 : ∀ t, noOw (st (wipeS ρ (own.map (·.2))) t) vs1 = true)
    (ht : ∀ (s : Shared) (H : Hp) (Ca : Addr) (cl : List (Str × Addr)) (fp : List Addr), PTs (X.blk s H scope (compEnvC scope cl Ca X.env) fp) ifs (tCt (X.blk s H scope (compEnvC scope cl Ca X.env) fp) ρ st (own.map (·.2)) Tt C))
    (hi1 : ∀ (s : Shared) (H : Hp) (Ca : Addr) (cl : List (Str × Addr)) (fp : List Addr) (c' : Fr) (hT' : c'.T = Tt) (t : T), JI (X.blk s H scope (compEnvC scope cl Ca X.env) fp) W0 c' (st (wipeS ρ (own.map (·.2))) t) tg1 iter1 (m2 t))
    (ht1 : ∀ (s : Shared) (H : Hp) (Ca : Addr) (cl : List (Str × Addr)) (fp : List Addr), PTs (X.blk s H scope (compEnvC scope cl Ca X.env) fp) ifs1 (tKt (X.blk s H scope (compEnvC scope cl Ca X.env) fp) ρ st st2 (own.map (·.2)) vs1 Tt C2))
    (he : ∀ (s : Shared) (H : Hp) (Ca : Addr) (cl : List (Str × Addr)) (fp : List Addr) (c' : Fr) (hT' : c'.T = Tt) (t : T) (u : S), JE (X.blk s H scope (compEnvC scope cl Ca X.env) fp) W0 c' (st2 (wipeS (st (wipeS ρ (own.map (·.2))) t) vs1) u) .sh elt (F t u))
    (hil : i < ρ.length) (hy : X.N[i]? = some y) (hyl : X.env.scope.names.lookup y = some .local) (hsw : swapsWith (.ListComp elt [⟨tg, iter, ifs, 0⟩, ⟨tg1, iter1, ifs1, 0⟩] scope pos) (some (.Name y py)) spos.line X.env = pure true)
    (hr : ∀ d, JX X W c (ρ.set i (.sh d)) rest (f d) K) (hs : ∀ x, foldedSetIterable iter X.env x = pure x := by exact fun _ => rfl) (hs1 : ∀ env x, foldedSetIterable iter1 env x = pure x := by exact fun _ _ => rfl) :
    JX X W c ρ (.Assign [.Name y py] (.ListComp elt [⟨tg, iter, ifs, 0⟩, ⟨tg1, iter1, ifs1, 0⟩] scope pos) spos :: rest) ((l2R mi U C m2 V' C2 F).bind f) K := by
  have hps := ps_setLc2 (g := (GA X.s_0 X.H_0 0 [] []).g) (g1 := (GB X.s_0 X.H_0 0 [] []).g) (tt := tCt X ρ st (own.map (·.2)) Tt C) (wi1 := tKi X ρ st (own.map (·.2)) Tt m2) (tt1 := tKt X ρ st st2 (own.map (·.2)) vs1 Tt C2) (te := tKe X ρ st st2 (own.map (·.2)) vs1 Tt F) hc hN hy hyl hsw hi ok hv (fun s H Ca cl fp => ga s H Ca cl fp ▸ (GA s H Ca cl fp).pg) ht (fun s H Ca cl fp => pi_ex fun q => hi1 s H Ca cl fp q.1.1 q.1.2 q.2)
    (fun s H Ca cl fp => gb s H Ca cl fp ▸ (GB s H Ca cl fp).pg) ht1 (fun s H Ca cl fp => pe_ex fun q => he s H Ca cl fp q.1.1 q.1.2 q.2.1 q.2.2) hs hs1
  exact s_store hps (fun σ H Q q => l2_read (Run.wider (GA X.s_0 X.H_0 0 [] []).run hva) (GB X.s_0 X.H_0 0 [] []).run hT hl no hl1 no1 (Wd.mono q fun d H' g k v r => k v (RepX.sh r q.1.thr))) hil hr
theorem s_setL2O {β : Type} {K : Ends → β → Prop} {f : List D → Ev.R β} {rest : List Stmt} {i : Nat} {y : Str} {py spos : Pos} {elt tg iter tg1 iter1 : Expr} {ifs ifs1 : List Expr} {scope : Scope} {own : List (Str × Nat)} {pos : Pos} {Tt : List (Addr × Str)} (hT : c.T = Tt) (hc : X.calm = true) (hN : X.N.Nodup) (hi : JI X W c ρ tg iter mi) (ok : BlkOk X.N X.env.scope scope own)
    (GA : ∀ (s : Shared) (H : Hp) (Ca : Addr) (cl : List (Str × Addr)) (fp : List Addr), Tg (X.blk s H scope (compEnvC scope cl Ca X.env) fp) tg U st va) (ga : ∀ s H Ca cl fp, (GA s H Ca cl fp).g = (GA X.s_0 X.H_0 0 [] []).g) (hva : ∀ i ∈ va, i ∈ own.map (·.2))
    (GB : ∀ (s : Shared) (H : Hp) (Ca : Addr) (cl : List (Str × Addr)) (fp : List Addr), Tg (X.blk s H scope (compEnvC scope cl Ca X.env) fp) tg1 V' st2 vs1) (gb : ∀ s H Ca cl fp, (GB s H Ca cl fp).g = (GB X.s_0 X.H_0 0 [] []).g) (hv : ∀ i ∈ vs1, i ∈ own.map (·.2))
    (hl : (own.map (·.2)).all (fun i => decide (i < ρ.length)) = true) (no : noOw ρ (own.map (·.2)) = true) (hl1 : ∀ t, vs1.all (fun i => decide (i < (st (wipeS ρ (own.map (·.2))) t).length)) = true) (no1 : ∀ t, noOw (st (wipeS ρ (own.map (·.2))) t) vs1 = true)
    (ht : ∀ (s : Shared) (H : Hp) (Ca : Addr) (cl : List (Str × Addr)) (fp : List Addr), PTs (X.blk s H scope (compEnvC scope cl Ca X.env) fp) ifs (tCt (X.blk s H scope (compEnvC scope cl Ca X.env) fp) ρ st (own.map (·.2)) Tt C))
    (hi1 : ∀ (s : Shared) (H : Hp) (Ca : Addr) (cl : List (Str × Addr)) (fp : List Addr) (c' : Fr) (hT' : c'.T = Tt) (t : T), JI (X.blk s H scope (compEnvC scope cl Ca X.env) fp) W0 c' (st (wipeS ρ (own.map (·.2))) t) tg1 iter1 (m2 t))
    (ht1 : ∀ (s : Shared) (H : Hp) (Ca : Addr) (cl : List (Str × Addr)) (fp : List Addr), PTs (X.blk s H scope (compEnvC scope cl Ca X.env) fp) ifs1 (tKt (X.blk s H scope (compEnvC scope cl Ca X.env) fp) ρ st st2 (own.map (·.2)) vs1 Tt C2))
    (he : ∀ (s : Shared) (H : Hp) (Ca : Addr) (cl : List (Str × Addr)) (fp : List Addr) (c' : Fr) (hT' : c'.T = Tt) (t : T) (u : S), JE (X.blk s H scope (compEnvC scope cl Ca X.env) fp) W0 c' (st2 (wipeS (st (wipeS ρ (own.map (·.2))) t) vs1) u) .sh elt (F t u))
    (hil : i < ρ.length) (hy : X.N[i]? = some y) (hyl : X.env.scope.names.lookup y = some .local) (hsw : swapsWith (.ListComp elt [⟨tg, iter, ifs, 0⟩, ⟨tg1, iter1, ifs1, 0⟩] scope pos) (some (.Name y py)) spos.line X.env = pure true)
    (hr : ∀ d, JX X W c (ρ.set i (.ow (.lst d))) rest (f d) K) (hs : ∀ x, foldedSetIterable iter X.env x = pure x := by exact fun _ => rfl) (hs1 : ∀ env x, foldedSetIterable iter1 env x = pure x := by exact fun _ _ => rfl) :
    JX X W c ρ (.Assign [.Name y py] (.ListComp elt [⟨tg, iter, ifs, 0⟩, ⟨tg1, iter1, ifs1, 0⟩] scope pos) spos :: rest) ((l2R mi U C m2 V' C2 F).bind fun d => (ownL d).bind f) K := by
  have hps := ps_setLc2 (g := (GA X.s_0 X.H_0 0 [] []).g) (g1 := (GB X.s_0 X.H_0 0 [] []).g) (tt := tCt X ρ st (own.map (·.2)) Tt C) (wi1 := tKi X ρ st (own.map (·.2)) Tt m2) (tt1 := tKt X ρ st st2 (own.map (·.2)) vs1 Tt C2) (te := tKe X ρ st st2 (own.map (·.2)) vs1 Tt F) hc hN hy hyl hsw hi ok hv (fun s H Ca cl fp => ga s H Ca cl fp ▸ (GA s H Ca cl fp).pg) ht (fun s H Ca cl fp => pi_ex fun q => hi1 s H Ca cl fp q.1.1 q.1.2 q.2)
    (fun s H Ca cl fp => gb s H Ca cl fp ▸ (GB s H Ca cl fp).pg) ht1 (fun s H Ca cl fp => pe_ex fun q => he s H Ca cl fp q.1.1 q.1.2 q.2.1 q.2.2) hs hs1
  exact s_storeO hps (fun σ H Q q => l2_read (Run.wider (GA X.s_0 X.H_0 0 [] []).run hva) (GB X.s_0 X.H_0 0 [] []).run hT hl no hl1 no1 q) hil hr
end
end Ev


set_option Elab.async false
set_option linter.all false
set_option maxRecDepth 100000
/-! Ev, part G: defs and their calls, raise. -/
namespace Ev
open PySem PySem.Spec PyProof.Rows L2

/-- room, and no guard around -/
structure Rm (g : Bool) (k : Nat) (A : Around) : Prop where
  r : Room k A
  g : g = true → A.guards = some []
theorem Rm.mono {g : Bool} {j k : Nat} {A : Around} (r : Rm g k A) (h : j ≤ k) : Rm g j A := ⟨r.r.mono h, r.g⟩
theorem Rm.deeper {g : Bool} {k : Nat} {A : Around} (r : Rm g (k + 1) A) (env : Env) : Rm g k (A.deeper env) := ⟨r.r.deeper env, fun z => by
  have := r.g z
  first | exact this | (simpa [Around.deeper, Around.under] using this)⟩
/-- for a callee: less room, fewer wishes -/
theorem Rm.on {g g' : Bool} {j k : Nat} {A : Around} (r : Rm g k A) (h : Nat.ble j k = true := by rfl) (hg : (!g' || g) = true := by rfl) : Rm g' j A := ⟨r.r.mono (Nat.le_of_ble_eq_true h), fun z => r.g (by subst z; simpa using hg)⟩
/-- a def's promise, where no guard is around -/
structure Fd (P : Program) (w : World) (K : PySem.W.Frag) (mg : Str → Option Value) (base : Heap) (g : Bool) (k : Nat) (f : Addr) (fd : FuncData) (ps : List Str) (sp : Sp) : Prop where
  len : ∀ vs H Q E, sp vs H Q E → vs.length = ps.length
  run : ∀ (A : Around) (outer : List Env) (s : Shared) (H : Hp) (ar : Args) (us : List Value) (vs : List V) (Q : VK) (E : XK), Rm g k A → Env0 P w K mg base A outer s H → BindsTo s fd ar (ps.zip us) → Vals vs us →
    sp vs H Q E → codeAny (model P w) A (.call (.ref f) ar) (CR (L2.CX P w) outer P w H s Q E) s
abbrev bx (P : Program) (w : World) (K : PySem.W.Frag) (mg : Str → Option Value) (base : Heap) (N : List Str) (qual : Str) (scope : Scope) (f : Addr) (cdv : Value) (A : Around) (outer : List Env) (s : Shared) (H : Hp) (E : XK) : Cx := cxOf (L2.CX P w) P w K mg base N qual scope f cdv A outer s H E
theorem fd_of {P : Program} {w : World} {K : PySem.W.Frag} {mg : Str → Option Value} {base : Heap} {g : Bool} {k : Nat} {f : Addr} {x qual : Str} {pa : Arguments} {body : List Stmt} {scope : Scope} {fd : FuncData} {N ps : List Str} {sp : Sp} (Fn : FunD K x qual pa body scope [] [] f fd) (S : FnScope N ps scope)
    (len : ∀ vs H Q E, sp vs H Q E → vs.length = ps.length)
    (hb : ∀ (cdv : Value) (A : Around) (outer : List Env) (s : Shared) (H : Hp) (vs : List V) (Q : VK) (E : XK), fd.code = cdv → Rm g k (A.deeper (envOfC qual scope s.heap.objs.size f cdv)) → sp vs H Q E →
      ∃ t, PSs (bx P w K mg base N qual scope f cdv A outer s H E) body t ∧ t { nx := fun _ H' => Q .non H', rt := Q } (start N vs) H) : Fd P w K mg base g (k + 1) f fd ps sp := by
  refine ⟨len, fun A outer s H ar us vs Q E hr e0 hbd rv hsp => ?_⟩
  obtain ⟨oc, od, dV, kV, doc, pm, an, cdv, ct, osl, rfl, lk, hcd, _⟩ := Fn.ex
  have hlen := len _ _ _ _ hsp
  have stays : ∀ b o, base.get? b = some o → s.heap.get? b = some o := fun b o e => (e0.bs b o e).1
  have KX : K.In s.heap := e0.mod.kin.keeps stays
  have hk2 : ∀ y ∈ ps.zip us, scope.names.lookup y.1 = some .local ∨ (scope.names.lookup y.1 = some .cell ∧ ((cellsFrom (s.heap.objs.size + 1) scope.names []).lookup y.1).isSome = true) := by
    rintro ⟨y, u⟩ hy
    rcases S.par y (List.of_mem_zip hy).1 with z | z
    · exact .inl z
    · exact .inr ⟨z, PySem.W.cellsFrom_some _ _ _ (.inl z)⟩
  refine codeAny_call_function hr.r.depth (KX _ _ lk) rfl S.co S.gen rfl (PySem.W.codeRec_of KX hcd) (hbd _ _ _ _ (wpAny_newFunctionEnv_cells S.kind hk2 fun env henv s1 xc => ?_))
  subst henv
  refine ⟨(e0.mod.nolimit.keeps stays).keeps xc.toInCall.keep, codeAny_func ?_⟩
  obtain ⟨t, ht, hq⟩ := hb cdv A outer s H vs Q E rfl (hr.deeper _) hsp
  have I := inv_start (CX := L2.CX P w) (P := P) (w := w) (K := K) (mg := mg) (base := base) (N := N) (E := E) S hr.r.hd e0 hlen rv xc
  refine wpAny_mono (ht.run [] s1 (start N vs) H _ I hq) (fun fl s' z => ?_) fun _ _ z => z
  cases fl with
  | ret u => exact let ⟨v, _, H', J, r, q⟩ := z; ⟨v, H', J.os, J.bare, J.base, J.hok, r, q⟩
  | next => exact let ⟨_, H', J, q⟩ := z; ⟨V.non, H', J.os, J.bare, J.base, J.hok, rfl, q⟩
  | brk => exact let ⟨_, _, _, q⟩ := z; q.elim
  | cont => exact let ⟨_, _, _, q⟩ := z; q.elim

/-! ### the promise of a def that computes F -/
def spM (K : PySem.W.Frag) (mg : Str → Option Value) (T : List (Addr × Str)) (h : Bool) (n : Nat) (fl : Fl) (F : List D → R D) : Sp := fun vs H Q E => ∃ (hd O : Ad) (ds : List D) (ws : List V), ds.length = n ∧ (if h = true then ∃ a, vs = .ref a :: ws ∧ hd a else vs = ws) ∧ (∀ a, O a → Thr H a) ∧ (∀ a, hd a → O a) ∧
  (∀ a, hd a → ∃ p, HandP H a p ∧ ¬ O p) ∧ LamX.Tabs T H ∧ RepL ⟨K, mg⟩ H O ds ws ∧
  (F ds).sat (fun d => ∀ v H', Pg T hd H H' → RepX ⟨K, mg⟩ hd H H' O fl d v → Q v H') fun cl fs => ∀ x dd H', Pg T hd H H' → ExcV ⟨K, mg⟩ H' cl fs x dd → E x dd H'
theorem spM_len {K : PySem.W.Frag} {mg : Str → Option Value} {T : List (Addr × Str)} {h : Bool} {n : Nat} {fl : Fl} {F : List D → R D} {vs : List V} {H : Hp} {Q : VK} {E : XK} (q : spM K mg T h n fl F vs H Q E) : vs.length = if h = true then n + 1 else n := by
  obtain ⟨hd, O, ds, ws, hn, hv, _, _, _, _, r, _⟩ := q
  have := r.length
  cases h with
  | true =>
    obtain ⟨a, rfl, _⟩ := hv
    rw [List.length_cons, this, hn]; rfl
  | false =>
    cases (show vs = ws from hv)
    rw [this, hn]; rfl
/-- what of a def the callers know -/
structure FnM (P : Program) (w : World) (K : PySem.W.Frag) (mg : Str → Option Value) (base : Heap) (T : List (Addr × Str)) (g : Bool) (k : Nat) (x : Str) (h : Bool) (n : Nat) (fl : Fl) (F : List D → R D) : Prop where
  ex : ∃ f fd ps, Fd P w K mg base g k f fd ps (spM K mg T h n fl F) ∧ mg x = some (.ref f) ∧ PySem.W.keepIn K (.ref f) = true ∧ Binds K fd ps []
abbrev WF (E : XK) : WX := fun x dd _ H => E x dd H
/-- the slots at the entry -/
def startS (h : Bool) (m : Nat) (ds : List D) : List Sl := (if h = true then [Sl.hd] else []) ++ ds.map Sl.sh ++ List.replicate (m - ((if h = true then 1 else 0) + ds.length)) Sl.no
/-- a body that computes m -/
def BodyOk (X : Cx) (E : XK) (c : Fr) (ρ : List Sl) (body : List Stmt) (fl : Fl) (m : R D) : Prop := ∃ t, PSs X body t ∧ ∀ (Q : VK) σ H, WI X.bs c ρ σ H → m.sat (fun d => ExitD X c fl d Q) (ExcS X (WF E) c) → t { nx := fun _ H' => Q .non H', rt := Q } σ H
section
variable {X : Cx} {E : XK} {c : Fr} {ρ : List Sl} {body : List Stmt} {fl : Fl} {S : Type} {k : S → List Sl}
theorem body_D {m : R D} (h : JX X (WF E) c ρ body m (KD X c fl)) : BodyOk X E c ρ body fl m := ⟨_, h, fun Q σ H w s => ⟨w, s⟩⟩
theorem exit_non {H' : Hp} {σ' : L2.St} {ρ' : List Sl} {Q : VK} (w : WI X.bs c ρ' σ' H') (h : ExitD X c fl .non Q) : Q .non H' := h _ _ w.ext (by cases fl <;> first | exact rfl | exact .inl rfl)
theorem body_S {m : R S} (h : JX X (WF E) c ρ body m (KS X c k)) : BodyOk X E c ρ body fl (m.map fun _ => .non) := ⟨_, h, fun Q σ H w s => ⟨w, R.sat_mono (R.sat_map.mp s) (fun _ z σ' H' w' => exit_non w' z) fun _ _ z => z⟩⟩
theorem body_C {m : R (Ct S)} (h : JX X (WF E) c ρ body m (KC X c fl k)) : BodyOk X E c ρ body fl (thenC m .ok fun _ => .ok .non) := ⟨_, h, fun Q σ H w s => ⟨w, R.sat_mono (thenC_sat.mp s) (fun a z => by
  cases a with
  | go s => exact fun σ' H' w' => exit_non w' z
  | ret d => exact z) fun _ _ z => z⟩⟩
end
/-- a def by its body -/
theorem fnM_of {P : Program} {w : World} {K : PySem.W.Frag} {mg : Str → Option Value} {base : Heap} {g : Bool} {k : Nat} {f : Addr} {x qual : Str} {pa : Arguments} {body : List Stmt} {scope : Scope} {fd : FuncData} {N ps : List Str} {h : Bool} {n : Nat} {fl : Fl} {F : List D → R D} {T : List (Addr × Str)}
    (Fn : FunD K x qual pa body scope [] [] f fd) (S : FnScope N ps scope) (hps : ps.length = if h = true then n + 1 else n) (hm : mg x = some (.ref f)) (hB : Binds K fd ps [])
    (hb : ∀ (cdv : Value) (A : Around) (outer : List Env) (s : Shared) (H : Hp) (E : XK) (c : Fr) (ds : List D), fd.code = cdv → c.T = T → ds.length = n → Rm g k (A.deeper (envOfC qual scope s.heap.objs.size f cdv)) → Takes (bx P w K mg base N qual scope f cdv A outer s H E) (WF E) →
      PassesOwn (model P w) (bx P w K mg base N qual scope f cdv A outer s H E).A (bx P w K mg base N qual scope f cdv A outer s H E).env (bx P w K mg base N qual scope f cdv A outer s H E).xe → BodyOk (bx P w K mg base N qual scope f cdv A outer s H E) E c (startS h N.length ds) body fl (F ds)) :
    FnM P w K mg base T g (k + 1) x h n fl F := by
  refine ⟨f, fd, ps, fd_of Fn S (fun vs H Q E q => by rw [spM_len q, hps]) fun cdv A outer s H vs Q E hcd hr q => ?_, hm, Fn.kp, hB⟩
  have hvl := spM_len q
  obtain ⟨hd, O, ds, ws, hn, hv, hO, hdO, hds, htb, r, sat⟩ := q
  have hN : ps.length ≤ N.length := by
    have := congrArg List.length S.pre
    rw [List.length_take] at this
    omega
  let X := bx P w K mg base N qual scope f cdv A outer s H E
  obtain ⟨t, ht, hq⟩ := hb cdv A outer s H E ⟨O, hd, H, T, fun _ _ => False⟩ ds hcd rfl hn hr (takes_of rfl rfl rfl rfl) (passes_of rfl)
  refine ⟨t, ht, hq Q _ H ?_ (R.sat_mono sat (fun _ z => z) fun cl fs z x dd σ' H' g ev => z x dd H' g ev)⟩
  have hlen := r.length
  have nohand : ∀ a, ¬ inHand (startS h N.length ds) (start N vs) a := by
    rintro a ⟨i, d, e1, _⟩
    unfold startS at e1
    have := List.mem_of_getElem? e1
    simp only [List.mem_append, List.mem_map, List.mem_replicate] at this
    rcases this with (z | ⟨_, _, z⟩) | ⟨_, z⟩
    · cases h <;> simp at z
    · cases z
    · cases z
  have hOA : ∀ a, OA ⟨O, hd, H, T, fun _ _ => False⟩ (startS h N.length ds) (start N vs) a → O a := fun a z => z.elim id fun z => (nohand a z).elim
  have sl : ∀ {i : Nat} {s : Sl}, (startS h N.length ds)[i]? = some s → s = Sl.no ∨ (h = true ∧ i = 0 ∧ s = Sl.hd) ∨ ∃ d v, s = Sl.sh d ∧ (start N vs)[i]? = some (some v) ∧ Rep ⟨K, mg⟩ H O d v := fun {i s} e => by
    have cells : ∀ {j : Nat} {s : Sl}, (ds.map Sl.sh ++ List.replicate (N.length - ((if h = true then 1 else 0) + ds.length)) Sl.no)[j]? = some s → s = Sl.no ∨ ∃ d v, s = Sl.sh d ∧ ws[j]? = some v ∧ Rep ⟨K, mg⟩ H O d v := fun {j s} e => by
      by_cases hj : j < ds.length
      · rw [List.getElem?_append_left (by simpa using hj), List.getElem?_map, List.getElem?_eq_getElem hj] at e
        obtain ⟨v, e2, rr⟩ := r.get (List.getElem?_eq_getElem hj)
        exact .inr ⟨_, v, (Option.some.inj e).symm, e2, rr⟩
      · rw [List.getElem?_append_right (by simpa using hj)] at e
        exact .inl (List.eq_of_mem_replicate (List.mem_of_getElem? e))
    have put : ∀ {j : Nat} {v : V}, vs[j]? = some v → (start N vs)[j]? = some (some v) := fun {j v} e => by
      obtain ⟨hj, _⟩ := List.getElem?_eq_some_iff.mp e
      unfold L2.start
      rw [List.getElem?_append_left (by simpa using hj), List.getElem?_map, e]; rfl
    cases h with
    | false =>
      cases (show vs = ws from hv)
      rcases cells (j := i) (s := s) (by simpa [startS] using e) with z | ⟨d, v, z, z2, z3⟩
      · exact .inl z
      · exact .inr (.inr ⟨d, v, z, put z2, z3⟩)
    | true =>
      obtain ⟨a, rfl, _⟩ := hv
      cases i with
      | zero =>
        have : s = Sl.hd := by simpa [startS] using e.symm
        exact .inr (.inl ⟨rfl, rfl, this⟩)
      | succ i =>
        rcases cells (j := i) (s := s) (by simpa [startS] using e) with z | ⟨d, v, z, z2, z3⟩
        · exact .inl z
        · exact .inr (.inr ⟨d, v, z, put (by simpa using z2), z3⟩)
  refine ⟨?_, fun i d e => ?_, fun i d e => ?_, fun i e => ?_, fun i u e => ?_, fun i j d e a e1 _ _ _ => ?_, hO, hdO, fun a z => ?_, Pg.refl _ _ _, fun a z => let ⟨p, q, _⟩ := hds a z; ⟨p, q⟩, htb, fun _ _ z => z.elim, fun _ _ z => z.elim, fun _ _ z => z.elim, fun _ _ z => z.elim⟩
  · unfold startS L2.start
    cases h <;> simp at hps hvl ⊢ <;> omega
  · rcases sl e with z | ⟨_, _, z⟩ | ⟨d', v, z, e2, rr⟩
    · cases z
    · cases z
    · cases z
      exact ⟨v, e2, rr.less hOA⟩
  · rcases sl e with z | ⟨_, _, z⟩ | ⟨d', v, z, e2, rr⟩
    · cases z
    · cases z
    · cases z
  · rcases sl e with z | ⟨z, z2, _⟩ | ⟨d', v, z, e2, rr⟩
    · cases z
    · subst z z2
      obtain ⟨a, rfl, ha⟩ := hv
      exact ⟨a, rfl, ha⟩
    · cases z
  · rcases sl e with z | ⟨_, _, z⟩ | ⟨d', v, z, e2, rr⟩
    · cases z
    · cases z
    · cases z
  · rcases sl e1 with z | ⟨_, _, z⟩ | ⟨d', v, z, e2, rr⟩
    · cases z
    · cases z
    · cases z
  · obtain ⟨p, q, n⟩ := hds a z
    exact ⟨p, q, fun y => n (hOA p y)⟩

/-! ### calls -/
theorem run_fd {X : Cx} {g : Bool} {k : Nat} {f : Addr} {fd : FuncData} {ps : List Str} {sp : Sp} {E : L2.St → XK} {pins : List (Addr × Obj)} {σ : L2.St} {H : Hp} {s : Shared} {Q : VK} {us : List Value} {vs : List V} (F : Fd X.prog X.w X.K X.mg X.base g k f fd ps sp) (hr : Rm g k X.A) (hb : Binds X.K fd ps []) (hx : PassesAt (L2.CX X.prog X.w) X σ (E σ))
    (I : Inv X pins σ H s) (r : Vals vs us) (h : sp vs H Q (E σ)) : wpAny (model X.prog X.w) X.A (call (.ref f) us) (EP X pins σ Q) X.xe s := by
  have hl : us.length = ps.length := r.length.symm.trans (F.len _ _ _ _ h)
  have b := hb s us I.kIn (by simpa using hl)
  simp only [List.append_nil] at b
  refine wpAny_call (codeAny_mono (F.run X.A X.stack s H ⟨us, []⟩ us vs Q (E σ) hr I.env0 b r h) fun res s' z => ?_)
  match res, z with
  | .error e, z => exact hx pins H s e s' I z
  | .ok (.ret u), z => exact I.after z
  | .ok .next, z => exact z.elim
  | .ok .brk, z => exact z.elim
  | .ok .cont, z => exact z.elim
section
variable {X : Cx} {W : WX} {c : Fr} {ρ : List Sl} {e : Expr} {es : List Expr} {ms : List (R D)} {pos p : Pos} {g : Bool} {k n : Nat} {x : Str} {fl : Fl} {F : List D → R D}
theorem pe_callF {f : Addr} {fd : FuncData} {ps : List Str} {sp : Sp} {t : TA} (Fn : Fd X.prog X.w X.K X.mg X.base g k f fd ps sp) (hr : Rm g k X.A) (hg : Gl X x) (hm : X.mg x = some (.ref f)) (hk : PySem.W.keepIn X.K (.ref f) = true) (hb : Binds X.K fd ps []) (tk : Takes X W)
    (ha : PA X (e :: es) t) (hdb : (x == ("__debug__" : Str)) = false) (he : starEach (e :: es) X.env = (false, eval e X.env) :: starEach es X.env) (hpl : (backTo pos (starEach es X.env)).any (·.1) = false) :
    PE X (.Call (.Name x p) (e :: es) [] pos) fun σ H Q => t σ H fun vs H1 => sp vs H1 Q (WE W σ) :=
  ⟨fun pins s σ H Q I h => wpAny_Call_Name_kw (ld_glob I hg hm (PySem.W.callWith_K (h₀ := X.base) I.ok.mod.kin hk (thn (ha.run pos pins s σ H _ I h) fun us s1 ⟨vs, H1, I1, r, q⟩ => ⟨I1.kIn, run_fd (E := WE W) Fn hr hb (passAt tk σ) I1 r q⟩) he hpl) hdb)⟩
theorem pe_callF0 {f : Addr} {fd : FuncData} {ps : List Str} {sp : Sp} (Fn : Fd X.prog X.w X.K X.mg X.base g k f fd ps sp) (hr : Rm g k X.A) (hg : Gl X x) (hm : X.mg x = some (.ref f)) (hk : PySem.W.keepIn X.K (.ref f) = true) (hb : Binds X.K fd ps []) (tk : Takes X W) (hdb : (x == ("__debug__" : Str)) = false) :
    PE X (.Call (.Name x p) [] [] pos) fun σ H Q => sp [] H Q (WE W σ) :=
  ⟨fun pins s σ H Q I h => wpAny_Call_Name_kw (ld_glob I hg hm (PySem.W.callWith_K0 I.kIn hk (run_fd (E := WE W) (us := []) Fn hr hb (passAt tk σ) I .nil h)) hdb)⟩
/-- the reading of the arguments gives what the promise wants -/
theorem call_read {σ : L2.St} {H : Hp} {Q : VK} {h : Bool} (hf : fl ≠ .bo) (q : tE X W c ρ fl ((args ms).bind F) σ H Q) (hn : ms.length = n) :
    Wd X W c ρ σ (args ms) H fun ds H1 => ∀ vs ws, RepL X.bs H1 (OA c ρ σ) ds ws → (if h = true then ∃ a, vs = .ref a :: ws ∧ c.hd a else vs = ws) → spM X.K X.mg c.T h n fl F vs H1 Q (WE W σ) := by
  have q1 := Wd.bind q
  refine ⟨q1.1, R.sat_mono (args_sat q1.2) (fun ds z H1 g vs ws r hv => ?_) fun _ _ z => z⟩
  obtain ⟨hl, z⟩ := z
  have q2 := z H1 g
  refine ⟨c.hd, OA c ρ σ, ds, ws, by rw [hl, hn], hv, q2.1.thr, q2.1.hdO, q2.1.hds, q2.1.tbs, r, R.sat_mono q2.2 (fun d y v H' g' rv => y H' g' v ?_) fun cl fs y x dd H' g' ev => y x dd H' g' ev⟩
  cases fl with
  | bo => exact absurd rfl hf
  | sh => exact rv
  | ra => exact RepX.back (fun _ => q.1.none g) rv
theorem e_call {Tt : List (Addr × Str)} (hT : c.T = Tt) (M : FnM X.prog X.w X.K X.mg X.base Tt g k x false n fl F) (hr : Rm g k X.A) (tk : Takes X W) (ha : JAs X W c ρ (e :: es) ms) (hn : ms.length = n := by rfl) (hg : Gl X x := by rfl) (hf : fl ≠ .bo := by intro h; cases h)
    (hdb : (x == ("__debug__" : Str)) = false := by decide) (he : starEach (e :: es) X.env = (false, eval e X.env) :: starEach es X.env := by rfl) (hpl : (backTo pos (starEach es X.env)).any (·.1) = false := by rfl) : JE X W c ρ fl (.Call (.Name x p) (e :: es) [] pos) ((args ms).bind F) := by
  subst hT
  obtain ⟨f, fd, ps, Fn, hm, hk, hb⟩ := M.ex
  exact PE.imp (pe_callF Fn hr hg hm hk hb tk ha hdb he hpl) fun σ H Q q => Wd.mono (call_read (h := false) hf q hn) fun ds H1 g z vs r => z vs vs r rfl
theorem e_call0 {Tt : List (Addr × Str)} (hT : c.T = Tt) (M : FnM X.prog X.w X.K X.mg X.base Tt g k x false 0 fl F) (hr : Rm g k X.A) (tk : Takes X W) (hg : Gl X x := by rfl) (hf : fl ≠ .bo := by intro h; cases h) (hdb : (x == ("__debug__" : Str)) = false := by decide) : JE X W c ρ fl (.Call (.Name x p) [] [] pos) (F []) := by
  subst hT
  obtain ⟨f, fd, ps, Fn, hm, hk, hb⟩ := M.ex
  exact PE.imp (pe_callF0 Fn hr hg hm hk hb tk hdb) fun σ H Q q => Wd.now (call_read (ms := []) (h := false) hf q rfl) [] [] rfl rfl
/-- the hand handed on -/
theorem e_callH {y : Str} {py : Pos} (i : Nat) {Tt : List (Addr × Str)} (hT : c.T = Tt) (M : FnM X.prog X.w X.K X.mg X.base Tt g k x true n fl F) (hr : Rm g k X.A) (tk : Takes X W) (ha : JAs X W c ρ es ms) (hi : ρ[i]? = some .hd := by rfl) (hn : ms.length = n := by rfl) (hg : Gl X x := by rfl) (hf : fl ≠ .bo := by intro h; cases h)
    (hN : X.N[i]? = some y := by rfl) (hv : Vis X.env.scope y := by first | exact Or.inl rfl | exact Or.inr (Or.inl rfl) | exact Or.inr (Or.inr rfl)) (h1 : (y == ("__debug__" : Str)) = false := by decide) (h2 : (y == ("__classdict__" : Str)) = false := by decide)
    (hdb : (x == ("__debug__" : Str)) = false := by decide) (he : starEach (.Name y py :: es) X.env = (false, eval (.Name y py) X.env) :: starEach es X.env := by rfl) (hpl : (backTo pos (starEach es X.env)).any (·.1) = false := by rfl) : JE X W c ρ fl (.Call (.Name x p) (.Name y py :: es) [] pos) ((args ms).bind F) := by
  subst hT
  obtain ⟨f, fd, ps, Fn, hm, hk, hb⟩ := M.ex
  refine PE.imp (pe_callF Fn hr hg hm hk hb tk (pa_cons (pe_var hN hv h1 h2) ha he) hdb he hpl) fun σ H Q q => ?_
  obtain ⟨a, e, ha⟩ := q.1.hsl i hi
  exact ⟨.ref a, e, Wd.mono (call_read (h := true) hf q hn) fun ds H1 g z vs r => z _ vs r ⟨a, rfl, ha⟩⟩

/-! ### raise -/
theorem pmk0 {C : Addr} {bmB : List Value} {B newId initId : String} (F : ExcBaseFacts B newId initId bmB) (q : PySem.W.excIn X.K C bmB newId = true) (gC : X.mg x = some (.ref C)) (kC : PySem.W.keepIn X.K (.ref C) = true) (r : Raises X (.ref C)) (hg : Gl X x) (hdb : (x == ("__debug__" : Str)) = false := by decide) :
    PMk X (.Call (.Name x p) [] [] pos) (fun _ H Q => Q (.ref C) none H) := by
  intro pins s σ H Q I h
  refine wpAny_Call_Name_kw (ld_glob I hg gC (PySem.W.callWith_K0 I.kIn kC ?_) hdb)
  obtain ⟨bm, N, nm, qn, bs, hdct, sn, sub, ab, col, dd, k0, k1, k2, k3, k5, mN, hC, hN, hni, T⟩ := exc_obj I.kIn q
  exact wpAny_call_exc_subT F T hC hN hni (fun h' e hm => mk_of I hm r h (I.hok.gone hm.new)) (by show 0 ≤ sizeLine; omega)
end
end Ev


set_option Elab.async false
set_option linter.all false
set_option maxRecDepth 100000
/-! Ev, part B: a list of one's own lent to a def. -/
namespace Ev
open PySem PySem.Spec PyProof.Rows L2
mutual
theorem Rep.hard {B : Bs} {H : Hp} {O O' : Ad} (hO : ∀ b, O' b → O b ∨ ∃ u, H b = some u ∧ ∀ o xs, u ≠ .frz o (.tup xs)) : ∀ {d : D} {v : V}, Ev.hard d = true → Rep B H O d v → Rep B H O' d v
  | .non, _, _, h => h
  | .bl _, _, _, h => h
  | .int _, _, _, h => h
  | .str _, _, _, h => h
  | .fn _, _, _, h => h
  | .tup xs, v, q, h => by
    obtain ⟨a, vs, e, t, r⟩ := (show ∃ a vs, _ from h)
    refine ⟨a, vs, e, t.imp (fun ⟨t, n⟩ => ⟨t, fun z => ?_⟩) id, RepL.hard hO (by simpa [Ev.hard] using q) r⟩
    rcases hO a z with z | ⟨u, e, n2⟩
    · exact n z
    · obtain ⟨o, t, _⟩ := t
      rw [t] at e
      exact n2 _ _ (Option.some.inj e).symm
  | .lst _, _, q, _ => by simp [Ev.hard] at q
  | .src _, _, q, _ => by simp [Ev.hard] at q
  | .dct _ _, _, q, _ => by simp [Ev.hard] at q
  | .ins _ _ _, _, q, _ => by simp [Ev.hard] at q
theorem RepL.hard {B : Bs} {H : Hp} {O O' : Ad} (hO : ∀ b, O' b → O b ∨ ∃ u, H b = some u ∧ ∀ o xs, u ≠ .frz o (.tup xs)) : ∀ {ds : List D} {vs : List V}, hardL ds = true → RepL B H O ds vs → RepL B H O' ds vs
  | [], _, _, h => h
  | d :: ds, _, q, h => by
    obtain ⟨v, vr, e, h1, h2⟩ := (show ∃ v vr, _ from h)
    have q : Ev.hard d = true ∧ hardL ds = true := by simpa [hardL] using q
    exact ⟨v, vr, e, Rep.hard hO q.1 h1, RepL.hard hO q.2 h2⟩
end
section
variable {X : Cx} {W : WX} {c : Fr} {ρ : List Sl} {e : Expr} {es : List Expr} {m : R D} {ms : List (R D)} {pos p : Pos} {g : Bool} {k n : Nat} {x : Str} {F : List D → R D}
/-- arguments, lists of one's own lent -/
def tAb (X : Cx) (W : WX) (c : Fr) (ρ : List Sl) (ms : List (R D)) : TA := fun σ H Q => Wd X W c ρ σ (args ms) H fun ds H' => ∀ vs, RepL X.bs H' c.O0 ds vs → Q vs H'
abbrev JAb (X : Cx) (W : WX) (c : Fr) (ρ : List Sl) (es : List Expr) (ms : List (R D)) : Prop := PA X es (tAb X W c ρ ms)
theorem WI.o0s {B : Bs} {σ : L2.St} {H H' : Hp} {d : D} {v : V} (w : WI B c ρ σ H) (g : Pg c.T c.hd H H') (r : Rep B H c.O0 d v) : Rep B H' c.O0 d v := r.kp (g.k w.hdo)
theorem l_nil : JAb X W c ρ [] [] := PA.imp pa_nil fun σ H Q q => q.now [] rfl
theorem l_cons (ha : JE X W c ρ .sh e m) (hr : JAb X W c ρ es ms) (hs : starEach (e :: es) X.env = (false, eval e X.env) :: starEach es X.env := by rfl) : JAb X W c ρ (e :: es) (m :: ms) :=
  PA.imp (pa_cons ha hr hs) fun σ H Q q => by
    refine Wd.mono (Wd.bind q) fun d H1 g q1 v rv => ?_
    refine Wd.mono (Wd.bind q1) fun ds H2 g2 q2 vs rvs => ?_
    exact q2.2 H2 (Pg.refl _ _ _) (v :: vs) ⟨v, vs, rfl, q1.1.o0s g2 (Rep.less (fun b z => .inl z) (show Rep X.bs H1 (OA c ρ σ) d v from rv)), rvs⟩
theorem l_own (i : Nat) {d : D} {y : Str} {py : Pos} (hr : JAb X W c ρ es ms) (hd : ρ[i]? = some (.ow d) := by rfl) (hN : X.N[i]? = some y := by rfl) (hv : Vis X.env.scope y := by first | exact Or.inl rfl | exact Or.inr (Or.inl rfl) | exact Or.inr (Or.inr rfl)) (h1 : (y == ("__debug__" : Str)) = false := by decide) (h2 : (y == ("__classdict__" : Str)) = false := by decide)
    (hs : starEach (.Name y py :: es) X.env = (false, eval (.Name y py) X.env) :: starEach es X.env := by rfl) : JAb X W c ρ (.Name y py :: es) (.ok d :: ms) :=
  PA.imp (pa_cons (pe_var hN hv h1 h2) hr hs) fun σ H Q q => by
    obtain ⟨a, e1, r, f, n, m2⟩ := q.1.ows i d hd
    have rd : Rep X.bs H c.O0 d (.ref a) := r.rep (fun b z => .inl z) m2
    refine ⟨.ref a, e1, Wd.mono (Wd.bind (show Wd X W c ρ σ ((args ms).bind fun ds => .ok (d :: ds)) H _ from q)) fun ds H2 g2 q2 vs rvs => ?_⟩
    exact q2.2 H2 (Pg.refl _ _ _) (.ref a :: vs) ⟨.ref a, vs, rfl, q.1.o0s g2 rd, rvs⟩
theorem call_readB {σ : L2.St} {H : Hp} {Q : VK} {h : Bool} (q : tE X W c ρ .sh (((args ms).bind F).bind hardR) σ H Q) (hn : ms.length = n) :
    Wd X W c ρ σ (args ms) H fun ds H1 => ∀ vs ws, RepL X.bs H1 c.O0 ds ws → (if h = true then ∃ a, vs = .ref a :: ws ∧ c.hd a else vs = ws) → spM X.K X.mg c.T h n .sh F vs H1 Q (WE W σ) := by
  have q1 := Wd.bind (f := fun ds => (F ds).bind hardR) (by
    have q : Wd X W c ρ σ (((args ms).bind F).bind hardR) H _ := q
    rw [R.bind_assoc] at q
    exact q)
  refine ⟨q1.1, R.sat_mono (args_sat q1.2) (fun ds z H1 g vs ws r hv => ?_) fun _ _ z => z⟩
  obtain ⟨hl, z⟩ := z
  have q2 := z H1 g
  have q3 := Wd.bind q2
  refine ⟨c.hd, c.O0, ds, ws, by rw [hl, hn], hv, q2.1.o0, q2.1.hdo, fun a z => let ⟨p, q, n⟩ := q2.1.hds a z; ⟨p, q, fun y => n (.inl y)⟩, q2.1.tbs, r, R.sat_mono q3.2 (fun d y v H' g' rv => ?_) fun cl fs y x dd H' g' ev => y x dd H' g' ev⟩
  have y := y H' g'
  have y2 := y.2
  unfold hardR at y2
  split at y2
  · rename_i hh
    refine y2 H' (Pg.refl _ _ _) v (Rep.hard (fun b z => ?_) hh rv)
    rcases z with z | ⟨i, d, e1, e2⟩
    · exact .inl z
    · obtain ⟨a, e3, r, _⟩ := y.1.ows i d e1
      rw [e2] at e3
      cases e3
      obtain ⟨u, e, eg, _⟩ := r.there
      refine .inr ⟨u, e, fun ob xs z => ?_⟩
      subst z
      unfold gt at eg
      rw [e] at eg
      cases eg
  · exact y2.elim
theorem e_callB {Tt : List (Addr × Str)} (hT : c.T = Tt) (M : FnM X.prog X.w X.K X.mg X.base Tt g k x false n .sh F) (hr : Rm g k X.A) (tk : Takes X W) (ha : JAb X W c ρ (e :: es) ms) (hn : ms.length = n := by rfl) (hg : Gl X x := by rfl)
    (hdb : (x == ("__debug__" : Str)) = false := by decide) (he : starEach (e :: es) X.env = (false, eval e X.env) :: starEach es X.env := by rfl) (hpl : (backTo pos (starEach es X.env)).any (·.1) = false := by rfl) : JE X W c ρ .sh (.Call (.Name x p) (e :: es) [] pos) (((args ms).bind F).bind hardR) := by
  subst hT
  obtain ⟨f, fd, ps, Fn, hm, hk, hb⟩ := M.ex
  exact PE.imp (pe_callF Fn hr hg hm hk hb tk ha hdb he hpl) fun σ H Q q => Wd.mono (call_readB (h := false) q hn) fun ds H1 g z vs r => z vs vs r rfl
theorem e_callHB {y : Str} {py : Pos} (i : Nat) {Tt : List (Addr × Str)} (hT : c.T = Tt) (M : FnM X.prog X.w X.K X.mg X.base Tt g k x true n .sh F) (hr : Rm g k X.A) (tk : Takes X W) (ha : JAb X W c ρ es ms) (hi : ρ[i]? = some .hd := by rfl) (hn : ms.length = n := by rfl) (hg : Gl X x := by rfl)
    (hN : X.N[i]? = some y := by rfl) (hv : Vis X.env.scope y := by first | exact Or.inl rfl | exact Or.inr (Or.inl rfl) | exact Or.inr (Or.inr rfl)) (h1 : (y == ("__debug__" : Str)) = false := by decide) (h2 : (y == ("__classdict__" : Str)) = false := by decide)
    (hdb : (x == ("__debug__" : Str)) = false := by decide) (he : starEach (.Name y py :: es) X.env = (false, eval (.Name y py) X.env) :: starEach es X.env := by rfl) (hpl : (backTo pos (starEach es X.env)).any (·.1) = false := by rfl) : JE X W c ρ .sh (.Call (.Name x p) (.Name y py :: es) [] pos) (((args ms).bind F).bind hardR) := by
  subst hT
  obtain ⟨f, fd, ps, Fn, hm, hk, hb⟩ := M.ex
  refine PE.imp (pe_callF Fn hr hg hm hk hb tk (pa_cons (pe_var hN hv h1 h2) ha he) hdb he hpl) fun σ H Q q => ?_
  obtain ⟨a, e, ha⟩ := q.1.hsl i hi
  exact ⟨.ref a, e, Wd.mono (call_readB (h := true) q hn) fun ds H1 g z vs r => z _ vs r ⟨a, rfl, ha⟩⟩
end
end Ev


set_option Elab.async false
set_option linter.all false
set_option maxRecDepth 100000
/-! Ev, part M: what is changed in place; pairs stored at once; raise; the hand begun. -/
namespace Ev
open PySem PySem.Spec PyProof.Rows L2

/-! ### in place -/
section
variable {X : Cx} {W : WX} {c : Fr} {ρ : List Sl} {e e1 e2 : Expr} {m m1 m2 : R D} {β : Type} {K : Ends → β → Prop} {f : List D → R β} {ds : List D} {rest : List Stmt} {x : Str} {pos p apos cpos spos : Pos} {d0 : D}
theorem ow_lst {B : Bs} {σ : L2.St} {H : Hp} {i : Nat} {ds : List D} (w : WI B c ρ σ H) (hd : ρ[i]? = some (.ow (.lst ds))) : ∃ a vs, σ[i]? = some (some (.ref a)) ∧ H a = some (.lst vs) ∧ RepL B H (OA c ρ σ) ds vs := by
  obtain ⟨a, e, ⟨vs, h, r⟩, _⟩ := w.ows i _ hd
  exact ⟨a, vs, e, h, r⟩
/-- x.append(e) -/
theorem s_app (i : Nat) (he : JE X W c ρ .sh e m) (hr : ∀ xs, JX X W c (ρ.set i (.ow (.lst xs))) rest (f xs) K) (hd : ρ[i]? = some (.ow (.lst ds)) := by rfl) (hN : X.N[i]? = some x := by rfl) (hv : Vis X.env.scope x := by first | exact Or.inl rfl | exact Or.inr (Or.inl rfl) | exact Or.inr (Or.inr rfl))
    (h1 : (x == ("__debug__" : Str)) = false := by decide) (h2 : (x == ("__classdict__" : Str)) = false := by decide) (hbase : attributeBase (.Name x p) "append" X.env (eval (.Name x p) X.env) = eval (.Name x p) X.env := by rfl)
    (hfew : ((backTo cpos (starEach [e] X.env)).all (fun x => !x.1) && (backToKw cpos (keywordEach [] X.env)).all (fun x => x.1.isSome) && decide ([e].length + ([] : List Keyword).length + (if ([] : List Keyword).isEmpty then 0 else 1) < 30)) = true := by rfl)
    (hline : (apos.endLine == cpos.line) = true := by rfl) (hs : starEach [e] X.env = (false, eval e X.env) :: starEach [] X.env := by rfl) (hpl : (backTo cpos (starEach [] X.env)).any (·.1) = false := by rfl) (hsw : swapsWith (.Call (.Attribute (.Name x p) "append" apos) [e] [] cpos) none spos.line X.env = pure false := by rfl) :
    JX X W c ρ (.Expr (.Call (.Attribute (.Name x p) "append" apos) [e] [] cpos) spos :: rest) (m.bind fun d => (appL ds d).bind f) K :=
  PSs.imp (pss_cons (ps_expr (pe_bm PySem.F.plainAttrs_list PySem.F.slot_list_append PySem.F.type_list_append mt_append (pe_var hN hv h1 h2) (pa_cons he pa_nil hs) hbase hfew hline hs hpl) hsw) (pss_ex hr)) fun Dn σ H q => by
    obtain ⟨a, vs, e1, hA, r⟩ := ow_lst (H := H) q.1 hd
    refine ⟨.ref a, e1, .inl ⟨rfl, vs, .of hA⟩, Wd.mono (tX.wd q) fun d H1 g q1 v rv => ?_⟩
    obtain ⟨a', vs', e2, hA', r'⟩ := ow_lst (H := H1) q1.1 hd
    rw [e1] at e2
    cases e2
    have sat := R.sat_bind.mp q1.2
    unfold appL at sat
    split at sat
    · rename_i hl
      have hi : OA c ρ σ a := .inr ⟨i, _, hd, e1⟩
      have k : Kp H1 (L2.upd H1 a (.lst (vs' ++ [v]))) (OA c ρ σ) (OA c ρ σ) := .of fun b u _ e n => ⟨by rw [upd_ne fun z => n (by rw [z]; exact hi)]; exact e, n⟩
      exact ⟨a, vs', v, rfl, rfl, hA', by rw [r'.length, ← SZ_eq]; exact hl, ds ++ [d], q1.1.upd hd e1 ⟨_, upd_same, (r'.kp k).append (RepL.cons (Rep.kp k rv) rfl)⟩, sat⟩
    · exact (show False from sat).elim
/-- x[e1] = e2 -/
theorem s_item (i : Nat) (he2 : JE X W c ρ .sh e2 m2) (he1 : JE X W c ρ .sh e1 m1) (hr : ∀ xs, JX X W c (ρ.set i (.ow (.lst xs))) rest (f xs) K) (hd : ρ[i]? = some (.ow (.lst ds)) := by rfl) (hN : X.N[i]? = some x := by rfl) (hv : Vis X.env.scope x := by first | exact Or.inl rfl | exact Or.inr (Or.inl rfl) | exact Or.inr (Or.inr rfl))
    (h1 : (x == ("__debug__" : Str)) = false := by decide) (h2 : (x == ("__classdict__" : Str)) = false := by decide) (hs : swapsWithSole [.Subscript (.Name x p) e1 apos] e2 spos.line X.env = pure false := by rfl) (hw : swappedStores [.Subscript (.Name x p) e1 apos] e2 X.env = pure none := by rfl)
    (h3 : (assignEach [.Subscript (.Name x p) e1 apos] X.env).map (·.2) = [assign (.Subscript (.Name x p) e1 apos) X.env] := by rfl)
    (h4 : ∀ v, assign (.Subscript (.Name x p) e1 apos) X.env v = (do
      let ov ← holding [v] (eval (.Name x p) X.env)
      let iv ← holding [v, ov] (eval e1 X.env)
      standAt apos
      holding [v, ov, iv] (setItem ov iv v)
      release [v, ov, iv] []) := by intro _; rfl) :
    JX X W c ρ (.Assign [.Subscript (.Name x p) e1 apos] e2 spos :: rest) (m2.bind fun d => m1.bind fun j => (setL ds j d).bind f) K :=
  PSs.imp (pss_cons (ps_asg he2 (pg_sub (pe_var hN hv h1 h2) he1 set_list h4) hs hw h3) (pss_ex hr)) fun Dn σ H q => by
    refine Wd.mono (tX.wd q) fun d H1 g q1 v rv => ?_
    obtain ⟨a, vs, e1, hA, r⟩ := ow_lst (H := H1) q1.1 hd
    refine ⟨.ref a, e1, Wd.mono (tX.wd q1) fun j H2 g2 q2 y ry => ?_⟩
    obtain ⟨a', vs', e2, hA', r'⟩ := ow_lst (H := H2) q2.1 hd
    rw [e1] at e2
    cases e2
    have sat := R.sat_bind.mp q2.2
    unfold setL at sat
    split at sat
    · rename_i z
      cases (show y = V.int z from ry)
      split at sat
      · rename_i jj hj
        have hi : OA c ρ σ a := .inr ⟨i, _, hd, e1⟩
        have k : Kp H2 (L2.upd H2 a (.lst (vs'.set jj v))) (OA c ρ σ) (OA c ρ σ) := .of fun b u _ e n => ⟨by rw [upd_ne fun z => n (by rw [z]; exact hi)]; exact e, n⟩
        exact ⟨a, vs', z, jj, rfl, rfl, hA', by rw [r'.length]; exact hj, ds.set jj d, q2.1.upd hd e1 ⟨_, upd_same, (r'.kp k).set (Rep.kp k (Rep.kp (g2.k q1.1.hdO) rv))⟩, sat⟩
      · exact (show False from sat).elim
    · exact (show False from sat).elim
/-- x[e1], x[e2] = e -/
theorem s_item2 (i : Nat) {ev ea eb : Expr} {mv ma mb : R D} {pa pb pt qa qb : Pos} {kt : _} (hc : X.calm = true) (he : JE X W c ρ .sh ev mv) (hea : JE X W c ρ .sh ea ma) (heb : ∀ xs, JE X W c (ρ.set i (.ow (.lst xs))) .sh eb mb) (hr : ∀ xs ys, JX X W c ((ρ.set i (.ow (.lst xs))).set i (.ow (.lst ys))) rest (f ys) K)
    (hil : i < ρ.length := by exact Nat.le_of_ble_eq_true rfl) (hd : ρ[i]? = some (.ow (.lst ds)) := by rfl) (hN : X.N[i]? = some x := by rfl) (hv : Vis X.env.scope x := by first | exact Or.inl rfl | exact Or.inr (Or.inl rfl) | exact Or.inr (Or.inr rfl))
    (h1 : (x == ("__debug__" : Str)) = false := by decide) (h2 : (x == ("__classdict__" : Str)) = false := by decide)
    (hs : swapsWithSole [.Tuple [.Subscript (.Name x pa) ea qa, .Subscript (.Name x pb) eb qb] kt pt] ev spos.line X.env = pure false := by rfl) (hw : swappedStores [.Tuple [.Subscript (.Name x pa) ea qa, .Subscript (.Name x pb) eb qb] kt pt] ev X.env = pure none := by rfl)
    (h3 : (assignEach [.Tuple [.Subscript (.Name x pa) ea qa, .Subscript (.Name x pb) eb qb] kt pt] X.env).map (·.2) = [assign (.Tuple [.Subscript (.Name x pa) ea qa, .Subscript (.Name x pb) eb qb] kt pt) X.env] := by rfl)
    (hn : (assignEach [.Subscript (.Name x pa) ea qa, .Subscript (.Name x pb) eb qb] X.env).length = 2 := by rfl) (hst : (assignEach [.Subscript (.Name x pa) ea qa, .Subscript (.Name x pb) eb qb] X.env).findIdx? (·.1) = none := by rfl)
    (ha1 : (assignEach [.Subscript (.Name x pa) ea qa, .Subscript (.Name x pb) eb qb] X.env).map (·.2) = assign (.Subscript (.Name x pa) ea qa) X.env :: (assignEach [.Subscript (.Name x pb) eb qb] X.env).map (·.2) := by rfl)
    (ha2 : (assignEach [.Subscript (.Name x pb) eb qb] X.env).map (·.2) = assign (.Subscript (.Name x pb) eb qb) X.env :: (assignEach [] X.env).map (·.2) := by rfl)
    (h4 : ∀ v, assign (.Subscript (.Name x pa) ea qa) X.env v = (do
      let ov ← holding [v] (eval (.Name x pa) X.env)
      let iv ← holding [v, ov] (eval ea X.env)
      standAt qa
      holding [v, ov, iv] (setItem ov iv v)
      release [v, ov, iv] []) := by intro _; rfl)
    (h5 : ∀ v, assign (.Subscript (.Name x pb) eb qb) X.env v = (do
      let ov ← holding [v] (eval (.Name x pb) X.env)
      let iv ← holding [v, ov] (eval eb X.env)
      standAt qb
      holding [v, ov, iv] (setItem ov iv v)
      release [v, ov, iv] []) := by intro _; rfl) :
    JX X W c ρ (.Assign [.Tuple [.Subscript (.Name x pa) ea qa, .Subscript (.Name x pb) eb qb] kt pt] ev spos :: rest) (mv.bind fun d => unp2 d fun a b => ma.bind fun j => (setL ds j a).bind fun ys => mb.bind fun l => (setL ys l b).bind f) K :=
  PSs.imp (pss_cons (ps_asg he (pg_tup hc (pgs_cons (pg_sub (pe_var hN hv h1 h2) hea set_list h4) (pgs_cons (pg_sub (pe_var hN hv h1 h2) (pe_ex heb) set_list h5) pgs_nil ha2) ha1) hn hst) hs hw h3) (pss_ex fun q : List D × List D => hr q.1 q.2)) fun Dn σ H q => by
    refine Wd.mono (tX.wd q) fun d H1 g q1 v rv => ?_
    have q1' := q1.2
    unfold unp2 at q1'
    split at q1'
    · rename_i a b
      obtain ⟨p, vs, rfl, hT, rl⟩ := (show ∃ p vs, v = V.ref p ∧ TupAt X.bs H1 (OA c ρ σ) p vs ∧ RepL X.bs H1 (OA c ρ σ) [a, b] vs from rv)
      obtain ⟨va, vb, rfl, ra, rb⟩ := rl.two
      refine ⟨p, [va, vb], rfl, hT.seq, rfl, va, [vb], rfl, ?_⟩
      obtain ⟨o, os, e1, hA, r⟩ := ow_lst (H := H1) q1.1 hd
      refine ⟨.ref o, e1, Wd.mono (tX.wd (m := ma) ⟨q1.1, q1'⟩) fun j H2 g2 q2 y ry => ?_⟩
      obtain ⟨o', os', e2, hA', r'⟩ := ow_lst (H := H2) q2.1 hd
      rw [e1] at e2
      cases e2
      have sat := R.sat_bind.mp q2.2
      unfold setL at sat
      split at sat
      · rename_i z
        cases (show y = V.int z from ry)
        split at sat
        · rename_i jj hj
          have hi : OA c ρ σ o := .inr ⟨i, _, hd, e1⟩
          have k : Kp H2 (L2.upd H2 o (.lst (os'.set jj va))) (OA c ρ σ) (OA c ρ σ) := .of fun b u _ e n => ⟨by rw [upd_ne fun z => n (by rw [z]; exact hi)]; exact e, n⟩
          have w3 : WI X.bs c (ρ.set i (.ow (.lst (ds.set jj a)))) σ (L2.upd H2 o (.lst (os'.set jj va))) := q2.1.upd hd e1 ⟨_, upd_same, (r'.kp k).set (Rep.kp k (Rep.kp (g2.k q1.1.hdO) ra))⟩
          have rb3 : Rep X.bs (L2.upd H2 o (.lst (os'.set jj va))) (OA c ρ σ) b vb := Rep.kp k (Rep.kp (g2.k q1.1.hdO) rb)
          refine ⟨o, os', z, jj, rfl, rfl, hA', by rw [r'.length]; exact hj, vb, [], rfl, .ref o, e1, ds.set jj a, ?_⟩
          have sat : (R.bind mb fun l => (setL (ds.set jj a) l b).bind f).sat (K Dn) (ExcS X W c) := sat
          refine Wd.mono (tX.wd (ρ := ρ.set i (.ow (.lst (ds.set jj a)))) ⟨w3, sat⟩) fun l H4 g4 q4 y2 ry2 => ?_
          have hd4 : (ρ.set i (.ow (.lst (ds.set jj a))))[i]? = some (.ow (.lst (ds.set jj a))) := List.getElem?_set_self hil
          obtain ⟨o'', os4, e4, hA4, r4⟩ := ow_lst (H := H4) q4.1 hd4
          rw [e1] at e4
          cases e4
          have sat4 := R.sat_bind.mp q4.2
          unfold setL at sat4
          split at sat4
          · rename_i z4
            cases (show y2 = V.int z4 from ry2)
            split at sat4
            · rename_i kk hk
              have hi4 : OA c (ρ.set i (.ow (.lst (ds.set jj a)))) σ o := .inr ⟨i, _, hd4, e1⟩
              have k4 : Kp H4 (L2.upd H4 o (.lst (os4.set kk vb))) (OA c (ρ.set i (.ow (.lst (ds.set jj a)))) σ) (OA c (ρ.set i (.ow (.lst (ds.set jj a)))) σ) := .of fun b u _ e n => ⟨by rw [upd_ne fun z => n (by rw [z]; exact hi4)]; exact e, n⟩
              have hoa : ∀ q, OA c (ρ.set i (.ow (.lst (ds.set jj a)))) σ q → OA c ρ σ q := fun q z => by
                rcases z with z | ⟨n, d', e5, e6⟩
                · exact .inl z
                · by_cases en : n = i
                  · subst en
                    exact .inr ⟨n, _, hd, e6⟩
                  · rw [List.getElem?_set_ne (fun z => en z.symm)] at e5
                    exact .inr ⟨n, d', e5, e6⟩
              exact ⟨o, os4, z4, kk, rfl, rfl, hA4, by rw [r4.length]; exact hk, rfl, (ds.set jj a, (ds.set jj a).set kk b), q4.1.upd hd4 e1 ⟨_, upd_same, (r4.kp k4).set (Rep.kp k4 (Rep.kp (g4.k w3.hdO) (Rep.less hoa rb3)))⟩, sat4⟩
            · exact (show False from sat4).elim
          · exact (show False from sat4).elim
        · exact (show False from sat).elim
      · exact (show False from sat).elim
    · exact (show False from q1').elim
end

/-! ### pairs stored at once -/
/-- a slot for a list of one's own (o), or for data -/
abbrev flO (o : Bool) : Fl := if o = true then .ra else .sh
abbrev slO : (o : Bool) → OV o → Sl
  | true, xs => .ow (.lst xs)
  | false, d => .sh d
section
variable {X : Cx} {W : WX} {c : Fr} {ρ : List Sl} {β : Type} {K : Ends → β → Prop} {rest : List Stmt} {x y z : Str} {pos px py pz pt pt2 : Pos} {kt k2 : _} {a b b3 : Expr} {m1 m2 m3 : R D} {i j l : Nat}
theorem pgT {T T' : List (Addr × Str)} {hd hd' : Ad} {H H' : Hp} (e : hd' = hd) (eT : T' = T) (g : Pg T' hd' H H') : Pg T hd H H' := by
  subst e eT
  exact g
/-- one stored; what is told next keeps away from it -/
theorem store_on {o : Bool} {σ : L2.St} {H H1 : Hp} {d : OV o} {v : V} (w : WI X.bs c ρ σ H) (g : Pg c.T c.hd H H1) (hi : i < ρ.length) (r : RepX X.bs c.hd H H1 (OA c ρ σ) (flO o) (toD o d) v) :
    WI X.bs c (ρ.set i (slO o d)) (σ.set i (some v)) H1 ∧ ∃ c1 : Fr, WI X.bs c1 ρ σ H1 ∧ c1.hd = c.hd ∧ c1.T = c.T ∧ (∀ q, OA c (ρ.set i (slO o d)) (σ.set i (some v)) q → OA c1 ρ σ q) ∧ (∀ q, c.O0 q → c1.O0 q) ∧ ∀ q, o = true → v = .ref q → c1.O0 q := by
  cases o with
  | false => exact ⟨(w.pg g).setSh hi r, c, w.pg g, rfl, rfl, fun q z => z.imp id (hand_set fun d e => by cases e), fun _ z => z, fun _ e => by cases e⟩
  | true =>
    obtain ⟨p, rfl, hn, r0⟩ := (show ∃ p, v = V.ref p ∧ Fre H p ∧ OwnAt X.bs H1 (fun b => OA c ρ σ b ∨ b = p) (.lst d) p from r)
    refine ⟨w.setRa (d := .lst d) g hi ⟨_, rfl⟩ r, c.plus p, w.plus hn g r0.thr, rfl, rfl, fun q z => OA_plus.mpr ?_, fun _ z => .inl z, fun q _ e => .inr (by cases e; rfl)⟩
    rcases z with z | ⟨k, d', e1, e2⟩
    · exact .inl (.inl z)
    · rcases ix_set e1 with ⟨rfl, _, _⟩ | ⟨n, e1⟩
      · rw [List.getElem?_set_self (by rw [← w.len]; exact hi)] at e2
        cases e2
        exact .inr rfl
      · rw [List.getElem?_set_ne n] at e2
        exact .inl (.inr ⟨k, d', e1, e2⟩)
theorem RepX.lessO {o : Bool} {B : Bs} {hd : Ad} {H₀ H : Hp} {O O' : Ad} {d : D} {v : V} (l : ∀ q, O' q → O q) (r : RepX B hd H₀ H O (flO o) d v) : RepX B hd H₀ H O' (flO o) d v := by
  cases o with
  | false => exact Rep.less l (show Rep B H O d v from r)
  | true =>
    have r : RepX B hd H₀ H O .ra d v := r
    show RepX B hd H₀ H O' .ra d v
    cases d with
    | lst ds => obtain ⟨p, e, n, r⟩ := r; exact ⟨p, e, n, r.less fun b z => z.imp (l b) id⟩
    | dct ks ds => obtain ⟨p, e, n, r⟩ := r; exact ⟨p, e, n, r.less fun b z => z.imp (l b) id⟩
    | _ => exact Rep.less l (show Rep B H O _ v from r)
theorem tk_sat {o : Bool} {α : Type} {d : D} {k : OV o → R α} {P : α → Prop} {E : String → List (String × D) → Prop} (h : (tk o d k).sat P E) : ∃ x : OV o, d = toD o x ∧ (k x).sat P E := by
  cases o with
  | false => exact ⟨d, rfl, h⟩
  | true =>
    cases d with
    | lst xs => exact ⟨xs, rfl, h⟩
    | _ => exact (show False from h).elim
theorem s_par2 (o1 o2 : Bool) {f : OV o1 → OV o2 → R β} (hc : X.calm = true) (hN : X.N.Nodup) (ha : JE X W c ρ (flO o1) a m1) {Tt : List (Addr × Str)} (hT : c.T = Tt) (hb : ∀ c' : Fr, c'.T = Tt → JE X W c' ρ (flO o2) b m2) (hr : ∀ d1 d2, JX X W c ((ρ.set i (slO o1 d1)).set j (slO o2 d2)) rest (f d1 d2) K)
    (hij : i ≠ j := by decide) (hil : i < ρ.length := by exact Nat.le_of_ble_eq_true rfl) (hjl : j < ρ.length := by exact Nat.le_of_ble_eq_true rfl) (hi : X.N[i]? = some x := by rfl) (hj : X.N[j]? = some y := by rfl) (hx : X.env.scope.names.lookup x = some .local := by rfl) (hy : X.env.scope.names.lookup y = some .local := by rfl)
    (hs0 : starEach [a, b] X.env = (false, eval a X.env) :: starEach [b] X.env := by rfl) (hs1 : starEach [b] X.env = (false, eval b X.env) :: starEach [] X.env := by rfl) (hw : swappedStores [.Tuple [.Name x px, .Name y py] kt pt] (.Tuple [a, b] k2 pt2) X.env = pure (some [x, y]) := by rfl)
    (hs : swapsWithSole [.Tuple [.Name x px, .Name y py] kt pt] (.Tuple [a, b] k2 pt2) pos.line X.env = pure false := by rfl) :
    JX X W c ρ (.Assign [.Tuple [.Name x px, .Name y py] kt pt] (.Tuple [a, b] k2 pt2) pos :: rest) (m1.bind fun d1 => tk o1 d1 fun d1 => m2.bind fun d2 => tk o2 d2 fun d2 => f d1 d2) K := by
  have hps := ps_par (i := i) (j := j) (pos := pos) hc hN hi hj hij hx hy (pa_cons ha (pa_cons (pe_ex fun q : {c' : Fr // c'.T = Tt} => hb q.1 q.2) pa_nil hs1) hs0) hw hs
  refine PSs.imp (pss_cons hps (pss_ex fun q : OV o1 × OV o2 => hr q.1 q.2)) fun Dn σ H q => ?_
  refine Wd.mono (tX.wd q) fun d1 H1 g1 q1 v1 r1 => ?_
  obtain ⟨d1, rfl, s1⟩ := tk_sat q1.2
  obtain ⟨w1, c1, wc, ehd, eT, hOA, hi0, hi1⟩ := store_on (i := i) q.1 g1 hil r1
  refine ⟨⟨c1, eT.trans hT⟩, wc, R.sat_mono (R.sat_bind.mp s1) (fun d2 s2 H2 g2 v2 r2 => ?_) fun cl fs z x dd H' g ev => z x dd σ H' (w1.ext.trans (pgT ehd eT g)) ev⟩
  have g2 : Pg c.T c.hd H1 H2 := pgT ehd eT g2
  rw [ehd] at r2
  obtain ⟨d2, rfl, t2⟩ := tk_sat s2
  obtain ⟨w2, _⟩ := store_on (i := j) w1 g2 (by rw [List.length_set]; exact hjl) (RepX.lessO hOA r2)
  exact ⟨v1, v2, rfl, (d1, d2), w2, t2⟩
/-- a, b = e1, e2, a or b captured: stored by the pair -/
theorem s_parC (o1 o2 : Bool) {f : OV o1 → OV o2 → R β} (hc : X.calm = true) (hN : X.N.Nodup) (ha : JE X W c ρ (flO o1) a m1) {Tt : List (Addr × Str)} (hT : c.T = Tt) (hb : ∀ c' : Fr, c'.T = Tt → JE X W c' ρ (flO o2) b m2) (hr : ∀ d1 d2, JX X W c ((ρ.set i (slO o1 d1)).set j (slO o2 d2)) rest (f d1 d2) K)
    (hij : i ≠ j := by decide) (hil : i < ρ.length := by exact Nat.le_of_ble_eq_true rfl) (hjl : j < ρ.length := by exact Nat.le_of_ble_eq_true rfl) (hi : X.N[i]? = some x := by rfl) (hj : X.N[j]? = some y := by rfl) (hx : Loc X.env.scope x := by first | exact Or.inl rfl | exact Or.inr rfl) (hy : Loc X.env.scope y := by first | exact Or.inl rfl | exact Or.inr rfl)
    (hfx : X.fn x = true ∨ X.env.scope.names.lookup x = some .local := by first | exact .inl rfl | exact .inr rfl) (hfy : X.fn y = true ∨ X.env.scope.names.lookup y = some .local := by first | exact .inl rfl | exact .inr rfl)
    (hs0 : starEach [a, b] X.env = (false, eval a X.env) :: starEach [b] X.env := by rfl) (hs1 : starEach [b] X.env = (false, eval b X.env) :: starEach [] X.env := by rfl) (hw : swappedStores [.Tuple [.Name x px, .Name y py] kt pt] (.Tuple [a, b] k2 pt2) X.env = pure none := by rfl)
    (hs : swapsWithSole [.Tuple [.Name x px, .Name y py] kt pt] (.Tuple [a, b] k2 pt2) pos.line X.env = pure false := by rfl)
    (h1 : (assignEach [.Tuple [.Name x px, .Name y py] kt pt] X.env).map (·.2) = [assign (.Tuple [.Name x px, .Name y py] kt pt) X.env] := by rfl)
    (h2 : (assignEach [.Name x px, .Name y py] X.env).map (·.2) = assign (.Name x px) X.env :: (assignEach [.Name y py] X.env).map (·.2) := by rfl) (h3 : (assignEach [.Name y py] X.env).map (·.2) = assign (.Name y py) X.env :: (assignEach [] X.env).map (·.2) := by rfl)
    (h4 : (assignEach [.Name x px, .Name y py] X.env).length = 2 := by rfl) (h5 : (assignEach [.Name x px, .Name y py] X.env).findIdx? (·.1) = none := by rfl) :
    JX X W c ρ (.Assign [.Tuple [.Name x px, .Name y py] kt pt] (.Tuple [a, b] k2 pt2) pos :: rest) (m1.bind fun d1 => tk o1 d1 fun d1 => m2.bind fun d2 => tk o2 d2 fun d2 => f d1 d2) K := by
  have hps := ps_asg (pos := pos) (pe_tup (x1 := k2) (pos := pt2) (pa_cons ha (pa_cons (pe_ex fun q : {c' : Fr // c'.T = Tt} => hb q.1 q.2) pa_nil hs1) hs0)) (pg_tup (k := kt) (pos := pt) hc (pgs_cons (pg_name (pos := px) hN hi hx hfx) (pgs_cons (pg_name (pos := py) hN hj hy hfy) pgs_nil h3) h2) h4 h5) hs hw h1
  refine PSs.imp (pss_cons hps (pss_ex fun q : OV o1 × OV o2 => hr q.1 q.2)) fun Dn σ H q => ?_
  refine Wd.mono (tX.wd q) fun d1 H1 g1 q1 v1 r1 => ?_
  obtain ⟨d1, rfl, s1⟩ := tk_sat q1.2
  obtain ⟨w1, c1, wc, ehd, eT, hOA, hi0, hi1⟩ := store_on (i := i) q.1 g1 hil r1
  refine ⟨⟨c1, eT.trans hT⟩, wc, R.sat_mono (R.sat_bind.mp s1) (fun d2 s2 H2 g2 v2 r2 => ?_) fun cl fs z x dd H' g ev => z x dd σ H' (w1.ext.trans (pgT ehd eT g)) ev⟩
  have g2 : Pg c.T c.hd H1 H2 := pgT ehd eT g2
  rw [ehd] at r2
  obtain ⟨d2, rfl, t2⟩ := tk_sat s2
  obtain ⟨w2, _⟩ := store_on (i := j) w1 g2 (by rw [List.length_set]; exact hjl) (RepX.lessO hOA r2)
  refine ⟨by rw [sizeLine_eq, List.length_cons, List.length_singleton]; omega, fun p hp => ⟨p, _, rfl, .inl (.of upd_same), rfl, v1, _, rfl, v2, _, rfl, rfl, (d1, d2), w2.gr (Gr.laid hp), t2⟩⟩
theorem s_par3 (o1 o2 o3 : Bool) {f : OV o1 → OV o2 → OV o3 → R β} (hc : X.calm = true) (hN : X.N.Nodup) (ha : JE X W c ρ (flO o1) a m1) {Tt : List (Addr × Str)} (hT : c.T = Tt) (hb : ∀ c' : Fr, c'.T = Tt → JE X W c' ρ (flO o2) b m2) (hb3 : ∀ c' : Fr, c'.T = Tt → JE X W c' ρ (flO o3) b3 m3) (hr : ∀ d1 d2 d3, JX X W c (((ρ.set i (slO o1 d1)).set j (slO o2 d2)).set l (slO o3 d3)) rest (f d1 d2 d3) K)
    (hij : i ≠ j := by decide) (hil' : i ≠ l := by decide) (hjl' : j ≠ l := by decide) (hil : i < ρ.length := by exact Nat.le_of_ble_eq_true rfl) (hjl : j < ρ.length := by exact Nat.le_of_ble_eq_true rfl) (hll : l < ρ.length := by exact Nat.le_of_ble_eq_true rfl) (hi : X.N[i]? = some x := by rfl) (hj : X.N[j]? = some y := by rfl) (hl : X.N[l]? = some z := by rfl)
    (hx : X.env.scope.names.lookup x = some .local := by rfl) (hy : X.env.scope.names.lookup y = some .local := by rfl) (hz : X.env.scope.names.lookup z = some .local := by rfl)
    (hs0 : starEach [a, b, b3] X.env = (false, eval a X.env) :: starEach [b, b3] X.env := by rfl) (hs1 : starEach [b, b3] X.env = (false, eval b X.env) :: starEach [b3] X.env := by rfl) (hs2 : starEach [b3] X.env = (false, eval b3 X.env) :: starEach [] X.env := by rfl)
    (hw : swappedStores [.Tuple [.Name x px, .Name y py, .Name z pz] kt pt] (.Tuple [a, b, b3] k2 pt2) X.env = pure (some [x, y, z]) := by rfl)
    (hs : swapsWithSole [.Tuple [.Name x px, .Name y py, .Name z pz] kt pt] (.Tuple [a, b, b3] k2 pt2) pos.line X.env = pure false := by rfl) :
    JX X W c ρ (.Assign [.Tuple [.Name x px, .Name y py, .Name z pz] kt pt] (.Tuple [a, b, b3] k2 pt2) pos :: rest) (m1.bind fun d1 => tk o1 d1 fun d1 => m2.bind fun d2 => tk o2 d2 fun d2 => m3.bind fun d3 => tk o3 d3 fun d3 => f d1 d2 d3) K := by
  have hps := ps_par3 (i := i) (j := j) (l := l) (pos := pos) hc hN hi hj hl hij hil' hjl' hx hy hz (pa_cons ha (pa_cons (pe_ex fun q : {c' : Fr // c'.T = Tt} => hb q.1 q.2) (pa_cons (pe_ex fun q : {c' : Fr // c'.T = Tt} => hb3 q.1 q.2) pa_nil hs2) hs1) hs0) hw hs
  refine PSs.imp (pss_cons hps (pss_ex fun q : OV o1 × OV o2 × OV o3 => hr q.1 q.2.1 q.2.2)) fun Dn σ H q => ?_
  refine Wd.mono (tX.wd q) fun d1 H1 g1 q1 v1 r1 => ?_
  obtain ⟨d1, rfl, s1⟩ := tk_sat q1.2
  obtain ⟨w1, c1, wc, ehd, eT, hOA, hi0, hi1⟩ := store_on (i := i) q.1 g1 hil r1
  refine ⟨⟨c1, eT.trans hT⟩, wc, R.sat_mono (R.sat_bind.mp s1) (fun d2 s2 H2 g2 v2 r2 => ?_) fun cl fs z x dd H' g ev => z x dd σ H' (w1.ext.trans (pgT ehd eT g)) ev⟩
  have g2' : Pg c.T c.hd H1 H2 := pgT ehd eT g2
  rw [ehd] at r2
  obtain ⟨d2, rfl, t2⟩ := tk_sat s2
  obtain ⟨w2, _⟩ := store_on (i := j) w1 g2' (by rw [List.length_set]; exact hjl) (RepX.lessO hOA r2)
  obtain ⟨_, c2, wc2, ehd2, eT2, _, hj0, hj1⟩ := store_on (i := j) wc g2 hjl (ehd.symm ▸ r2)
  have hOA2 : ∀ q, OA c ((ρ.set i (slO o1 d1)).set j (slO o2 d2)) ((σ.set i (some v1)).set j (some v2)) q → OA c2 ρ σ q := fun qq z => by
    rcases z with z | ⟨k, d', e1, e2⟩
    · exact .inl (hj0 qq (hi0 qq z))
    · rcases ix_set e1 with ⟨rfl, e, _⟩ | ⟨n, e1⟩
      · rw [List.getElem?_set_self (by rw [List.length_set, ← q.1.len]; exact hjl)] at e2
        refine .inl (hj1 qq ?_ (by cases e2; rfl))
        cases o2 with
        | true => rfl
        | false => cases e
      · rw [List.getElem?_set_ne n] at e2
        rcases ix_set e1 with ⟨rfl, e, _⟩ | ⟨n', e1⟩
        · rw [List.getElem?_set_self (by rw [← q.1.len]; exact hil)] at e2
          refine .inl (hj0 qq (hi1 qq ?_ (by cases e2; rfl)))
          cases o1 with
          | true => rfl
          | false => cases e
        · rw [List.getElem?_set_ne n'] at e2
          exact .inr ⟨k, d', e1, e2⟩
  refine ⟨⟨c2, (eT2.trans eT).trans hT⟩, wc2, R.sat_mono (R.sat_bind.mp t2) (fun d3 s3 H3 g3 v3 r3 => ?_) fun cl fs z x dd H' g ev => z x dd σ H' (w2.ext.trans (pgT ehd eT (pgT ehd2 eT2 g))) ev⟩
  have g3' : Pg c.T c.hd H2 H3 := pgT ehd eT (pgT ehd2 eT2 g3)
  rw [ehd2, ehd] at r3
  obtain ⟨d3, rfl, t3⟩ := tk_sat s3
  obtain ⟨w3, _⟩ := store_on (i := l) w2 g3' (by rw [List.length_set, List.length_set]; exact hll) (RepX.lessO hOA2 r3)
  exact ⟨v1, v2, v3, rfl, (d1, d2, d3), w3, t3⟩
end

/-! ### targets; an own list returned -/
section
variable {X : Cx} {W : WX} {c : Fr} {ρ : List Sl} {e tg : Expr} {m : R D} {β T : Type} {K : Ends → β → Prop} {rest : List Stmt} {pos p : Pos} {U : (γ : Type) → D → (T → R γ) → R γ} {st : List Sl → T → List Sl} {vs : List Nat} {x : Str} {i : Nat}
/-- a, b = e, e told as a whole -/
theorem s_tgt {f : T → R β} (he : JE X W c ρ .sh e m) (G : Tg X tg U st vs) (hr : ∀ t, JX X W c (st ρ t) rest (f t) K) (hl : vs.all (fun i => decide (i < ρ.length)) = true := by rfl)
    (hs : swapsWithSole [tg] e pos.line X.env = pure false := by rfl) (hw : swappedStores [tg] e X.env = pure none := by rfl) (h1 : (assignEach [tg] X.env).map (·.2) = [assign tg X.env] := by rfl) : JX X W c ρ (.Assign [tg] e pos :: rest) (m.bind fun d => U β d f) K :=
  PSs.imp (pss_cons (ps_asg he G.pg hs hw h1) (pss_ex hr)) fun Dn σ H q => Wd.mono (tX.wd q) fun d H1 g q1 v rv => G.run c ρ σ H1 d v _ _ _ _ hl q1.1 rv q1.2 fun t σ' w s _ _ => ⟨t, w, s⟩
theorem s_retO {xs : List D} (i : Nat) (hd : ρ[i]? = some (.ow (.lst xs)) := by rfl) (hN : X.N[i]? = some x := by rfl) (hv : Vis X.env.scope x := by first | exact Or.inl rfl | exact Or.inr (Or.inl rfl) | exact Or.inr (Or.inr rfl)) (h1 : (x == ("__debug__" : Str)) = false := by decide) (h2 : (x == ("__classdict__" : Str)) = false := by decide) :
    JX X W c ρ [.Return (some (.Name x p)) pos] (.ok (.lst xs)) (KD X c .ra) :=
  PSs.imp (pss_one (ps_ret (pe_var hN hv h1 h2))) fun Dn σ H q => by
    obtain ⟨a, e, r, f, n, _⟩ := q.1.ows i _ hd
    refine ⟨.ref a, e, q.2 (.ref a) H q.1.ext ⟨a, rfl, f, r.less fun b z => ?_⟩⟩
    rcases z with z | rfl
    · exact .inl z
    · exact .inr ⟨i, _, hd, e⟩
end

/-! ### a dict with one pair, its key an int -/
section
variable {X : Cx} {W : WX} {c : Fr} {ρ : List Sl} {k v : Expr} {m : R D} {pos : Pos}
theorem e_d1 {i : Int} {Tt : List (Addr × Str)} (hT : c.T = Tt) (hk : ∀ c' : Fr, c'.T = Tt → JE X W c' ρ .sh k (.ok (.int i))) (hv : ∀ c' : Fr, c'.T = Tt → JE X W c' ρ .sh v m) : JE X W c ρ .ra (.Dict [some k] [v] pos) (m.map fun d => .dct [.int i] [d]) :=
  PE.imp (pe_disp (pps_cons (pe_ex fun q : {c' : Fr // c'.T = Tt} => hk q.1 q.2) (pe_ex fun q : {c' : Fr // c'.T = Tt} => hv q.1 q.2) pps_nil) rfl rfl (by simp) (by simp)) fun σ H Q q p hp => by
    have w1 : WI X.bs (c.plus p) ρ σ (L2.upd H p (.dK [])) := q.1.plus (.of hp) (Gr.laid hp).pg ⟨_, nt_dK, upd_same⟩
    have G0 : Pg c.T c.hd H (L2.upd H p (.dK [])) := (Gr.laid hp).pg
    have nhd : ¬ c.hd p := fun z => (Fre.of hp).no (q.1.hth p z)
    refine ⟨⟨c.plus p, hT⟩, w1, fun H1 g1 x rx => ?_⟩
    cases (show x = V.int i from rx)
    refine ⟨⟨c.plus p, hT⟩, w1.pg g1, R.sat_mono (R.sat_map.mp q.2) (fun d z H2 g2 y ry => ?_) fun cl fs z x dd H2 g2 ev => z x dd H2 ((G0.trans g1).trans g2) ev⟩
    have e2 : H2 p = some (.dK []) := g2.kp _ _ nt_dK (g1.kp _ _ nt_dK upd_same nhd) nhd
    have GG : Pg c.T c.hd H H2 := (G0.trans g1).trans g2
    refine ⟨e2, [(.inl i, y)], rfl, by simp, z _ ⟨fun b u t e n => ?_, fun b a hb e => ?_, fun b e => ?_, fun h r hr => tab_upd e2 nt_dK (fun _ z => by cases z) (GG.tb h r hr)⟩ _ ⟨p, rfl, .of hp, _, upd_same, ⟨_, _, rfl, rfl, rfl⟩, ?_⟩⟩
    · rw [upd_ne fun z => by rw [z, hp] at e; cases e]
      exact GG.kp b u t e n
    · obtain ⟨u0, q0⟩ := e.cells.ex
      obtain ⟨u1, q1⟩ := e.there.ex
      obtain ⟨cs, x, y, z', l, w, h1, h2⟩ := GG.hs b a hb e
      refine ⟨cs, x, y, z', l, w, ?_, ?_⟩
      · rw [upd_ne fun z => by rw [z, hp] at q1; cases q1]; exact h1
      · rw [upd_ne fun z => by rw [z, hp] at q0; cases q0]; exact h2
    · obtain ⟨u1, t1, e1⟩ := GG.th b e
      by_cases n : b = p
      · rw [n]; exact ⟨_, nt_dK, upd_same⟩
      · exact ⟨u1, t1, by rw [upd_ne n]; exact e1⟩
    · have kk : Kp H2 (L2.upd H2 p (.dK [(.inl i, y)])) (OA (c.plus p) ρ σ) (fun b => OA c ρ σ b ∨ b = p) := .of fun b u _ q n => by
        have n' : ¬ (OA c ρ σ b ∨ b = p) := fun z => n (OA_plus.mpr z)
        exact ⟨by rw [upd_ne fun z => n' (.inr z)]; exact q, n'⟩
      exact ⟨_, _, rfl, Rep.kp kk ry, rfl⟩
end
/-! ### raise -/
/-- an exception's class of the program's own -/
structure ExK (X : Cx) (x : Str) (C : Addr) (B newId initId : String) (bmB : List Value) : Prop where
  F : ExcBaseFacts B newId initId bmB
  q : PySem.W.excIn X.K C bmB newId = true
  g : X.mg x = some (.ref C)
  k : PySem.W.keepIn X.K (.ref C) = true
  r : Raises X (.ref C)
section
variable {X : Cx} {W : WX} {c : Fr} {ρ : List Sl} {β : Type} {K : Ends → β → Prop} {pos p cpos : Pos} {x : Str} {C : Addr} {B newId initId : String} {bmB : List Value}
theorem s_raise (n : String) (hc : X.calm = true) (tk : Takes X W) (T : ExK X x C B newId initId bmB) (hx : x = Str.ofString n := by rfl) (hg : Gl X x := by rfl) (hdb : (x == ("__debug__" : Str)) = false := by decide) : JX X W c ρ [.Raise (some (.Call (.Name x p) [] [] cpos)) none pos] (.exc n [] : R β) K :=
  PSs.imp (pss_one (ps_raise hc tk (pmk0 T.F T.q T.g T.k T.r hg hdb))) fun Dn σ H q => q.2 _ none σ H q.1.ext ⟨C, rfl, by rw [← hx]; exact T.g, .inl ⟨rfl, rfl⟩⟩
end

/-! ### the hand begun -/
section
variable {X : Cx} {W : WX} {c : Fr} {ρ : List Sl} {m : R D} {β : Type} {rest : List Stmt} {st : Stmt} {i : Nat} {fl : Fl}
theorem handB_eq {d : D} (h : handB d = true) : ∃ cs i j k l, handC cs i j k l = true ∧ d = handD cs i j k l := by
  unfold handB at h
  split at h
  · split at h
    · rename_i cs e
      exact ⟨cs, _, _, _, _, h, by unfold handD; rw [ints?_eq e]⟩
    · cases h
  · cases h
/-- name = the hand: the first statement of all; from here on a frame of its own -/
theorem s_hand {te : TE} {m2 : R D} (hps : PS X st (tAsg te (gName i))) (ht : ∀ σ H Q, tE X W c ρ .ra m σ H Q → te σ H Q) (hi : i < ρ.length) (no : ∀ a, ¬ c.hd a) (nw : ∀ (j : Nat) (d : D), ρ[j]? ≠ some (.ow d)) (nh : ∀ (j : Nat), ρ[j]? ≠ some .hd)
    {Tt : List (Addr × Str)} (hT : c.T = Tt) (hr : ∀ c' : Fr, c'.T = Tt → JX X W c' (ρ.set i .hd) rest m2 (KD X c' .sh)) : JX X W c ρ (st :: rest) (m.bind fun d => sealR d m2) (KD X c .sh) := by
  refine PSs.imp (pss_cons hps (pss_ex fun q : {c' : Fr // c'.T = Tt} => hr q.1 q.2)) fun Dn σ H q => ht σ H _ (Wd.mono (tX.wd q) fun d H' g q1 v rv => ?_)
  have sat := q1.2
  unfold sealR at sat
  split at sat
  · rename_i hb
    obtain ⟨cs, i1, j1, k1, l1, hc, rfl⟩ := handB_eq hb
    obtain ⟨a, rfl, hn, vs, hA, r⟩ := (show ∃ a, v = V.ref a ∧ Fre H a ∧ OwnAt X.bs H' (fun b => OA c ρ σ b ∨ b = a) (handD cs i1 j1 k1 l1) a from rv)
    obtain ⟨v0, _, rfl, r0, v1, _, rfl, r1, v2, _, rfl, r2, v3, _, rfl, r3, v4, _, rfl, r4, r5⟩ := r
    cases (show v1 = V.int i1 from r1)
    cases (show v2 = V.int j1 from r2)
    cases (show v3 = V.int k1 from r3)
    cases (show v4 = V.int l1 from r4)
    cases r5
    obtain ⟨p, ws, rfl, ⟨hP, nP⟩, r⟩ := r0
    have hp : HandP H' a p := ⟨cs, i1, j1, k1, l1, hc, hA, by rw [hP, r.ints]⟩
    have w := q.1
    have w' := q1.1
    have noin : ∀ b, ¬ inHand (ρ.set i .hd) (σ.set i (some (V.ref a))) b := by
      rintro b ⟨j, d, e1, _⟩
      rcases ix_set e1 with ⟨_, e, _⟩ | ⟨_, e⟩
      · cases e
      · exact nw j d e
    refine ⟨⟨⟨fun b => c.O0 b ∨ b = a, fun b => b = a, H', c.T, fun _ _ => False⟩, hT⟩, ⟨by rw [List.length_set, List.length_set]; exact w.len, fun j d e => ?_, fun j d e => ?_, fun j e => ?_, fun j u e => ((ix_set e).elim (fun z => by cases z.2.1) fun z => by rw [List.getElem?_set_ne z.1]; exact w.vas j u z.2), fun j k d e b e1 _ _ _ => ?_, fun b z => ?_, fun b z => .inr z, fun b z => ?_, Pg.refl _ _ _, fun b z => ⟨p, by rw [show b = a from z]; exact hp⟩, w'.tbs, fun _ _ z => z.elim, fun _ _ z => z.elim, fun _ _ z => z.elim, fun _ _ z => z.elim⟩, R.sat_mono sat (fun d z v H2 g2 r => z v H2 ?_ ?_) fun cl fs z x dd σ' H2 g2 ev => z x dd σ' H2 ?_ ev⟩
    · rcases ix_set e with ⟨_, e, _⟩ | ⟨n, e⟩
      · cases e
      · obtain ⟨u, e2, r⟩ := w.shs j d e
        refine ⟨u, by rw [List.getElem?_set_ne n]; exact e2, r.kp (.of fun b u t e nb => ⟨g.kp b u t e (no b), fun z => ?_⟩)⟩
        rcases z with (z | z) | z
        · exact nb (.inl z)
        · exact hn.no ⟨u, t, by rw [← z]; exact e⟩
        · exact noin b z
    · rcases ix_set e with ⟨_, e, _⟩ | ⟨_, e⟩
      · cases e
      · exact absurd e (nw j d)
    · rcases ix_set e with ⟨rfl, _, _⟩ | ⟨_, e⟩
      · exact ⟨a, by rw [List.getElem?_set_self (by rw [← w.len]; exact hi)], rfl⟩
      · exact absurd e (nh j)
    · rcases ix_set e1 with ⟨_, e, _⟩ | ⟨_, e⟩
      · cases e
      · exact absurd e (nw j d)
    · rcases z with z | rfl
      · exact w'.o0 b z
      · exact ⟨_, nt_lst, hA⟩
    · refine ⟨p, by rw [show b = a from z]; exact hp, fun y => nP ?_⟩
      rcases y with (y | y) | y
      · exact .inl (.inl y)
      · exact .inr y
      · exact (noin p y).elim
    · exact ⟨fun b u t e n => g2.kp b u t (w'.ext.kp b u t e n) fun z => (w.fresh hn).no ⟨u, t, by rw [← show b = a from z]; exact e⟩, fun b _ z => (no b z).elim, fun b h => g2.th b (w'.ext.th b h), fun h => g2.tb (w'.ext.tb h)⟩
    · exact Rep.less (fun b z => Or.inl z) (show Rep X.bs H2 (fun b => c.O0 b ∨ b = a) d v from r)
    · exact ⟨fun b u t e n => g2.kp b u t (w'.ext.kp b u t e n) fun z => (w.fresh hn).no ⟨u, t, by rw [← show b = a from z]; exact e⟩, fun b _ z => (no b z).elim, fun b h => g2.th b (w'.ext.th b h), fun h => g2.tb (w'.ext.tb h)⟩
  · exact (show False from sat).elim
end
end Ev


set_option Elab.async false
set_option linter.all false
set_option maxRecDepth 100000
/-! Ev, part L: calls of local names; lambdas handed to a def that tries them. -/
namespace Ev
open PySem PySem.Spec PyProof.Rows L2 LamX

section
variable {X : Cx} {W : WX} {c : Fr} {ρ : List Sl} {e : Expr} {es : List Expr} {ms : List (R D)} {pos p : Pos} {g : Bool} {k : Nat} {x : Str} {fl : Fl}
/-- f(..), the slot i holding one of some defs -/
theorem e_callL {tbl : List (String × (List D → R D))} {d : D} (i : Nat) {Tt : List (Addr × Str)} (hT : c.T = Tt) (M : ∀ n F, tbl.lookup n = some F → FnM X.prog X.w X.K X.mg X.base Tt g k (Str.ofString n) false ms.length fl F) (hr : Rm g k X.A) (tk : Takes X W) (ha : JAs X W c ρ (e :: es) ms) (hd : ρ[i]? = some (.sh d) := by rfl) (hN : X.N[i]? = some x := by rfl)
    (hv : Vis X.env.scope x := by first | exact Or.inl rfl | exact Or.inr (Or.inl rfl) | exact Or.inr (Or.inr rfl)) (hf : fl ≠ .bo := by intro h; cases h) (hdb : (x == ("__debug__" : Str)) = false := by decide) (hcd : (x == ("__classdict__" : Str)) = false := by decide)
    (he : starEach (e :: es) X.env = (false, eval e X.env) :: starEach es X.env := by rfl) (hpl : (backTo pos (starEach es X.env)).any (·.1) = false := by rfl) : JE X W c ρ fl (.Call (.Name x p) (e :: es) [] pos) (disp tbl d fun F => (args ms).bind F) := by
  subst hT
  refine ⟨fun pins s σ H Q I q => ?_⟩
  have key : ∃ n F, d = .fn n ∧ tbl.lookup n = some F := by
    have q2 := q.2
    unfold disp at q2
    split at q2
    · split at q2
      · rename_i n _ F hl
        exact ⟨n, F, rfl, hl⟩
      · exact (show False from q2).elim
    · exact (show False from q2).elim
  obtain ⟨n, F, rfl, hl⟩ := key
  have q : tE X W c ρ fl ((args ms).bind F) σ H Q := by
    have e1 : disp tbl (.fn n) (fun F => (args ms).bind F) = (args ms).bind F := by simp [disp, hl]
    rw [e1] at q
    exact q
  obtain ⟨f, fd, ps, Fn, hm, hk, hb⟩ := (M n F hl).ex
  obtain ⟨v, e2, a, rfl, hm2⟩ := q.1.shs i _ hd
  have hm2 : X.mg (Str.ofString n) = some (.ref a) := hm2
  rw [hm] at hm2
  cases hm2
  refine wpAny_Call_Name_kw (thn ((pe_var (pos := p) hN hv hdb hcd).run pins s σ H (fun v H1 => v = .ref f ∧ H1 = H) I ⟨.ref f, e2, rfl, rfl⟩) fun u s1 ⟨v, H1, I1, r1, e3, e4⟩ => ?_)
  subst e3 e4
  cases r1
  exact PySem.W.callWith_K (h₀ := X.base) I.ok.mod.kin hk (thn (ha.run pos pins s1 σ _ _ I1 (Wd.mono (call_read (h := false) hf q rfl) fun ds H2 g z vs r => z vs vs r rfl)) fun us s2 ⟨vs, H2, I2, r, q⟩ => ⟨I2.kIn, run_fd (E := WE W) Fn hr hb (passAt tk σ) I2 r q⟩) he hpl

/-! ### a lambda handed on -/
/-- what a def makes of the lambda that it gets: F of the lambda's result -/
def TTm (K : PySem.W.Frag) (mg : Str → Option Value) (T : List (Addr × Str)) (F : R D → R D) : (XK → Hp → VK → Prop) → Hp → VK → Prop := fun tl H Q => ∃ (hd O : Ad) (m : R D), (∀ a, O a → Thr H a) ∧ (∀ a, hd a → O a) ∧ (∀ a, hd a → ∃ p, HandP H a p ∧ ¬ O p) ∧ Tabs T H ∧
  (F m).sat (fun d => ∀ v H', Pg T hd H H' → Rep ⟨K, mg⟩ H' O d v → Q v H') (fun _ _ => False) ∧
  ∀ (E : XK) (H' : Hp) (Q' : VK), Pg T hd H H' → m.sat (fun d => ∀ v H2, Pg T hd H' H2 → Rep ⟨K, mg⟩ H2 O d v → Q' v H2) (fun cl fs => ∀ x dd H2, Pg T hd H' H2 → ExcV ⟨K, mg⟩ H2 cl fs x dd → E x dd H2) → tl E H' Q'
theorem extN_pg {T : List (Addr × Str)} {hd : Ad} {H H1 : Hp} (e : ExtN H H1) (t : Tabs T H1) : Pg T hd H H1 := ⟨fun a u n h _ => e a u h n, fun a p _ h => by
  obtain ⟨cs, i, j, k, l, c, h1, h2⟩ := h
  exact ⟨cs, i, j, k, l, c, e _ _ h1 nt_lst, e _ _ h2 nt_lst⟩, fun a ⟨u, n, h⟩ => ⟨u, n, e a u h n⟩, fun _ => t⟩
/-- h(lambda: body) -/
theorem e_lam {F : R D → R D} {m : R D} {Tt : List (Addr × Str)} {a : Str} {gA cA P : Addr} {pg : Arguments} {bg : List Stmt} {sg : Scope} {dV kV doc pm cdv ct oc : Value} {an od : Option Addr} {osl : Array (Option Value)} {Ng : List Str} {params : Arguments} {body : Expr} {scope : Scope} {lpos : Pos} (hT : c.T = Tt)
    (hg : Gl X x) (hm : X.mg x = some (.ref gA)) (hk : PySem.W.keepIn X.K (.ref gA) = true) (lk : X.K.lookup gA = some ⟨oc, od, .func (PySem.W.fnOf x x pg bg sg dV kV doc pm an cdv ct), osl⟩) (hcg : PySem.W.codeIn X.K cdv x = true) (hb : L2.Binds X.K (PySem.W.fnOf x x pg bg sg dV kV doc pm an cdv ct) [a] [])
    (Sg : FnScope Ng [a] sg) (hNg : Ng[0]? = some a) (hva : Vis sg a) (hG : GivesTo X Ng x sg gA cdv bg a (X.env.qual ++ "<lambda>") (TTm X.K X.mg Tt F)) (TB : TabB X.base X.mg cA P) (hcode : X.env.code = .ref cA) (hmT : (P, X.env.qual ++ "<lambda>") ∈ Tt) (hu : ∀ p ∈ Tt, p.1 = P → p.2 = X.env.qual ++ "<lambda>")
    (hr : Rm g (k + 2) X.A) (L : LamS X.env.scope scope) (hdef : defaultsOf params X.env = ([], [])) (hbind : ∀ (q : Str) (cl : List (Str × Addr)) (pm cv ctv : Value), bindArgs (PySem.W.kla_fn "<lambda>" q params body scope cl pm cv ctv) ⟨[], []⟩ = pure [])
    (hbody : ∀ (A : Around) (outer : List Env) (s : Shared) (H : Hp) (E : XK) (f c' : Addr), Rm false k (lamCx X A outer s H E scope f c').A → Takes (lamCx X A outer s H E scope f c') (WF E) → JE (lamCx X A outer s H E scope f c') (WF E) c ρ .sh body m)
    (hdb : (x == ("__debug__" : Str)) = false := by decide) (hd : (a == ("__debug__" : Str)) = false := by decide) (hcd : (a == ("__classdict__" : Str)) = false := by decide) : JE X W c ρ .sh (.Call (.Name x p) [.Lambda params body scope lpos] [] pos) (nx (F m)) := by
  subst hT
  refine PE.imp (pe_lamcall (t := fun E => tE X (WF E) c ρ .sh m) hg hm hk lk hcg hb Sg hNg hva hG TB hcode hmT hu hr.r L hdef hbind (fun A outer s H E f c' hr' => hbody A outer s H E f c' ⟨hr', fun z => by cases z⟩ (takes_of rfl rfl rfl rfl)) hdb hd hcd) fun σ H Q q => ⟨q.1.tbs, fun H1 eN T1 => ?_⟩
  have gp : Pg c.T c.hd H H1 := extN_pg eN T1
  have w1 := q.1.pg gp
  refine ⟨c.hd, OA c ρ σ, m, w1.thr, w1.hdO, w1.hds, T1, R.sat_mono (nx_sat q.2 (E' := fun _ _ => False)) (fun d z v H' g' r => z H' (gp.trans g') v r) fun _ _ z => z, fun E H' Q' g' sat => ⟨w1.pg g', R.sat_mono sat (fun d z H2 g2 v r => z v H2 g2 r) fun cl fs z x dd H2 g2 ev => z x dd H2 g2 ev⟩⟩
end

/-! ### the def that tries it -/
section
variable {B : Bs} {c : Fr} {ρ : List Sl} {σ : L2.St} {H : Hp} {i : Nat} {v : V}
theorem WI.setVa (w : WI B c ρ σ H) (hi : i < ρ.length) : WI B c (ρ.set i (.va v)) (σ.set i (some v)) H := by
  have ho : ∀ a, OA c (ρ.set i (.va v)) (σ.set i (some v)) a → OA c ρ σ a := fun a z => z.imp id (hand_set fun d e => by cases e)
  refine ⟨by rw [List.length_set, List.length_set]; exact w.len, fun j d' e => ?_, fun j d' e => ?_, fun j e => ?_, fun j u e => ?_, fun j k d' e' a e1 e2 e3 e4 => ?_, w.o0, w.hdo, fun a z => let ⟨p, q, n⟩ := w.hds a z; ⟨p, q, fun y => n (ho p y)⟩, w.ext, w.h00, w.tbs, w.snE, w.snT, fun Hs Os z a q => w.snO Hs Os z a (ho a q), w.snH⟩
  · rcases ix_set e with ⟨_, e, _⟩ | ⟨n, e⟩
    · cases e
    · obtain ⟨u, e1, r⟩ := w.shs j d' e
      exact ⟨u, by rw [List.getElem?_set_ne n]; exact e1, r.less ho⟩
  · rcases ix_set e with ⟨_, e, _⟩ | ⟨n, e⟩
    · cases e
    · obtain ⟨a, e1, r, f⟩ := w.ows j d' e
      exact ⟨a, by rw [List.getElem?_set_ne n]; exact e1, r.less ho, f⟩
  · rcases ix_set e with ⟨_, e, _⟩ | ⟨n, e⟩
    · cases e
    · obtain ⟨a, e1, f⟩ := w.hsl j e
      exact ⟨a, by rw [List.getElem?_set_ne n]; exact e1, f⟩
  · rcases ix_set e with ⟨rfl, e, _⟩ | ⟨n, e⟩
    · cases e
      rw [List.getElem?_set_self (by rw [← w.len]; exact hi)]
    · rw [List.getElem?_set_ne n]; exact w.vas j u e
  · rcases ix_set e1 with ⟨_, e, _⟩ | ⟨n, e1⟩
    · cases e
    · rcases ix_set e2 with ⟨_, e, _⟩ | ⟨n', e2⟩
      · cases e
      · rw [List.getElem?_set_ne n] at e3
        rw [List.getElem?_set_ne n'] at e4
        exact w.dj j k d' e' a e1 e2 e3 e4
end
section
variable {Z : Cx} {c : Fr} {ρ : List Sl} {m : R D} {α : Type} {K : Ends → α → Prop} {r : D → R α} {h : String → R α} {PF n : Str} {CP : Addr} {call : Expr} {b₀ : Stmt} {suite rest : List Stmt} {np pos pos' pos3 : Pos} {i : Nat} {tl : XK → Hp → VK → Prop} {f c' : Addr} {q : Str} {p : String → Bool}
/-- the lambda's call within the def that got it -/
def Acts (Z : Cx) (call : Expr) (f c' : Addr) (q : Str) (tl : XK → Hp → VK → Prop) : Prop := ∀ (W : WX) (pn : List (Addr × Obj)) (xe : Value → Shared → Prop) (E : XK), Takes (Z.tr pn xe) W → (∀ cls d σ' H', E cls d H' → W cls d σ' H') →
  PE (Z.tr pn xe) call fun σZ HZ Q => σZ[0]? = some (some (.ref f)) ∧ HZ c' = some (CodeO c' q) ∧ tl E HZ Q
/-- what the lambda is known to do -/
def Does (Z : Cx) (c : Fr) (m : R D) (tl : XK → Hp → VK → Prop) : Prop := ∀ (E : XK) (H' : Hp) (Q' : VK), Pg c.T c.hd c.H0 H' → m.sat (fun d => ∀ v H2, Pg c.T c.hd H' H2 → Rep Z.bs H2 c.O0 d v → Q' v H2) (fun cl fs => ∀ x dd H2, Pg c.T c.hd H' H2 → ExcV Z.bs H2 cl fs x dd → E x dd H2) → tl E H' Q'
theorem codeO_at (w : WI Z.bs c ρ σ H) (hc0 : c.H0 c' = some (CodeO c' q)) : H c' = some (CodeO c' q) := w.ext.kp c' _ (fun ps z => codeO_ne ps z) hc0 fun z => by
  obtain ⟨p, cs, i, j, k, l, _, e, _⟩ := w.h00 c' z
  rw [hc0] at e
  cases Option.some.inj e
theorem s_tryX (hs : Z.stack = Z.env :: Z.outer) (hf : Z.env.frame = some Z.env.locals) (hN : Z.N.Nodup) (hi : Z.N[i]? = some n) (hln : Z.env.kindOf n = some .local) (hPF : Names Z PF (.ref CP)) (act : Acts Z call f c' q tl) (does : Does Z c m tl) (hc0 : c.H0 c' = some (CodeO c' q)) (hρ : ρ[0]? = some (.va (.ref f))) (hlen : ρ.length = Z.N.length)
    (hp : ∀ cl C, p cl = true → Z.mg (Str.ofString cl) = some (.ref C) → PySem.W.exmOne Z.K (.ref C) (.ref CP) = some true)
    (hsu : ∀ (cl : String) (C a : Addr) (oe : Obj) (pn : List (Addr × Obj)), p cl = true → Z.mg (Str.ofString cl) = some (.ref C) → Zc (.ref C) none oe → (∃ vs, oe.data = .fields vs) → JX (Z.suite a ((a, oe) :: pn)) W0 c ((List.replicate Z.N.length Sl.no).set i (.va (.ref a))) (b₀ :: suite) (h cl) K)
    (hK : ∀ (Dn Dn' : Ends) (a : α), Dn'.rt = Dn.rt → K Dn a → K Dn' a)
    (hr : ∀ d, JX Z W0 c ρ rest (r d) K) (hr1 : ∀ d, r d = r .non) (hsw : swapsWith call none pos3.line Z.env = pure false := by rfl) :
    JX Z W0 c ρ (.Try [.Expr call pos3] [.ExceptHandler (some (.Name PF np)) (some n) (b₀ :: suite) pos'] [] [] pos :: rest) (tryX p m h r) K := by
  have hps := ps_try_as (X := Z) (c := .ref CP) (np := np) (pos := pos) (pos' := pos') (Wout := W0) (body := [.Expr call pos3]) (b₀ := b₀) (suite := suite)
    (tb := fun W D σ H => σ[0]? = some (some (V.ref f)) ∧ H c' = some (CodeO c' q) ∧ tl (fun cls d H' => ∀ σ', W cls d σ' H') H fun _ H' => D.nx σ H')
    (ts := fun a cls d D σ H => σ.length = Z.N.length → ∃ cl C, p cl = true ∧ cls = .ref C ∧ d = none ∧ Z.mg (Str.ofString cl) = some (.ref C) ∧ tX Z W0 c ((List.replicate Z.N.length Sl.no).set i (.va (.ref a))) (h cl) K D σ H)
    hs hf hN hi hln hPF L2.takes0 (fun W pn xe tk _ => PSs.imp (pss_one (ps_expr (act W pn xe (fun cls d H' => ∀ σ', W cls d σ' H') tk fun cls d σ' H' z => z σ') hsw)) fun D σ H z => z) (fun a oe cls d pn hz hv => ⟨fun pins s σ H D I z => ?_⟩)
  · refine PSs.imp (pss_cons hps (hr .non)) fun Dn σ H z => ?_
    have w := z.1
    have sat := tryX_sat z.2
    refine ⟨w.vas 0 _ hρ, codeO_at w hc0, does _ H _ w.ext (R.sat_mono sat (fun d y v H2 g2 _ => ⟨w.pg g2, by rw [← hr1 d]; exact y⟩) fun cl fs y x dd H2 g2 ev σ' => ?_)⟩
    obtain ⟨hpc, rfl, y⟩ := y
    obtain ⟨C, rfl, hmC, ev⟩ := ev
    have hdd : dd = none := by
      rcases ev with ⟨_, e⟩ | ⟨_, _, e, _⟩
      · exact e
      · exact absurd rfl e
    subst hdd
    refine ⟨true, hp cl C hpc hmC, fun _ a ha hl => ⟨cl, C, hpc, rfl, rfl, hmC, ?_, ?_⟩, fun z => by cases z⟩
    · have hl' : σ'.length = Z.N.length := by simpa using hl
      have hi' : i < (List.replicate Z.N.length Sl.no).length := by
        obtain ⟨q, _⟩ := List.getElem?_eq_some_iff.mp hi
        simpa using q
      exact ((w.pg g2).sub (ρ' := List.replicate Z.N.length Sl.no) (σ' := σ') (by rw [List.length_replicate, hl']) fun j s e => .inl (List.eq_of_mem_replicate (List.mem_of_getElem? e))).setVa hi'
    · exact R.sat_mono y (fun a z => hK Dn _ a rfl z) fun _ _ z => z
  · obtain ⟨cl, C, hpc, rfl, rfl, hmC, t⟩ := z I.len
    exact (hsu cl C a oe pn hpc hmC hz hv).run pins s σ H D I t
theorem kd_rt {X : Cx} {c : Fr} {fl : Fl} : ∀ (Dn Dn' : Ends) (d : D), Dn'.rt = Dn.rt → KD X c fl Dn d → KD X c fl Dn' d := fun Dn Dn' d e h => by
  unfold KD at h ⊢
  rw [e]; exact h
/-- the def that got the lambda, by its body -/
theorem gives_of {X : Cx} {Ng : List Str} {x a : Str} {sg : Scope} {gA : Addr} {cdg : Value} {bg : List Stmt} {Tt : List (Addr × Str)} {F : R D → R D} (h0 : 0 < Ng.length)
    (h : ∀ (f c' : Addr) (s : Shared) (H : Hp) (c : Fr) (m : R D) (tl : XK → Hp → VK → Prop), c.T = Tt → (∀ p1 p2 : Pos, Acts (cxOf C8.CX0 X.prog X.w X.K X.mg X.base Ng x sg gA cdg X.A X.stack s H C8.E0).nox (.Call (.Name a p1) [] [] p2) f c' q tl) → Does (cxOf C8.CX0 X.prog X.w X.K X.mg X.base Ng x sg gA cdg X.A X.stack s H C8.E0).nox c m tl → c.H0 c' = some (CodeO c' q) →
      JX (cxOf C8.CX0 X.prog X.w X.K X.mg X.base Ng x sg gA cdg X.A X.stack s H C8.E0).nox W0 c (.va (.ref f) :: List.replicate (Ng.length - 1) .no) bg (F m) (KD (cxOf C8.CX0 X.prog X.w X.K X.mg X.base Ng x sg gA cdg X.A X.stack s H C8.E0).nox c .sh)) :
    GivesTo X Ng x sg gA cdg bg a q (TTm X.K X.mg Tt F) := by
  intro f c' s H Q tl act hc ⟨hd, O, m, hO, hdO, hds, htb, sat, htl⟩
  refine ⟨_, h f c' s H ⟨O, hd, H, Tt, fun _ _ => False⟩ m tl rfl (fun p1 p2 W pn xe E tk hW => act W pn xe E p1 p2 tk hW) (fun E H' Q' g sat => htl E H' Q' g sat) hc, ?_, R.sat_mono sat (fun d z v H' g r => z v H' g r) fun _ _ z => z.elim⟩
  have noh : ∀ b, ¬ inHand (Sl.va (.ref f) :: List.replicate (Ng.length - 1) Sl.no) (L2.start Ng [V.ref f]) b := by
    rintro b ⟨i, d, e, _⟩
    cases i with
    | zero => cases e
    | succ i => cases List.eq_of_mem_replicate (List.mem_of_getElem? (by simpa using e : (List.replicate (Ng.length - 1) Sl.no)[i]? = some _))
  have only : ∀ {i : Nat} {s : Sl}, (Sl.va (.ref f) :: List.replicate (Ng.length - 1) Sl.no)[i]? = some s → (i = 0 ∧ s = .va (.ref f)) ∨ s = .no := fun {i s} e => by
    cases i with
    | zero => exact .inl ⟨rfl, (Option.some.inj e).symm⟩
    | succ i => exact .inr (List.eq_of_mem_replicate (List.mem_of_getElem? (by simpa using e : (List.replicate (Ng.length - 1) Sl.no)[i]? = some s)))
  have hOA : ∀ b, OA ⟨O, hd, H, Tt, fun _ _ => False⟩ (Sl.va (.ref f) :: List.replicate (Ng.length - 1) Sl.no) (L2.start Ng [V.ref f]) b → O b := fun b z => z.elim id fun z => (noh b z).elim
  refine ⟨?_, fun i d e => ?_, fun i d e => ?_, fun i e => ?_, fun i v e => ?_, fun i j d e b e1 _ _ _ => ?_, hO, hdO, fun b z => let ⟨p, q, n⟩ := hds b z; ⟨p, q, fun y => n (hOA p y)⟩, Pg.refl _ _ _, fun b z => let ⟨p, q, _⟩ := hds b z; ⟨p, q⟩, htb, fun _ _ z => z.elim, fun _ _ z => z.elim, fun _ _ z => z.elim, fun _ _ z => z.elim⟩
  · unfold L2.start
    simp
  · rcases only e with ⟨_, z⟩ | z <;> cases z
  · rcases only e with ⟨_, z⟩ | z <;> cases z
  · rcases only e with ⟨_, z⟩ | z <;> cases z
  · rcases only e with ⟨rfl, z⟩ | z
    · cases z; rfl
    · cases z
  · rcases only e1 with ⟨_, z⟩ | z <;> cases z
end
end Ev


set_option Elab.async false
set_option linter.all false
set_option maxRecDepth 100000
/-! Ev, part E: slices; count, index; list(range(..)); isinstance of what was caught. -/
namespace Ev
open PySem PySem.Spec PyProof.Rows L2

section
variable {X : Cx} {W : WX} {c : Fr} {ρ : List Sl} {e e2 : Expr} {m m2 : R D} {pos p p2 apos cpos : Pos}
/-! ### slices -/
def tPo (X : Cx) (W : WX) (c : Fr) (ρ : List Sl) (m : Option (R D)) : TO := fun σ H Q => Wd X W c ρ σ (part m) H Q
theorem PO.imp {e : Option Expr} {t u : TO} (h : PO X e t) (i : ∀ σ H Q, u σ H Q → t σ H Q) : PO X e u := ⟨fun pins s σ H Q I q => h.run pins s σ H Q I (i σ H Q q)⟩
theorem p_none : PO X none (tPo X W c ρ none) := PO.imp po_none fun σ H Q q => Wd.now q
theorem p_some (he : JE X W c ρ .bo e m) : PO X (some e) (tPo X W c ρ (some m)) :=
  PO.imp (po_some he) fun σ H Q q => by
    refine Wd.mono (Wd.bind (show Wd X W c ρ σ (m.bind _) H Q from q)) fun d H1 g q1 v rv => ?_
    cases d with
    | int i => cases bo_int rv; exact ⟨i, rfl, Wd.now (show Wd X W c ρ σ (.ok (some i)) H1 Q from q1)⟩
    | _ => exact q1.2.elim
theorem clip_eq (n d : Nat) (o : Option Int) : HT.sIx n d o = clip n d o := by cases o <;> rfl
theorem cutV_eq (xs : List V) (lo hi : Option Int) : cutV xs lo hi = cut xs lo hi := by
  unfold cutV cut
  rw [clip_eq, clip_eq]
theorem RepL.cut {B : Bs} {H : Hp} {O : Ad} {ds : List D} {vs : List V} (r : RepL B H O ds vs) (lo hi : Option Int) : RepL B H O (Ev.cut ds lo hi) (Ev.cut vs lo hi) := by
  unfold Ev.cut
  rw [r.length]
  exact (r.drop _).take _
def rSl (B : Bs) : V → Option Int → Option Int → Hp → VK → Prop := fun x lo hi H Q => ∃ (hd O : Ad) (a d : D), (∀ p, O p → ∃ u, H p = some u) ∧ RepX B hd H H O .bo a x ∧ sliceD a lo hi = .ok d ∧ ∀ v H', Gr H H' → RepX B hd H H' O .ra d v → Q v H'
theorem sl_any : SlR X (rSl X.bs) := by
  intro pins s σ H x v vl vu lo hi sl Q I rx hs pl pu h
  obtain ⟨hd, O, a, d, hO, ha, e, q⟩ := h
  unfold sliceD at e
  split at e
  · cases e
    obtain ⟨p, vs, rfl, h1, r1⟩ := bo_lst ha
    refine sl_list pins s σ H _ v vl vu lo hi sl Q I rx hs pl pu ⟨p, vs, rfl, .of h1, fun l hl => ?_⟩
    rw [cutV_eq]
    exact q _ _ (Gr.laid hl) (ra_lst hl (Gr.refl _) (r1.cut lo hi))
  · cases e
    obtain ⟨p, vs, rfl, h1, r1⟩ := bo_src ha
    refine sl_list pins s σ H _ v vl vu lo hi sl Q I rx hs pl pu ⟨p, vs, rfl, h1, fun l hl => ?_⟩
    rw [cutV_eq]
    exact q _ _ (Gr.laid hl) (ra_lst hl (Gr.refl _) (r1.cut lo hi))
  · cases e
    obtain ⟨p, vs, rfl, t1, h1, r1⟩ := bo_tup ha
    refine sl_tupX pins s σ H _ v vl vu lo hi sl Q I rx hs pl pu ⟨p, vs, rfl, h1, fun w => ?_, fun _ l ob hl d0 => ?_⟩
    · have e1 : ∀ {α : Type} (xs : List α), xs.length = vs.length → cut xs lo hi = xs := fun xs hx => by
        unfold cut
        rw [hx, ← clip_eq, ← clip_eq, w.1, w.2, List.drop_zero, Nat.sub_zero, ← hx, List.take_length]
      rw [e1 _ r1.length.symm] at q
      exact q _ H (Gr.refl _) ⟨p, vs, rfl, t1, r1⟩
    · rw [cutV_eq]
      exact q _ _ (Gr.laid hl) (ra_tup d0 hl hO (r1.cut lo hi))
  · rename_i z
    obtain ⟨e1, e2⟩ := if_ok e
    cases e2
    cases bo_str ha
    refine sl_str pins s σ H _ v vl vu lo hi sl Q I rx hs pl pu ⟨tx z, rfl, by rw [tx_len, ← SZ_eq]; exact e1, ?_⟩
    have : cutS (tx z) lo hi = tx (cut z lo hi) := by
      unfold cutS cut
      rw [tx_len, clip_eq, clip_eq]
    rw [this]
    exact q _ H (Gr.refl _) rfl
  · cases e
theorem sliceD_calm (d : D) (lo hi : Option Int) : Calm (sliceD d lo hi) := by
  unfold sliceD
  split <;> first | exact calm_ok | exact calm_stuck | exact calm_ite calm_ok calm_stuck
theorem e_slice {lo hi : Option Expr} {ml mh : Option (R D)} (he : JE X W c ρ .bo e m) (hl : PO X lo (tPo X W c ρ ml)) (hh : PO X hi (tPo X W c ρ mh)) : JE X W c ρ .ra (.Subscript e (.Slice lo hi none p2) pos) (sliceR m ml mh) :=
  PE.imp (pe_slice sl_any he hl hh) fun σ H Q q => by
    refine Wd.mono (Wd.bind q) fun d H1 g1 q1 x rx => ?_
    refine Wd.mono (Wd.bind q1) fun l H2 g2 q2 => ?_
    refine Wd.mono (Wd.bind q2) fun h H3 g3 q3 => ?_
    obtain ⟨r, er, k⟩ := q3.val (sliceD_calm d l h)
    exact ⟨c.hd, OA c ρ σ, d, r, q3.1.there, bo_at (RepX.pg (g2.trans g3) q1.1.hdO q.1.hth rx), er, fun v H' g r => k H' g.pg v (r.back fun _ => q.1.none (g1.trans (g2.trans g3)))⟩

/-! ### list(range(..)) -/
theorem rgV_eq (i j : Int) : ∀ {B : Bs} {H : Hp} {O : Ad}, RepL B H O (rngL i (j - i).toNat) (rgV i j) := fun {B H O} => by
  unfold rngL rgV
  have key : ∀ xs : List Nat, RepL B H O (xs.map fun n => D.int (i + (n : Nat))) (xs.map fun n => V.int (i + (n : Nat))) := by
    intro xs
    induction xs with
    | nil => exact rfl
    | cons n xs ih => exact ⟨_, _, rfl, rfl, ih⟩
  exact key _
theorem e_lrng2 (ha : JE X W c ρ .bo e m) (hb : JE X W c ρ .bo e2 m2) (hc : X.calm = true) (h1 : X.mg "list" = none) (h2 : X.mg "range" = none) (g1 : Gl X "list" := by rfl) (g2 : Gl X "range" := by rfl) (na : starEach [e, e2] X.env = (false, eval e X.env) :: starEach [e2] X.env := by rfl)
    (nb : starEach [e2] X.env = (false, eval e2 X.env) :: starEach [] X.env := by rfl) (hp : (backTo p2 (starEach [e2] X.env)).any (·.1) = false := by rfl)
    (nc : starEach [.Call (.Name "range" p) [e, e2] [] p2] X.env = (false, eval (.Call (.Name "range" p) [e, e2] [] p2) X.env) :: starEach [] X.env := by rfl) :
    JE X W c ρ .ra (.Call (.Name "list" apos) [.Call (.Name "range" p) [e, e2] [] p2] [] pos) (lrng (rng2 m m2)) :=
  PE.imp (pe_listRg hc g1 h1 (prg_2 g2 h2 ha hb na nb hp) nc) fun σ H Q q => by
    refine Wd.mono (Wd.bind (Wd.map q)) fun d H1 g1 q1 x rx => ?_
    refine Wd.mono (Wd.bind q1) fun d2 H2 g2 q2 y ry => ?_
    obtain ⟨xs, e, k⟩ := q2.val (rngD_calm d d2)
    unfold rngD at e
    split at e
    · obtain ⟨⟨⟨b1, b2, b3, b4⟩, b5⟩, e3⟩ := if_ok e
      cases e3
      cases bo_int rx
      cases bo_int ry
      exact ⟨_, _, rfl, rfl, ⟨b1, b2, b3, b4, b5⟩, fun l hl => k _ (Gr.laid hl).pg _ (RepX.back (fun _ => q.1.none (g1.trans g2)) (ra_lst hl (Gr.refl _) (rgV_eq _ _)))⟩
    · cases e
theorem e_lrng1 (ha : JE X W c ρ .bo e m) (hc : X.calm = true) (h1 : X.mg "list" = none) (h2 : X.mg "range" = none) (g1 : Gl X "list" := by rfl) (g2 : Gl X "range" := by rfl) (na : starEach [e] X.env = (false, eval e X.env) :: starEach [] X.env := by rfl)
    (nc : starEach [.Call (.Name "range" p) [e] [] p2] X.env = (false, eval (.Call (.Name "range" p) [e] [] p2) X.env) :: starEach [] X.env := by rfl) :
    JE X W c ρ .ra (.Call (.Name "list" apos) [.Call (.Name "range" p) [e] [] p2] [] pos) (lrng (rng1 m)) :=
  PE.imp (pe_listRg hc g1 h1 (prg_1 g2 h2 ha na) nc) fun σ H Q q => by
    refine Wd.mono (Wd.bind (Wd.map q)) fun d H1 g1 q1 x rx => ?_
    obtain ⟨xs, e, k⟩ := q1.val (rngD_calm (.int 0) d)
    unfold rngD at e
    split at e
    · rename_i i j ei
      obtain ⟨⟨⟨b1, b2, b3, b4⟩, b5⟩, e3⟩ := if_ok e
      cases ei
      cases e3
      cases bo_int rx
      exact ⟨_, rfl, ⟨b1, b2, b3, b4, b5⟩, fun l hl => k _ (Gr.laid hl).pg _ (RepX.back (fun _ => q.1.none g1) (ra_lst hl (Gr.refl _) (rgV_eq _ _)))⟩
    · cases e

/-! ### count, index -/
theorem onB_calm {f : List D → D → R D} (h : ∀ xs d, Calm (f xs d)) (a d : D) : Calm (onB f a d) := by
  unfold onB
  split <;> first | exact h _ _ | exact calm_stuck
theorem cntX_calm (xs : List D) (d : D) : Calm (cntX xs d) := by
  unfold cntX
  exact calm_ite calm_ok calm_stuck
theorem idxX_calm (xs : List D) (d : D) : Calm (idxX xs d) := by
  unfold idxX
  refine calm_ite ?_ calm_stuck
  split <;> first | exact calm_ok | exact calm_stuck
def rDM (B : Bs) (f : D → D → R D) : V → List V → Hp → VK → Prop := fun x xs H Q => ∃ (hd O : Ad) (a b d : D) (y : V), (∀ p, O p → ∃ u, H p = some u) ∧ xs = [y] ∧ RepX B hd H H O .bo a x ∧ RepX B hd H H O .bo b y ∧ f a b = .ok d ∧ ∀ v H', Gr H H' → RepX B hd H H' O .ra d v → Q v H'
theorem shaped60 {d : D} (f : flat 60 d = true) : SeqAt.shaped (toP d) = true := shaped_of (flat_up (by decide) f)
theorem shapedL {xs : List D} (f : flatL 60 xs = true) : SeqAt.shaped (.list (toPL xs)) = true := shaped_of (d := .lst xs) (flat_up (n := 61) (by decide) f)
theorem toPL_map : ∀ xs : List D, toPL xs = xs.map toP
  | [] => rfl
  | x :: xs => by rw [toPL, toPL_map xs]; rfl
theorem mt_idx (hu : X.A.units + 65 < cLine) : MtR X "list.index" (rDM X.bs (onL idxX)) := by
  intro pins s σ H x xs v us Q I rx rxs h
  obtain ⟨hd, O, a, b, d, y, hO, rfl, ha, hb, e, q⟩ := h
  unfold onL at e
  split at e
  · rename_i ds
    unfold idxX at e
    obtain ⟨⟨f1, f2⟩, e⟩ := if_ok e
    split at e
    · rename_i j hj
      cases e
      obtain ⟨hjl, hz, hno⟩ := List.findIdx?_eq_some_iff_getElem.mp hj
      obtain ⟨p, vs, rfl, h1, r1⟩ := bo_lst ha
      have hdp : Dp X.K H (V.ref p) (.list (toPL ds)) := bo_dp (n := 61) (d := .lst ds) f1 ha
      refine mt_indexD hu pins s σ H _ _ v us Q I rx rxs ⟨p, y, toP b, toPL ds, j, toP ds[j], rfl, rfl, hdp, bo_dp f2 hb, shapedL f1, shaped60 f2, ?_, ?_, fun m z' hm hz' => ?_, q _ H (Gr.refl _) rfl⟩
      · rw [toPL_map, List.getElem?_map, List.getElem?_eq_getElem hjl]; rfl
      · rw [eqv_toP (flatL_mem f1 _ (List.getElem_mem hjl)) f2]; exact hz
      · rw [toPL_map, List.getElem?_map, List.getElem?_eq_getElem (by omega)] at hz'
        cases hz'
        rw [eqv_toP (flatL_mem f1 _ (List.getElem_mem _)) f2]
        have := hno m hm
        simpa using this
    · cases e
  · cases e
theorem mt_cnt (hu : X.A.units + 65 < cLine) : MtR X "list.count" (rDM X.bs (onL cntX)) := by
  intro pins s σ H x xs v us Q I rx rxs h
  obtain ⟨hd, O, a, b, d, y, hO, rfl, ha, hb, e, q⟩ := h
  unfold onL at e
  split at e
  · rename_i ds
    unfold cntX at e
    obtain ⟨⟨f1, f2⟩, e⟩ := if_ok e
    cases e
    obtain ⟨p, vs, rfl, h1, r1⟩ := bo_lst ha
    cases rx
    obtain ⟨u, rfl, ru⟩ := rxs.one
    obtain ⟨bs, rb⟩ := Dp.reads I (toP b) y u (bo_dp f2 hb) ru
    have hdp : Dp X.K H (V.ref p) (.list (toPL ds)) := bo_dp (n := 61) (d := .lst ds) f1 ha
    cases hdp with
    | lst hs hall =>
      obtain ⟨its, rv, ⟨⟨cls, dd, data, sls⟩, n, ho, hc, hdn, hdt⟩, hlen⟩ := I.list hs
      simp only at hc hdt
      subst hc hdt
      obtain ⟨as, ra⟩ := Dp.readsAll I (toPL ds) _ its hall rv
      have lay : PyData.canLayAll0 (toPL ds) = true := SeqAt.canLay_of_shaped (shapedL f1)
      have hmap : its.map (SeqAt.readOf s.heap) = toPL ds := SeqAt.readsAll_map (toPL ds) its as lay ra
      have hroom : X.A.units + 1 + min (PyData.depthAll (toPL ds)) (toP b).depth < cLine := room_in_shaped (shaped60 f2) hu
      refine call_meets PySem.F.slot_list_count ⟨_, ho, rfl⟩ PySem.F.entry_list_count (PySem.F.args_list_count_2 _ _)
        (SeqAt.list_countAt p its.toArray n dd sls u (fun z => PyData.eqv (SeqAt.readOf s.heap z) (toP b))) ⟨ho, SeqAt.items_eqAt (vs := its.toArray) ra rb lay (SeqAt.canLay_of_shaped (shaped60 f2)) hroom, ?_⟩
      have hcount : its.toArray.toList.countP (fun z => PyData.eqv (SeqAt.readOf s.heap z) (toP b)) = ds.countP fun z => eqv z b := by
        have h2 : (its.map (SeqAt.readOf s.heap)).countP (fun z => PyData.eqv z (toP b)) = its.countP fun z => PyData.eqv (SeqAt.readOf s.heap z) (toP b) := by rw [List.countP_map]; rfl
        show its.countP _ = _
        rw [← h2, hmap, toPL_map, List.countP_map]
        refine List.countP_congr fun z hz => ?_
        show PyData.eqv (toP z) (toP b) = true ↔ _
        rw [eqv_toP (flatL_mem f1 z hz) f2]
      refine ⟨.int (ds.countP fun z => eqv z b : Nat), H, I.tok _, ⟨s.toks, ?_⟩, q _ H (Gr.refl _) rfl⟩
      rw [hcount]
  · cases e
theorem shapedT {xs : List D} (f : flatL 60 xs = true) : SeqAt.shaped (.tuple (toPL xs)) = true := shaped_of (d := .tup xs) (flat_up (n := 61) (by decide) f)
theorem mt_cntT (hu : X.A.units + 65 < cLine) : MtR X "tuple.count" (rDM X.bs (onT cntX)) := by
  intro pins s σ H x xs v us Q I rx rxs h
  obtain ⟨hd, O, a, b, d, y, hO, rfl, ha, hb, e, q⟩ := h
  unfold onT at e
  split at e
  · rename_i ds
    unfold cntX at e
    obtain ⟨⟨f1, f2⟩, e⟩ := if_ok e
    cases e
    obtain ⟨p, vs, rfl, t1, h1, r1⟩ := bo_tup ha
    cases rx
    obtain ⟨u, rfl, ru⟩ := rxs.one
    obtain ⟨bs, rb⟩ := Dp.reads I (toP b) y u (bo_dp f2 hb) ru
    have hdp : Dp X.K H (V.ref p) (.tuple (toPL ds)) := bo_dp (n := 61) (d := .tup ds) f1 ha
    cases hdp with
    | tup hs hall =>
      obtain ⟨its, rv, ⟨⟨cls, dd, data, sls⟩, ho, hc, n, hdt⟩, hlen⟩ := I.tuple hs
      simp only at hc hdt
      subst hc hdt
      obtain ⟨as, ra⟩ := Dp.readsAll I (toPL ds) _ its hall rv
      have lay := SeqAt.canLay_of_shaped (shapedL f1)
      have lay : PyData.canLayAll0 (toPL ds) = true := lay
      have hmap : its.map (SeqAt.readOf s.heap) = toPL ds := SeqAt.readsAll_map (toPL ds) its as lay ra
      have hroom := room_in_shaped (xs := toPL ds) (shaped60 f2) hu
      have hcount : its.countP (fun z => PyData.eqv (SeqAt.readOf s.heap z) (toP b)) = ds.countP fun z => eqv z b := by
        rw [show its.countP (fun z => PyData.eqv (SeqAt.readOf s.heap z) (toP b)) = (its.map (SeqAt.readOf s.heap)).countP fun z => PyData.eqv z (toP b) from by rw [List.countP_map]; rfl, hmap, toPL_map, List.countP_map]
        refine List.countP_congr fun z hz => ?_
        show PyData.eqv (toP z) (toP b) = true ↔ _
        rw [eqv_toP (flatL_mem f1 z hz) f2]
      refine call_meets PySem.F.slot_tuple_count ⟨_, ho, rfl⟩ PySem.F.entry_tuple_count (PySem.F.args_tuple_count_2 _ _) (SeqAt.tuple_countAt p its.toArray n dd sls u fun z => PyData.eqv (SeqAt.readOf s.heap z) (toP b))
        ⟨ho, SeqAt.items_eqAt (vs := its.toArray) ra rb lay (SeqAt.canLay_of_shaped (shaped60 f2)) hroom, .int (ds.countP fun z => eqv z b : Nat), H, I.tok _, ⟨s.toks, ?_⟩, q _ H (Gr.refl _) rfl⟩
      rw [← hcount]
  · cases e
theorem mt_idxT (hu : X.A.units + 65 < cLine) : MtR X "tuple.index" (rDM X.bs (onT idxX)) := by
  intro pins s σ H x xs v us Q I rx rxs h
  obtain ⟨hd, O, a, b, d, y, hO, rfl, ha, hb, e, q⟩ := h
  unfold onT at e
  split at e
  · rename_i ds
    unfold idxX at e
    obtain ⟨⟨f1, f2⟩, e⟩ := if_ok e
    split at e
    · rename_i j hj
      cases e
      obtain ⟨hjl, hz, hno⟩ := List.findIdx?_eq_some_iff_getElem.mp hj
      obtain ⟨p, vs, rfl, t1, h1, r1⟩ := bo_tup ha
      cases rx
      obtain ⟨u, rfl, ru⟩ := rxs.one
      obtain ⟨bs, rb⟩ := Dp.reads I (toP b) y u (bo_dp f2 hb) ru
      have hdp : Dp X.K H (V.ref p) (.tuple (toPL ds)) := bo_dp (n := 61) (d := .tup ds) f1 ha
      cases hdp with
      | tup hs hall =>
        obtain ⟨its, rv, ⟨⟨cls, dd, data, sls⟩, ho, hc, n, hdt⟩, hlen⟩ := I.tuple hs
        simp only at hc hdt
        subst hc hdt
        obtain ⟨as, ra⟩ := Dp.readsAll I (toPL ds) _ its hall rv
        have lay : PyData.canLayAll0 (toPL ds) = true := SeqAt.canLay_of_shaped (shapedL f1)
        have hmap : its.map (SeqAt.readOf s.heap) = ds.map toP := (SeqAt.readsAll_map (toPL ds) its as lay ra).trans (toPL_map ds)
        have hroom := room_in_shaped (xs := toPL ds) (shaped60 f2) hu
        have hlen2 : its.length = ds.length := by have := congrArg List.length hmap; simpa using this
        have at_ : ∀ (m : Nat) (hm : m < its.toArray.size) (hm2 : m < ds.length), PyData.eqv (SeqAt.readOf s.heap its.toArray[m]) (toP b) = eqv ds[m] b := fun m hm hm2 => by
          have e1 := congrArg (·[m]?) hmap
          simp only [List.getElem?_map] at e1
          rw [List.getElem?_eq_getElem (by simpa using hm), List.getElem?_eq_getElem hm2] at e1
          have e1 : SeqAt.readOf s.heap its[m] = toP ds[m] := Option.some.inj e1
          rw [← eqv_toP (flatL_mem f1 _ (List.getElem_mem hm2)) f2, ← e1]
          simp
        refine call_meets PySem.F.slot_tuple_index ⟨_, ho, rfl⟩ PySem.F.entry_tuple_index (PySem.F.args_tuple_index_2 _ _) (_root_.TI.tuple_indexAt p its.toArray n dd sls u (fun z => PyData.eqv (SeqAt.readOf s.heap z) (toP b)) j (by simpa using hlen2 ▸ hjl) ?_ ?_)
          ⟨ho, SeqAt.items_eqAt (vs := its.toArray) ra rb lay (SeqAt.canLay_of_shaped (shaped60 f2)) hroom, .int (j : Nat), H, I.tok _, ⟨s.toks, rfl⟩, q _ H (Gr.refl _) rfl⟩
        · exact (at_ j (by simpa using hlen2 ▸ hjl) hjl).trans hz
        · intro m hm hmj
          rw [at_ m hm (by omega)]
          have := hno m hmj
          simpa using this
    · cases e
  · cases e
/-- what stands there is a tuple without a dict -/
def tyT (K : PySem.W.Frag) (x : V) (H : Hp) : Prop := ∃ a xs, x = .ref a ∧ (XTup H a xs ∨ KTup K a xs)
theorem tyT_is {pins : List (Addr × Obj)} {σ : L2.St} {H : Hp} {s : Shared} {x : V} {v : Value} (I : Inv X pins σ H s) (r : RelV x v) (ty : tyT X.K x H) : s.TypeIs v "tuple" ∧ ∀ a, v = .ref a → ∃ ob, s.heap.get? a = some ob ∧ ob.dict = none := by
  obtain ⟨a, xs, rfl, t⟩ := ty
  cases r
  rcases t with ⟨o, h, d0⟩ | ⟨o, its, n, hk, hc, d0, _⟩
  · obtain ⟨h1, _, us, _, o2, h2, hc, _⟩ := (show ObjOk X.prog X.w H s.heap a (.frz o (.tup xs)) from I.hok a _ h)
    rw [h1] at h2
    cases h2
    exact ⟨⟨o, h1, hc⟩, fun b e => by cases e; exact ⟨o, h1, d0⟩⟩
  · exact ⟨⟨o, I.kIn a o hk, hc⟩, fun b e => by cases e; exact ⟨o, I.kIn _ o hk, d0⟩⟩
/-- x.m(e), x a list or a tuple -/
theorem pe_bmB {idL idT : String} {name : Str} {r1 r2 : V → List V → Hp → VK → Prop} {to : TE} {t : TA} (slL : PySem.Slot "list" name idL) (tyL : typeOf (.builtin idL) = pure (.type "method_descriptor")) (slT : PySem.Slot "tuple" name idT) (tyT_ : typeOf (.builtin idT) = pure (.type "method_descriptor")) (mL : MtR X idL r1) (mT : MtR X idT r2) (ho : PE X e to) (ha : PA X [e2] t)
    (hbase : attributeBase e name X.env (eval e X.env) = eval e X.env) (hfew : ((backTo cpos (starEach [e2] X.env)).all (fun x => !x.1) && (backToKw cpos (keywordEach [] X.env)).all (fun x => x.1.isSome) && decide ([e2].length + ([] : List Keyword).length + (if ([] : List Keyword).isEmpty then 0 else 1) < 30)) = true)
    (hline : (apos.endLine == cpos.line) = true) (hs : starEach [e2] X.env = (false, eval e2 X.env) :: starEach [] X.env) (hpl : (backTo cpos (starEach [] X.env)).any (·.1) = false) :
    PE X (.Call (.Attribute e name apos) [e2] [] cpos) (fun σ H Q => to σ H fun x H1 => (tyV X.K "list" x H1 ∧ t σ H1 fun xs H2 => r1 x xs H2 Q) ∨ (tyT X.K x H1 ∧ t σ H1 fun xs H2 => r2 x xs H2 Q)) := by
  refine ⟨fun pins s σ H Q I h => wpAny_Call_method_late hbase hfew hline rfl (thn (ho.run pins s σ H _ I h) fun v s1 ⟨x, H1, J, rx, q⟩ => ?_)⟩
  rcases q with ⟨ty, q⟩ | ⟨ty, q⟩
  · obtain ⟨h1, h2⟩ := tyV_is J rx ty
    refine ⟨"list", idL, PySem.F.plainAttrs_list, slL, tyL, h1, h2, ?_⟩
    have hA := ha.run cpos pins s1 σ H1 _ J q
    rw [hs] at hA ⊢
    exact Calls.callWith_builtin (by show (false || (backTo cpos (starEach [] X.env)).any (·.1)) = false; rw [hpl] <;> rfl) (Calls.evalArgs_plain (thn hA fun us s2 ⟨vs, H2, J2, rv, q2⟩ => mL pins s2 σ H2 x vs v us Q J2 rx rv q2))
  · obtain ⟨h1, h2⟩ := tyT_is J rx ty
    refine ⟨"tuple", idT, PySem.F.plainAttrs_tuple, slT, tyT_, h1, h2, ?_⟩
    have hA := ha.run cpos pins s1 σ H1 _ J q
    rw [hs] at hA ⊢
    exact Calls.callWith_builtin (by show (false || (backTo cpos (starEach [] X.env)).any (·.1)) = false; rw [hpl] <;> rfl) (Calls.evalArgs_plain (thn hA fun us s2 ⟨vs, H2, J2, rv, q2⟩ => mT pins s2 σ H2 x vs v us Q J2 rx rv q2))
theorem e_mthL {idL idT : String} {name : Str} {f : List D → D → R D} (slL : PySem.Slot "list" name idL) (tyL : typeOf (.builtin idL) = pure (.type "method_descriptor")) (slT : PySem.Slot "tuple" name idT) (tyT_ : typeOf (.builtin idT) = pure (.type "method_descriptor")) (mL : MtR X idL (rDM X.bs (onL f))) (mT : MtR X idT (rDM X.bs (onT f))) (hf : ∀ xs y, Calm (f xs y)) (ha : JE X W c ρ .bo e m) (hb : JE X W c ρ .bo e2 m2)
    (hbase : attributeBase e name X.env (eval e X.env) = eval e X.env := by rfl) (hfew : ((backTo cpos (starEach [e2] X.env)).all (fun x => !x.1) && (backToKw cpos (keywordEach [] X.env)).all (fun x => x.1.isSome) && decide ([e2].length + ([] : List Keyword).length + (if ([] : List Keyword).isEmpty then 0 else 1) < 30)) = true := by rfl)
    (hline : (apos.endLine == cpos.line) = true := by rfl) (hs : starEach [e2] X.env = (false, eval e2 X.env) :: starEach [] X.env := by rfl) (hpl : (backTo cpos (starEach [] X.env)).any (·.1) = false := by rfl) :
    JE X W c ρ .ra (.Call (.Attribute e name apos) [e2] [] cpos) (mthL (onB f) m m2) :=
  PE.imp (pe_bmB slL tyL slT tyT_ mL mT ha (pa_cons hb pa_nil hs) hbase hfew hline hs hpl) fun σ H Q q => by
    refine Wd.mono (Wd.bind q) fun d H1 g1 q1 x rx => ?_
    cases d with
    | lst ds =>
      have q1 : Wd X W c ρ σ (m2.bind fun y => f ds y) H1 _ := q1
      obtain ⟨a, vs, rfl, h1, _⟩ := bo_lst rx
      refine .inl ⟨.inl ⟨rfl, vs, .of h1⟩, Wd.mono (Wd.bind q1) fun d2 H2 g2 q2 y ry => ?_⟩
      obtain ⟨r, er, k⟩ := q2.val (hf _ _)
      exact ⟨c.hd, OA c ρ σ, .lst ds, d2, r, y, q2.1.there, rfl, bo_at (RepX.pg g2 q1.1.hdO q.1.hth rx), bo_at ry, er, fun v H' g r => k H' g.pg v (r.back fun _ => q.1.none (g1.trans g2))⟩
    | tup ds =>
      have q1 : Wd X W c ρ σ (m2.bind fun y => f ds y) H1 _ := q1
      obtain ⟨a, vs, rfl, t1, h1, _⟩ := bo_tup rx
      refine .inr ⟨⟨a, vs, rfl, t1.imp (·.1) id⟩, Wd.mono (Wd.bind q1) fun d2 H2 g2 q2 y ry => ?_⟩
      obtain ⟨r, er, k⟩ := q2.val (hf _ _)
      exact ⟨c.hd, OA c ρ σ, .tup ds, d2, r, y, q2.1.there, rfl, bo_at (RepX.pg g2 q1.1.hdO q.1.hth rx), bo_at ry, er, fun v H' g r => k H' g.pg v (r.back fun _ => q.1.none (g1.trans g2))⟩
    | _ => exact q1.2.elim
theorem e_count (hu : X.A.units + 65 < cLine) (ha : JE X W c ρ .bo e m) (hb : JE X W c ρ .bo e2 m2) (hbase : attributeBase e "count" X.env (eval e X.env) = eval e X.env := by rfl) (hfew : ((backTo cpos (starEach [e2] X.env)).all (fun x => !x.1) && (backToKw cpos (keywordEach [] X.env)).all (fun x => x.1.isSome) && decide ([e2].length + ([] : List Keyword).length + (if ([] : List Keyword).isEmpty then 0 else 1) < 30)) = true := by rfl)
    (hline : (apos.endLine == cpos.line) = true := by rfl) (hs : starEach [e2] X.env = (false, eval e2 X.env) :: starEach [] X.env := by rfl) (hpl : (backTo cpos (starEach [] X.env)).any (·.1) = false := by rfl) : JE X W c ρ .ra (.Call (.Attribute e "count" apos) [e2] [] cpos) (mthL countD m m2) :=
  e_mthL PySem.F.slot_list_count PySem.F.type_list_count PySem.F.slot_tuple_count PySem.F.type_tuple_count (mt_cnt hu) (mt_cntT hu) cntX_calm ha hb hbase hfew hline hs hpl
theorem e_index (hu : X.A.units + 65 < cLine) (ha : JE X W c ρ .bo e m) (hb : JE X W c ρ .bo e2 m2) (hbase : attributeBase e "index" X.env (eval e X.env) = eval e X.env := by rfl) (hfew : ((backTo cpos (starEach [e2] X.env)).all (fun x => !x.1) && (backToKw cpos (keywordEach [] X.env)).all (fun x => x.1.isSome) && decide ([e2].length + ([] : List Keyword).length + (if ([] : List Keyword).isEmpty then 0 else 1) < 30)) = true := by rfl)
    (hline : (apos.endLine == cpos.line) = true := by rfl) (hs : starEach [e2] X.env = (false, eval e2 X.env) :: starEach [] X.env := by rfl) (hpl : (backTo cpos (starEach [] X.env)).any (·.1) = false := by rfl) : JE X W c ρ .ra (.Call (.Attribute e "index" apos) [e2] [] cpos) (mthL indexD m m2) :=
  e_mthL PySem.F.slot_list_index PySem.F.type_list_index PySem.F.slot_tuple_index PySem.F.type_tuple_index (mt_idx hu) (mt_idxT hu) idxX_calm ha hb hbase hfew hline hs hpl

/-! ### in -/
theorem inL_eq {d : D} {xs : List D} (f1 : flat 60 d = true) (f2 : flatL 60 xs = true) : ((toPL xs).any fun z => PyData.eqv z (toP d)) = anyEq d xs := by
  unfold anyEq
  rw [toPL_map, List.any_map]
  induction xs with
  | nil => rfl
  | cons x xs ih =>
    rw [flatL_cons, Bool.and_eq_true] at f2
    rw [List.any_cons, List.any_cons, ih f2.2]
    show (PyData.eqv (toP x) (toP d) || _) = _
    rw [eqv_toP f2.1 f1]
def atomD : D → Bool
  | .non => true | .bl _ => true | .int _ => true | .str _ => true
  | _ => false
def vOf : D → V
  | .bl b => .bl b
  | .int i => .int i
  | .str x => .str (tx x)
  | _ => .non
theorem atom_rep {B : Bs} {H : Hp} {O : Ad} {d : D} {v : V} (h : atomD d = true) (r : Rep B H O d v) : v = vOf d ∧ flatV v = true := by
  cases d with
  | non => cases (show v = V.non from r); exact ⟨rfl, rfl⟩
  | bl b => cases (show v = V.bl b from r); exact ⟨rfl, rfl⟩
  | int i => cases (show v = V.int i from r); exact ⟨rfl, rfl⟩
  | str x => cases (show v = V.str (tx x) from r); exact ⟨rfl, rfl⟩
  | _ => cases h
theorem atom_eq {d e : D} (h : atomD d = true) (h2 : atomD e = true) : eqV (vOf d) (vOf e) = eqv d e := by
  cases d <;> cases e <;> first | (cases h; done) | (cases h2; done) | skip
  all_goals simp [vOf, eqV, eqv, b2n]
  rename_i a b
  rw [Bool.eq_iff_iff, beq_iff_eq, beq_iff_eq]
  exact ⟨fun z => by injection z with z; exact Array.toList_inj.mpr z |>.trans rfl |> fun q => by simpa using q, fun z => by rw [z]⟩
theorem atom_any {B : Bs} {H : Hp} {O : Ad} {d : D} (h : atomD d = true) : ∀ {xs : List D} {vs : List V}, xs.all atomD = true → RepL B H O xs vs → vs.all flatV = true ∧ inV (vOf d) vs = anyEq d xs
  | [], vs, _, r => by cases (show vs = [] from r); exact ⟨rfl, rfl⟩
  | x :: xs, vs, hx, r => by
    obtain ⟨v, vr, rfl, r1, r2⟩ := (show ∃ v vr, _ from r)
    rw [List.all_cons, Bool.and_eq_true] at hx
    obtain ⟨e1, f1⟩ := atom_rep hx.1 r1
    obtain ⟨f2, e2⟩ := atom_any h hx.2 r2
    refine ⟨by rw [List.all_cons, f1, f2]; rfl, ?_⟩
    subst e1
    show (eqV (vOf x) (vOf d) || inV (vOf d) vr) = (eqv x d || anyEq d xs)
    rw [atom_eq hx.1 h, e2]
/-- x in a list, a text, a tuple of atoms -/
def inLD : D → D → R D
  | .str [c], .str y => .ok (.bl (y.contains c))
  | a, .lst xs => if flat 60 a = true ∧ flatL 60 xs = true then .ok (.bl (anyEq a xs)) else .stuck
  | a, .tup xs => if atomD a = true ∧ xs.all atomD = true then .ok (.bl (anyEq a xs)) else .stuck
  | _, _ => .stuck
def ninLD (a b : D) : R D := (inLD a b).bind fun d => match d with
  | .bl k => .ok (.bl (!k))
  | _ => .stuck
theorem inLD_calm (a b : D) : Calm (inLD a b) := by
  unfold inLD
  split <;> first | exact calm_ok | exact calm_stuck | exact calm_ite calm_ok calm_stuck
theorem ninLD_calm (a b : D) : Calm (ninLD a b) := calm_bind (inLD_calm a b) fun d => by split <;> first | exact calm_ok | exact calm_stuck
theorem inLD_bl : Blf inLD := fun x y d h => by
  unfold inLD at h
  split at h
  · cases h; exact ⟨_, rfl⟩
  · obtain ⟨_, e⟩ := if_ok h
    cases e; exact ⟨_, rfl⟩
  · obtain ⟨_, e⟩ := if_ok h
    cases e; exact ⟨_, rfl⟩
  · cases h
theorem ninLD_bl : Blf ninLD := fun x y d h => by
  obtain ⟨a, e, q⟩ := R.bind_ok' h
  obtain ⟨k, rfl⟩ := inLD_bl _ _ _ e
  cases q; exact ⟨_, rfl⟩
theorem o_in (hu : X.A.units + 65 < cLine) : OpR X (compareOp .In) (rD2 X.bs inLD) := by
  intro pins s σ H x y v u Q I rx ry h
  obtain ⟨hd, O, a, b, d, hO, ha, hb, e, q⟩ := h
  unfold inLD at e
  split at e
  · rename_i cc z
    cases e
    cases bo_str ha
    cases bo_str hb
    refine op_in_sign pins s σ H _ _ v u Q I rx ry ⟨cc, tx z, rfl, rfl, ?_⟩
    have : decide (cc ∈ (tx z).cps.toList) = z.contains cc := by simp
    rw [this]
    exact q _ H (Gr.refl _) rfl
  · rename_i xs
    obtain ⟨⟨f1, f2⟩, e⟩ := if_ok e
    cases e
    have hdp : Dp X.K H y (.list (toPL xs)) := bo_dp (n := 61) (d := .lst xs) f2 hb
    refine op_inD hu pins s σ H _ _ v u Q I rx ry ⟨toP a, toPL xs, bo_dp f1 ha, hdp, shaped60 f1, shapedL f2, ?_⟩
    rw [inL_eq f1 f2]
    exact q _ H (Gr.refl _) rfl
  · rename_i xs
    obtain ⟨⟨f1, f2⟩, e⟩ := if_ok e
    cases e
    obtain ⟨p, vs, rfl, _, h1, r1⟩ := bo_tup hb
    have ra : x = vOf a ∧ flatV x = true := by
      rcases ha with ha | ⟨b, _, ha, _⟩
      · exact atom_rep f1 ha
      · cases a <;> first | (cases f1; done) | exact ha.elim
    obtain ⟨f3, e3⟩ := atom_any f1 f2 r1
    refine op_in_seq pins s σ H _ _ v u Q I rx ry ⟨p, vs, rfl, .inr h1, ra.2, f3, ?_⟩
    rw [ra.1]
    show Q (.bl (inV (vOf a) vs)) H
    rw [e3]
    exact q _ H (Gr.refl _) rfl
  · cases e
theorem o_nin (hu : X.A.units + 65 < cLine) : OpR X (compareOp .NotIn) (rD2 X.bs ninLD) := by
  intro pins s σ H x y v u Q I rx ry h
  obtain ⟨hd, O, a, b, d, hO, ha, hb, e, q⟩ := h
  obtain ⟨d0, e, e0⟩ := R.bind_ok' e
  unfold inLD at e
  split at e
  · rename_i cc z _
    cases e
    cases e0
    cases bo_str ha
    cases bo_str hb
    refine op_notIn_sign pins s σ H _ _ v u Q I rx ry ⟨cc, tx z, rfl, rfl, ?_⟩
    have : decide (cc ∈ (tx z).cps.toList) = z.contains cc := by simp
    rw [this]
    exact q _ H (Gr.refl _) rfl
  · rename_i xs _
    obtain ⟨⟨f1, f2⟩, e⟩ := if_ok e
    cases e
    cases e0
    have hdp : Dp X.K H y (.list (toPL xs)) := bo_dp (n := 61) (d := .lst xs) f2 hb
    refine op_notInD hu pins s σ H _ _ v u Q I rx ry ⟨toP a, toPL xs, bo_dp f1 ha, hdp, shaped60 f1, shapedL f2, ?_⟩
    rw [inL_eq f1 f2]
    exact q _ H (Gr.refl _) rfl
  · rename_i xs _
    obtain ⟨⟨f1, f2⟩, e⟩ := if_ok e
    cases e
    cases e0
    obtain ⟨p, vs, rfl, _, h1, r1⟩ := bo_tup hb
    have ra : x = vOf a ∧ flatV x = true := by
      rcases ha with ha | ⟨b, _, ha, _⟩
      · exact atom_rep f1 ha
      · cases a <;> first | (cases f1; done) | exact ha.elim
    obtain ⟨f3, e3⟩ := atom_any f1 f2 r1
    refine op_notIn_seq pins s σ H _ _ v u Q I rx ry ⟨p, vs, rfl, .inr h1, ra.2, f3, ?_⟩
    rw [ra.1]
    show Q (.bl (!inV (vOf a) vs)) H
    rw [e3]
    exact q _ H (Gr.refl _) rfl
  · cases e

/-! ### isinstance of what was caught -/
theorem call_isEg {Z : Cx} {a C : Addr} {oe : Obj} (hpn : (a, oe) ∈ Z.pn) (hC : ExcC Z.K C) (hz : Zc (.ref C) none oe) (hf : ∃ vs, oe.data = .fields vs) : CallR Z (.builtin "isinstance") (rIsE Z.K C a) := by
  intro pins s σ H xs us Q I r h
  obtain ⟨c, cv, b, rfl, hcv, e, q⟩ := h
  obtain ⟨_, _, rfl, rx, rt⟩ := (show ∃ u1 u2, us = [u1, u2] ∧ RelV (.ref a) u1 ∧ RelV c u2 from by
    cases r with
    | cons r1 rr =>
      cases rr with
      | cons r2 rr =>
        cases rr
        exact ⟨_, _, rfl, r1, r2⟩)
  cases rx
  cases hcv _ rt
  obtain ⟨hget, _⟩ := I.pin (a, oe) (List.mem_append.mpr (.inl hpn))
  have J : PySem.W.InstAt s.heap a oe C none := by
    obtain ⟨vs, hv⟩ := hf
    obtain ⟨oc, od, oda, osl⟩ := oe
    obtain ⟨h1, h2⟩ := hz
    dsimp only at h1 h2 hv
    subst h1 h2 hv
    exact ⟨hget, rfl, rfl, trivial⟩
  exact PySem.W.kia_one (PySem.W.handS_kitx_exc hC.hg hC.hk hC.hs hC.hd hC.ha hC.hn hC.ht hC.hm) I.kIn J e (fun z => nomatch z) fun tk => ⟨.bl b, H, I.kept (t' := tk) fun _ _ z => z, rfl, q⟩
theorem e_isE {Z : Cx} {a C : Addr} {oe : Obj} {y : Str} {py : Pos} {cV : V} {cv : Value} {b : Bool} {x z : Str} (i : Nat) (hz : Zc (.ref C) none oe) (hv : ∃ vs, oe.data = .fields vs) (hC : ExcC Z.K C) (hk : PySem.W.kitOne Z.K (.ref C) cv = some b) (hcv : ∀ u, RelV cV u → u = cv)
    (h2 : PE Z (.Name z p2) (tC cV)) (hm : Z.mg "isinstance" = none) (hx : x = "isinstance" := by rfl) (hg : Gl Z x := by rfl) (hi : ρ[i]? = some (.va (.ref a)) := by rfl) (hN : Z.N[i]? = some y := by rfl) (hvis : Vis Z.env.scope y := by first | exact Or.inl rfl | exact Or.inr (Or.inl rfl) | exact Or.inr (Or.inr rfl)) (hpn : (a, oe) ∈ Z.pn := by exact List.mem_cons_self)
    (h1 : (y == ("__debug__" : Str)) = false := by decide) (h1' : (y == ("__classdict__" : Str)) = false := by decide) (he : starEach [.Name y py, .Name z p2] Z.env = (false, eval (.Name y py) Z.env) :: starEach [.Name z p2] Z.env := by rfl) (he2 : starEach [.Name z p2] Z.env = (false, eval (.Name z p2) Z.env) :: starEach [] Z.env := by rfl) (hpl : (backTo pos (starEach [.Name z p2] Z.env)).any (·.1) = false := by rfl) :
    JE Z W c ρ .ra (.Call (.Name x p) [.Name y py, .Name z p2] [] pos) (.ok (.bl b)) := by
  subst hx
  refine PE.imp (pe_callB (call_isEg hpn hC hz hv) hg hm boot_isinstance (pa_cons (pe_var hN hvis h1 h1') (pa_cons h2 pa_nil he2) he) (by decide) (by decide) he hpl) fun σ H Q q => ?_
  exact ⟨_, q.1.vas i _ hi, cV, cv, b, rfl, hcv, hk, q.now _ rfl⟩
end
end Ev


set_option Elab.async false
set_option linter.all false
set_option maxRecDepth 100000
/-! Ev, part U: sorted(set(..)) of whole numbers. -/
namespace Ev
open PySem PySem.Spec PyProof.Rows L2
/-- an empty set's object -/
abbrev eSet (w : World) : Obj := { cls := .type "set", dict := none, data := .set #[] 0 (.fresh 0 0 (!w.params.followText "set-order")) }
section
variable {P : Program} {w : World} {A : Around} {E : Value → Shared → Prop} {s : Shared}
set_option maxHeartbeats 3200000 in
/-- set(xs), xs a list of ints -/
theorem call_setL {l : Addr} {items : Array Value} (ns : List Int) {Q : Value → Shared → Prop} (hh : A.handled = none) (hl : s.heap.IsList l items) (hit : IntsAre items.toList ns) (room : ns.length + 1 < scanBound)
    (fin : ∀ (h' : Heap) (tk c : Nat), SetR w h' s.heap.objs.size (fun j => decide (j ∈ ns)) c → c ≤ ns.length → (∀ b o, s.heap.get? b = some o → h'.get? b = some o) → Q (.ref s.heap.objs.size) { s with heap := h', toks := tk }) :
    wpAny (model P w) A (call (.type "set") [.ref l]) Q E s := by
  have size : items.size = ns.length := by rw [← Array.length_toList]; exact IntsAre.length hit
  obtain ⟨c, tl, hmro⟩ := F.called_set.mro
  have f1 := F.called_set.made
  have f2 := F.called_set.sub
  have f3 := F.called_set.notType
  have f4 := F.called_set.canCreate
  have f5 := F.typeCall_set_1 (.ref l)
  refine wpAny_call (codeAny_of_tree (show wpAny _ _ (callAny (.type "set") _) _ _ _ from wpAny_pure ⟨Code.quiet_builtin _ (by decide +kernel), codeAny_builtin F.entry_type_call ?_⟩))
  rw [Around.under_plain (weight_type_call_type "set" [.ref l] []) rfl]
  repeat (any_goals (first | assumption | wp_step))
  refine codeAny_mono (code_set_led1 (.ref l) (E := E) (Q₁ := fun obj s₁ => obj = .ref s.heap.objs.size ∧ s₁ = { s with heap := s.heap.push (eSet w) }) ⟨rfl, rfl⟩) fun r s₁ hr => ?_
  match r, hr with
  | .error e, hr => exact hr
  | .ok .next, hr => exact hr.elim
  | .ok .brk, hr => exact hr.elim
  | .ok .cont, hr => exact hr.elim
  | .ok (.ret obj), hr =>
    obtain ⟨rfl, rfl⟩ := hr
    have hS : (s.heap.push (eSet w)).get? s.heap.objs.size = some (eSet w) := Heap.get?_push_size _ rfl
    have hT : Shared.TypeIs { s with heap := s.heap.push (eSet w) } (.ref s.heap.objs.size) "set" := ⟨_, hS, rfl⟩
    have f6 := F.called_set.init.lookup
    have f7 := F.called_set.init.bind (.ref s.heap.objs.size)
    repeat (any_goals (first | assumption | wp_step))
    refine codeAny_mono (codeAny_call_builtin (R := wants (fun r s₂ => r = .none ∧ ∃ h' tk c, s₂ = { s with heap := h', toks := tk } ∧ SetR w h' s.heap.objs.size (fun j => decide (j ∈ ns)) c ∧ c ≤ ns.length ∧ ∀ b o, s.heap.get? b = some o → h'.get? b = some o) E) F.called_set.init.plain F.entry_set_init (check_set_init_1 hT ?_)) fun r₂ s₂ hr₂ => ?_
    · obtain ⟨⟨_, odict, _, oslots⟩, hol, hcl, nl, hdl⟩ := hl
      cases hcl
      cases hdl
      have hol' : (s.heap.push (eSet w)).get? l = some { cls := .type "list", dict := odict, data := .seq items nl, slots := oslots } := Heap.get?_push_of_some _ hol
      have g1 := F.sub_list_set
      have g2 := F.sub_list_frozenset
      have g3 : (Value.type "list" == Value.type "dict") = false := by decide
      have hl1 : (s.heap.push (eSet w)).IsList l items := ⟨_, hol', rfl, nl, rfl⟩
      unfold Builtin.«set.__init__» noKeywords Builtin.Frozenset.updateFrom
      generalize hPI : pyIter = PI
      wp_walk
      subst hPI
      refine wpAny_pyIter_list hl1 (wpAny_bind (wpAny_runValue ?_))
      have hlS : l < s.heap.objs.size := Heap.lt_size hol
      have hsz : (s.heap.push (eSet w)).objs.size = s.heap.objs.size + 1 := Heap.size_push ..
      have hneI : l ≠ (s.heap.push (eSet w)).objs.size := by rw [hsz]; exact Nat.ne_of_lt (Nat.lt_succ_of_lt hlS)
      have notin : s.heap.objs.size ∉ [(s.heap.push (eSet w)).objs.size, l] := by
        rw [hsz]
        simp only [List.mem_cons, List.not_mem_nil, or_false, not_or]
        exact ⟨Nat.ne_of_lt (Nat.lt_succ_self _), Nat.ne_of_gt hlS⟩
      have hval : ∀ (i : Nat) (v : Value), items[i]? = some v → ∃ k t, ns[i]? = some k ∧ v = .int k t := fun i v hv => by
        have hi : i < ns.length := by rw [← size]; exact (Array.getElem?_eq_some_iff.mp hv).1
        obtain ⟨t, e⟩ := PyProof.Rows.IntsAre.int_at hit i v (by rw [Array.getElem?_toList]; exact hv)
        exact ⟨ns[i], t, List.getElem?_eq_getElem hi, by rw [e, List.getD_eq_getElem?_getD, List.getElem?_eq_getElem hi]; rfl⟩
      refine set_update_ints ((Walks.list (by simp [hh]) _ l hneI items).toS) s.heap.objs.size notin ns size room hval (items.size - 0) 0 _ (by omega) (Nat.zero_le _) ⟨⟨_, Heap.get?_push_size _ rfl, rfl, rfl⟩, hl1.push _⟩ ⟨0, Nat.le_refl 0, setR_new_at (Heap.get?_push_of_some _ hS)⟩ fun s' c' hm hc' hS' => ?_
      obtain ⟨h', g2', d', tk', os'⟩ := s'
      cases (show g2' = s.gens from hm.gens)
      cases (show d' = s.drawn from hm.drawn)
      cases (show os' = s.os from hm.os)
      refine wpAny_pure (show wpAny _ _ (ret Value.none) _ _ _ from wpAny_pure ⟨rfl, h', tk', c', rfl, hS', by rw [← size]; exact hc', fun b o e => ?_⟩)
      have hb := Heap.lt_size e
      refine hm.heap b o ?_ (Heap.get?_push_of_some _ (Heap.get?_push_of_some _ e))
      rw [hsz]
      simp only [List.mem_cons, List.not_mem_nil, or_false, not_or]
      exact ⟨Nat.ne_of_lt hb, Nat.ne_of_lt (Nat.lt_succ_of_lt hb)⟩
    · match r₂, hr₂ with
      | .error e, hr₂ => exact hr₂
      | .ok .next, hr₂ => exact hr₂.elim
      | .ok .brk, hr₂ => exact hr₂.elim
      | .ok .cont, hr₂ => exact hr₂.elim
      | .ok (.ret r), hr₂ =>
        obtain ⟨rfl, h', tk, c', rfl, hS', hc', hk'⟩ := hr₂
        repeat (any_goals (first | assumption | wp_step))
        exact fin _ _ _ hS' hc' hk'
end

end Ev


set_option Elab.async false
set_option linter.all false
set_option maxRecDepth 100000
/-! Ev, part V: sorted(set(..)) computes. -/
namespace Ev
open PySem PySem.Spec PyProof.Rows L2
/-! ### the set of a list, a tuple; sorted -/
section
variable {X : Cx}
def rSetI (B : Bs) (w : World) : List V → Hp → VK → Prop := fun xs H Q => ∃ (a : Addr) (ns : List Int), xs = [.ref a] ∧ (SqL B.K H a (ns.map V.int) ∨ SqT B.K H a (ns.map V.int)) ∧ ns.length < 4000 ∧ ∀ p c, H p = none → c ≤ ns.length → Q (.ref p) (L2.upd H p (SetO w p (fun j => decide (j ∈ ns)) c))
theorem c_setI (hc : X.calm = true) : CallR X (.type "set") (rSetI X.bs X.w) := by
  intro pins s σ H xs us Q I r h
  obtain ⟨a, ns, rfl, hs, hl, q⟩ := h
  rw [Vals.ref1 r]
  have room : ns.length + 1 < scanBound := by
    have : (4001 : Nat) < scanBound := by decide
    omega
  have done : ∀ (h' : Heap) (tk c : Nat), SetR X.w h' s.heap.objs.size (fun j => decide (j ∈ ns)) c → c ≤ ns.length → (∀ b o, s.heap.get? b = some o → h'.get? b = some o) → ∃ v H1, Inv X pins σ H1 { s with heap := h', toks := tk } ∧ RelV v (.ref s.heap.objs.size) ∧ Q v H1 := fun h' tk c R le k =>
    ⟨.ref s.heap.objs.size, L2.upd H s.heap.objs.size (SetO X.w s.heap.objs.size (fun j => decide (j ∈ ns)) c), I.laid (t' := tk) k (Nat.le_refl _) (setO_new R), rfl, q _ c (I.hok.fresh (Nat.le_refl _)) le⟩
  rcases hs with hs | hs
  · obtain ⟨its, rv, pl, hz⟩ := I.list hs
    exact call_setL ns (I.ok.hd hc) pl.isList (by simpa using ints_of_vals rv) room done
  · obtain ⟨its, rv, pl, hz⟩ := I.tuple hs
    exact call_set_tupI ns (I.ok.hd hc) (show s.heap.IsTuple a its.toArray from pl) (by simpa using ints_of_vals rv) room done
end
/-- put into a rising list -/
def insS (x : Int) : List Int → List Int
  | [] => [x]
  | y :: l => if x < y then x :: y :: l else if x = y then y :: l else y :: insS x l
def sset (ns : List Int) : List Int := ns.foldr insS []
theorem insS_mem {x k : Int} : ∀ {l : List Int}, k ∈ insS x l ↔ k = x ∨ k ∈ l
  | [] => by simp [insS]
  | y :: l => by
    unfold insS
    split
    · simp
    · split
      · rename_i e; subst e; simp
      · simp only [List.mem_cons, insS_mem]
        constructor
        · rintro (h | h | h)
          · exact .inr (.inl h)
          · exact .inl h
          · exact .inr (.inr h)
        · rintro (h | h | h)
          · exact .inr (.inl h)
          · exact .inl h
          · exact .inr (.inr h)
theorem insS_pw {x : Int} : ∀ {l : List Int}, l.Pairwise (· < ·) → (insS x l).Pairwise (· < ·)
  | [], _ => List.pairwise_singleton _ _
  | y :: l, h => by
    obtain ⟨h1, h2⟩ := List.pairwise_cons.mp h
    unfold insS
    split
    · rename_i lt
      refine List.pairwise_cons.mpr ⟨fun k hk => ?_, h⟩
      rcases List.mem_cons.mp hk with rfl | hk
      · exact lt
      · have := h1 k hk; omega
    · split
      · exact h
      · refine List.pairwise_cons.mpr ⟨fun k hk => ?_, insS_pw h2⟩
        rcases insS_mem.mp hk with rfl | hk
        · omega
        · exact h1 k hk
theorem sset_mem {k : Int} : ∀ {ns : List Int}, k ∈ sset ns ↔ k ∈ ns
  | [] => by simp [sset]
  | x :: ns => by
    show k ∈ insS x (sset ns) ↔ _
    rw [insS_mem, sset_mem, List.mem_cons]
theorem sset_pw : ∀ ns : List Int, (sset ns).Pairwise (· < ·)
  | [] => List.Pairwise.nil
  | x :: ns => insS_pw (sset_pw ns)
theorem rise_eq : ∀ {l m : List Int}, l.Pairwise (· < ·) → m.Pairwise (· < ·) → (∀ k, k ∈ l ↔ k ∈ m) → l = m
  | [], [], _, _, _ => rfl
  | [], y :: m, _, _, h => by have := (h y).mpr List.mem_cons_self; cases this
  | x :: l, [], _, _, h => by have := (h x).mp List.mem_cons_self; cases this
  | x :: l, y :: m, hl, hm, h => by
    obtain ⟨l1, l2⟩ := List.pairwise_cons.mp hl
    obtain ⟨m1, m2⟩ := List.pairwise_cons.mp hm
    have e : x = y := by
      rcases List.mem_cons.mp ((h x).mp List.mem_cons_self) with e | e
      · exact e
      · rcases List.mem_cons.mp ((h y).mpr List.mem_cons_self) with e' | e'
        · exact e'.symm
        · have := m1 x e; have := l1 y e'; omega
    subst e
    rw [rise_eq l2 m2 fun k => ?_]
    constructor
    · intro hk
      rcases List.mem_cons.mp ((h k).mp (List.mem_cons_of_mem _ hk)) with e | e
      · have := l1 k hk; omega
      · exact e
    · intro hk
      rcases List.mem_cons.mp ((h k).mpr (List.mem_cons_of_mem _ hk)) with e | e
      · have := m1 k hk; omega
      · exact e
theorem repL_intsU {B : Bs} {H : Hp} {O : Ad} : ∀ ns : List Int, RepL B H O (ns.map D.int) (ns.map V.int)
  | [] => rfl
  | n :: ns => ⟨_, _, rfl, rfl, repL_intsU ns⟩
/-- len(set(d)) -/
def lsetD (d : D) : R D := (intsD d).bind fun ns => if ns.length < 4000 then .ok (.int ((sset ns).length : Nat)) else .stuck
theorem lsetD_ok {d r : D} (h : lsetD d = .ok r) : ∃ ns : List Int, ns.length < 4000 ∧ r = .int ((sset ns).length : Nat) ∧ (d = .lst (ns.map .int) ∨ d = .tup (ns.map .int) ∨ d = .src (ns.map .int)) := by
  unfold lsetD at h
  obtain ⟨ns, e, q⟩ := R.bind_ok' h
  obtain ⟨hl, q⟩ := if_ok q
  cases q
  have e := intsD_ok e
  refine ⟨ns, hl, rfl, ?_⟩
  unfold seqD at e
  split at e
  · cases e; exact .inl rfl
  · cases e; exact .inr (.inl rfl)
  · cases e; exact .inr (.inr rfl)
  · cases e
theorem lsetD_calm (d : D) : Calm (lsetD d) := calm_bind (by
  unfold intsD
  refine calm_bind ?_ fun xs => ?_
  · unfold seqD; split <;> first | exact calm_ok | exact calm_stuck
  · unfold ofO; split <;> first | exact calm_ok | exact calm_stuck) fun ns => calm_ite calm_ok calm_stuck
theorem nod_le : ∀ (A B : List Int), A.Nodup → (∀ x ∈ A, x ∈ B) → A.length ≤ B.length
  | [], B, _, _ => Nat.zero_le _
  | x :: A, B, hn, h => by
    obtain ⟨h1, h2⟩ := List.nodup_cons.mp hn
    have hx := h x List.mem_cons_self
    have := nod_le A (B.erase x) h2 fun y hy => (List.mem_erase_of_ne fun e => h1 (by rw [← e]; exact hy)).mpr (h y (List.mem_cons_of_mem _ hy))
    rw [List.length_erase_of_mem hx] at this
    have := List.length_pos_of_mem hx
    rw [List.length_cons]; omega
theorem sset_nod (ns : List Int) : (sset ns).Nodup := by
  rw [List.nodup_iff_pairwise_ne]
  exact List.Pairwise.imp (fun h => by omega) (sset_pw ns)
section
variable {X : Cx}
/-- the number of a set's members -/
def rLSet (w : World) : List V → Hp → VK → Prop := fun vs H Q => ∃ (a : Addr) (ns : List Int) (n : Nat), vs = [.ref a] ∧ H a = some (SetO w a (fun j => decide (j ∈ ns)) n) ∧ Q (.int ((sset ns).length : Nat)) H
theorem cr_lset : CallR X (.builtin "len") (rLSet X.w) := by
  intro pins s σ H vs us Q I r h
  obtain ⟨a, ns, n, rfl, ha, q⟩ := h
  obtain ⟨o, es, ep, t, g, ex, ed, _, nd, hm, room, fit, _⟩ := setO_get I ha
  rw [Vals.ref1 r]
  have hn : es.size = (sset ns).length := by
    have e : (es.toList.map keyOf).length = es.size := by rw [List.length_map, Array.length_toList]
    have k : ∀ x, x ∈ es.toList.map keyOf ↔ x ∈ sset ns := fun x => by rw [← hm x, decide_eq_true_eq, sset_mem]
    have h1 := nod_le _ _ nd fun x hx => (k x).mp hx
    have h2 := nod_le _ _ (sset_nod ns) fun x hx => (k x).mpr hx
    omega
  refine call_len_set g ex ed fit (by have : (scanBound : Nat) = 4096 := by decide
                                      omega) ⟨.int ((sset ns).length : Nat), H, I.tok _, ⟨_, by rw [hn]⟩, q⟩
end
/-- sorted(set(d)) -/
def ssetD (d : D) : R D := (intsD d).bind fun ns => if ns.length < 64 then .ok (.lst ((sset ns).map .int)) else .stuck
theorem ssetD_ok {d r : D} (h : ssetD d = .ok r) : ∃ ns : List Int, ns.length < 64 ∧ r = .lst ((sset ns).map .int) ∧ (d = .lst (ns.map .int) ∨ d = .tup (ns.map .int) ∨ d = .src (ns.map .int)) := by
  unfold ssetD at h
  obtain ⟨ns, e, q⟩ := R.bind_ok' h
  obtain ⟨hl, q⟩ := if_ok q
  cases q
  have e := intsD_ok e
  refine ⟨ns, hl, rfl, ?_⟩
  unfold seqD at e
  split at e
  · cases e; exact .inl rfl
  · cases e; exact .inr (.inl rfl)
  · cases e; exact .inr (.inr rfl)
  · cases e
theorem ssetD_calm (d : D) : Calm (ssetD d) := calm_bind (by
  unfold intsD
  refine calm_bind ?_ fun xs => ?_
  · unfold seqD; split <;> first | exact calm_ok | exact calm_stuck
  · unfold ofO; split <;> first | exact calm_ok | exact calm_stuck) fun ns => calm_ite calm_ok calm_stuck
section
variable {X : Cx} {W : WX} {c : Fr} {ρ : List Sl} {e : Expr} {m : R D} {pos p p2 pos2 : Pos}
theorem e_lset (ha : JE X W c ρ .bo e m) (hc : X.calm = true) (h1 : X.mg "len" = none) (h2 : X.mg "set" = none) (g1 : Gl X "len" := by rfl) (g2 : Gl X "set" := by rfl) (na : starEach [e] X.env = (false, eval e X.env) :: starEach [] X.env := by rfl)
    (nb : starEach [.Call (.Name "set" p2) [e] [] pos2] X.env = (false, eval (.Call (.Name "set" p2) [e] [] pos2) X.env) :: starEach [] X.env := by rfl) (pl : (backTo pos2 (starEach [] X.env)).any (·.1) = false := by rfl) (pl2 : (backTo pos (starEach [] X.env)).any (·.1) = false := by rfl) :
    JE X W c ρ .ra (.Call (.Name "len" p) [.Call (.Name "set" p2) [e] [] pos2] [] pos) (l1 lsetD m) :=
  PE.imp (pe_callB cr_lset g1 h1 PySem.boot_len (pa_cons (pe_callTy (c_setI hc) g2 h2 PyProof.Rows.boot_set (a_cons ha a_nil na) (by decide) (by decide) na pl) pa_nil nb) (by decide) (by decide) nb pl2) fun σ H Q q => by
    have q' : Wd X W c ρ σ (args [m]) H fun ds H1 => ∀ vs, BoL X.bs c.hd H1 (OA c ρ σ) ds vs → ∃ (a : Addr) (ns : List Int), vs = [.ref a] ∧ (SqL X.bs.K H1 a (ns.map V.int) ∨ SqT X.bs.K H1 a (ns.map V.int)) ∧ ns.length < 4000 ∧ ∀ p c, H1 p = none → c ≤ ns.length → rLSet X.w [.ref p] (L2.upd H1 p (SetO X.w p (fun j => decide (j ∈ ns)) c)) Q := by
      refine ⟨q.1, R.sat_bind.mpr (R.sat_mono (R.sat_bind.mp q.2) (fun d z => ?_) fun _ _ z => z)⟩
      show ∀ H', Pg c.T c.hd H H' → ∀ vs, _ → _
      intro H1 g vs ⟨v, vr, e1, rv, e2⟩
      cases (show vr = [] from e2)
      subst e1
      have z' : Wd X W c ρ σ (lsetD d) H _ := ⟨q.1, z⟩
      obtain ⟨r, e, k⟩ := z'.val (lsetD_calm d)
      obtain ⟨ns, hl, rfl, hd⟩ := lsetD_ok e
      have fin : ∀ a, (SqL X.bs.K H1 a (ns.map V.int) ∨ SqT X.bs.K H1 a (ns.map V.int)) → v = .ref a → ∃ (a : Addr) (ns : List Int), [v] = [.ref a] ∧ (SqL X.bs.K H1 a (ns.map V.int) ∨ SqT X.bs.K H1 a (ns.map V.int)) ∧ ns.length < 4000 ∧ ∀ p c, H1 p = none → c ≤ ns.length → rLSet X.w [.ref p] (L2.upd H1 p (SetO X.w p (fun j => decide (j ∈ ns)) c)) Q := fun a hs e => by
        subst e
        refine ⟨a, ns, rfl, hs, hl, fun p c' hp hc' => ⟨p, ns, c', rfl, upd_same, ?_⟩⟩
        have G1 : Gr H1 (L2.upd H1 p (SetO X.w p (fun j => decide (j ∈ ns)) c')) := Gr.laid hp
        exact k _ (g.trans G1.pg) _ rfl
      rcases hd with rfl | rfl | rfl
      · obtain ⟨a, vs, e, h1, r1⟩ := bo_lst rv
        rw [r1.ints] at h1
        exact fin a (.inl (.of h1)) e
      · obtain ⟨a, vs, e, _, h1, r1⟩ := bo_tup rv
        rw [r1.ints] at h1
        exact fin a (.inr h1) e
      · obtain ⟨a, vs, e, h1, r1⟩ := bo_src rv
        rw [r1.ints] at h1
        exact fin a (.inl h1) e
    exact q'
theorem e_sset (ha : JE X W c ρ .bo e m) (hc : X.calm = true) (h1 : X.mg "sorted" = none) (h2 : X.mg "set" = none) (g1 : Gl X "sorted" := by rfl) (g2 : Gl X "set" := by rfl) (na : starEach [e] X.env = (false, eval e X.env) :: starEach [] X.env := by rfl)
    (nb : starEach [.Call (.Name "set" p2) [e] [] pos2] X.env = (false, eval (.Call (.Name "set" p2) [e] [] pos2) X.env) :: starEach [] X.env := by rfl) (pl : (backTo pos2 (starEach [] X.env)).any (·.1) = false := by rfl) (pl2 : (backTo pos (starEach [] X.env)).any (·.1) = false := by rfl) :
    JE X W c ρ .ra (.Call (.Name "sorted" p) [.Call (.Name "set" p2) [e] [] pos2] [] pos) (l1 ssetD m) :=
  PE.imp (pe_callB (cr_sortedSet hc) g1 h1 PyProof.Rows.boot_sorted (pa_cons (pe_callTy (c_setI hc) g2 h2 PyProof.Rows.boot_set (a_cons ha a_nil na) (by decide) (by decide) na pl) pa_nil nb) (by decide) (by decide) nb pl2) fun σ H Q q => by
    have q' : Wd X W c ρ σ (args [m]) H fun ds H1 => ∀ vs, BoL X.bs c.hd H1 (OA c ρ σ) ds vs → ∃ (a : Addr) (ns : List Int), vs = [.ref a] ∧ (SqL X.bs.K H1 a (ns.map V.int) ∨ SqT X.bs.K H1 a (ns.map V.int)) ∧ ns.length < 4000 ∧ ∀ p c, H1 p = none → c ≤ ns.length → rSortedSet X.w [.ref p] (L2.upd H1 p (SetO X.w p (fun j => decide (j ∈ ns)) c)) Q := by
      refine ⟨q.1, R.sat_bind.mpr (R.sat_mono (R.sat_bind.mp q.2) (fun d z => ?_) fun _ _ z => z)⟩
      show ∀ H', Pg c.T c.hd H H' → ∀ vs, _ → _
      intro H1 g vs ⟨v, vr, e1, rv, e2⟩
      cases (show vr = [] from e2)
      subst e1
      have z' : Wd X W c ρ σ (ssetD d) H _ := ⟨q.1, z⟩
      obtain ⟨r, e, k⟩ := z'.val (ssetD_calm d)
      obtain ⟨ns, hl, rfl, hd⟩ := ssetD_ok e
      have fin : ∀ a, (SqL X.bs.K H1 a (ns.map V.int) ∨ SqT X.bs.K H1 a (ns.map V.int)) → v = .ref a → ∃ (a : Addr) (ns : List Int), [v] = [.ref a] ∧ (SqL X.bs.K H1 a (ns.map V.int) ∨ SqT X.bs.K H1 a (ns.map V.int)) ∧ ns.length < 4000 ∧ ∀ p c, H1 p = none → c ≤ ns.length → rSortedSet X.w [.ref p] (L2.upd H1 p (SetO X.w p (fun j => decide (j ∈ ns)) c)) Q := fun a hs e => by
        subst e
        refine ⟨a, ns, rfl, hs, by omega, fun p c' hp hc' => ⟨p, _, c', rfl, upd_same, by omega, fun ns' p2 pw mem hl' hp2 => ?_⟩⟩
        have : ns' = sset ns := rise_eq pw (sset_pw ns) fun k => (mem k).trans (by rw [sset_mem]; simp)
        subst this
        have G1 : Gr H1 (L2.upd H1 p (SetO X.w p (fun j => decide (j ∈ ns)) c')) := Gr.laid hp
        have G2 : Gr H1 (L2.upd (L2.upd H1 p (SetO X.w p (fun j => decide (j ∈ ns)) c')) p2 (.lst ((sset ns).map V.int))) := G1.trans (Gr.laid hp2)
        exact k _ (g.trans G2.pg) _ (RepX.back (fun _ => q.1.none g) (ra_lst hp2 G1 (repL_intsU _)))
      rcases hd with rfl | rfl | rfl
      · obtain ⟨a, vs, e, h1, r1⟩ := bo_lst rv
        rw [r1.ints] at h1
        exact fin a (.inl (.of h1)) e
      · obtain ⟨a, vs, e, _, h1, r1⟩ := bo_tup rv
        rw [r1.ints] at h1
        exact fin a (.inr h1) e
      · obtain ⟨a, vs, e, h1, r1⟩ := bo_src rv
        rw [r1.ints] at h1
        exact fin a (.inl h1) e
    exact q'
end

/-! ### sorted(d) -/
def insW (x : Int) : List Int → List Int
  | [] => [x]
  | y :: l => if x ≤ y then x :: y :: l else y :: insW x l
def isort (ns : List Int) : List Int := ns.foldr insW []
theorem insW_perm (x : Int) : ∀ l : List Int, (insW x l).Perm (x :: l)
  | [] => List.Perm.refl _
  | y :: l => by
    unfold insW
    split
    · exact List.Perm.refl _
    · exact ((insW_perm x l).cons y).trans (List.Perm.swap x y l)
theorem insW_pw {x : Int} : ∀ {l : List Int}, l.Pairwise (· ≤ ·) → (insW x l).Pairwise (· ≤ ·)
  | [], _ => by unfold insW; exact List.pairwise_singleton _ _
  | y :: l, h => by
    obtain ⟨h1, h2⟩ := List.pairwise_cons.mp h
    unfold insW
    split
    · refine List.pairwise_cons.mpr ⟨fun z hz => ?_, h⟩
      rcases List.mem_cons.mp hz with rfl | hz
      · assumption
      · have := h1 z hz; omega
    · refine List.pairwise_cons.mpr ⟨fun z hz => ?_, insW_pw h2⟩
      rcases List.mem_cons.mp ((insW_perm x l).mem_iff.mp hz) with rfl | hz
      · omega
      · exact h1 z hz
theorem isort_perm : ∀ ns : List Int, (isort ns).Perm ns
  | [] => List.Perm.refl _
  | x :: ns => (insW_perm x (isort ns)).trans ((isort_perm ns).cons x)
theorem isort_pw : ∀ ns : List Int, (isort ns).Pairwise (· ≤ ·)
  | [] => List.Pairwise.nil
  | x :: ns => insW_pw (isort_pw ns)
theorem isort_eq {l ns : List Int} (h : l.Perm ns) (p : l.Pairwise (· ≤ ·)) : l = isort ns :=
  List.Perm.eq_of_pairwise (fun a b _ _ h1 h2 => Int.le_antisymm h1 h2) p (isort_pw ns) (h.trans (isort_perm ns).symm)
/-! sorted of a tuple -/
section
variable {prog : Program} {w : World} {A : Around} {E : Value → Shared → Prop} {s : Shared}
theorem collect_tup {l : Addr} {vs : List Value} {Q : List Value → Shared → Prop} (hl : IsTup s.heap l vs.toArray)
    (h : Q vs { s with heap := (s.heap.push (seqObj "list" #[] 0)).update s.heap.objs.size (Obj.mapSeq (· ++ vs.toArray)) }) (hsz : vs.length ≤ sizeLine) :
    wpAny (model prog w) A (collect (.ref l)) Q E s := by
  obtain ⟨o, ho, hc, n, hd⟩ := id hl
  unfold collect
  refine wpAny_bind (wpAny_runValue (codeAny_builtin entry_proto_collect' ?_))
  show wpAny _ _ (do again (.builtin "list.__iadd__" ⟨[← newList [], .ref l], []⟩)) _ _ s
  refine wpAny_bind (wpAny_newList (wpAny_pure ⟨Code.quiet_builtin _ (by decide +kernel), codeAny_builtin entry_list_iadd' ?_⟩))
  show wpAny _ _ (Builtin.List.listExtendWith (.ref s.heap.objs.size) (.ref l) (.ref s.heap.objs.size)) _ _ { s with heap := s.heap.push (seqObj "list" #[] 0) }
  unfold Builtin.List.listExtendWith
  have ho' : (s.heap.push (seqObj "list" #[] 0)).get? l = some o := Heap.get?_push_of_some _ ho
  refine wpAny_bind (wpAny_typeOf (T := "tuple") ⟨o, ho', hc⟩ ?_)
  have ht : (Value.type "tuple" == Value.type "tuple") = true := by rfl
  rw [if_pos (by rw [ht]; simp)]
  refine wpAny_bind (listItems_at ho' hd ?_)
  refine wpAny_bind (listItems_at (xs := #[]) (n := 0) (Heap.get?_push_size _ rfl) rfl ?_)
  rw [if_neg (by simp)]
  refine wpAny_bind (listUpdate_at (xs := #[]) (n := 0) (Heap.get?_push_size _ rfl) rfl ?_ (Nat.zero_le _) (by show (#[] ++ vs.toArray).size ≤ sizeLine + 1; simp only [Array.size_append, List.size_toArray, List.length_nil]; omega))
  refine wpAny_pure ?_
  show wpAny (model prog w) A (do
      let o ← load s.heap.objs.size
      match o.data with
      | .seq xs _ => pure xs.toList
      | _ => unsupported "internal:collect") Q E { s with heap := (s.heap.push (seqObj "list" #[] 0)).update s.heap.objs.size (Obj.mapSeq (· ++ vs.toArray)) }
  refine wpAny_bind (wpAny_load (get?_update_seq (Heap.get?_push_size _ rfl) _) ?_)
  show wpAny _ _ (pure ((#[] : Array Value) ++ vs.toArray).toList) Q E _
  rw [show ((#[] : Array Value) ++ vs.toArray).toList = vs by simp]
  exact wpAny_pure h
theorem sorted_tup {l : Addr} {vs : List Value} {ltv : Value → Value → Bool} {Q : Value → Shared → Prop} (O : SrtO.Swo ltv) (hl : IsTup s.heap l vs.toArray) (hz : vs.length ≤ sizeLine)
    (hS : 2 ≤ vs.length → ∀ (h₁ : Heap) (a : Addr), h₁.get? a = some (seqObj "list" vs.toArray 0) → (∀ b o, s.heap.get? b = some o → b ≠ a ∧ h₁.get? b = some o) → SrtO.SortableO prog w A.in1.in1 { s with heap := h₁ } a vs ltv)
    (h : ∀ out : List Value, SrtO.Srtd ltv out → SrtO.Stb ltv out vs → Q (.ref (s.heap.objs.size + 1)) { s with heap := sortedAll s.heap vs out.toArray }) :
    wpAny (model prog w) A (call (.builtin "sorted") [.ref l]) Q E s := by
  refine Calls.call_function_entry kind_sorted plain_sorted entry_sorted (args_sorted1 _) ?_
  unfold Builtin.«sorted»
  refine wpAny_bind (m := checkCount "sorted" 1 1 _) (wpAny_pure ?_)
  refine wpAny_bind (collect_tup hl ?_ hz)
  refine wpAny_bind (wpAny_newList ?_ hz)
  have hsz : ((s.heap.push (seqObj "list" #[] 0)).update s.heap.objs.size (Obj.mapSeq (· ++ vs.toArray))).objs.size = s.heap.objs.size + 1 := by
    rw [Heap.size_update, size_push']
  have hoL : (((s.heap.push (seqObj "list" #[] 0)).update s.heap.objs.size (Obj.mapSeq (· ++ vs.toArray))).push (seqObj "list" vs.toArray 0)).get? (s.heap.objs.size + 1) = some (seqObj "list" vs.toArray 0) := by
    rw [← hsz]; exact Heap.get?_push_size _ rfl
  have keep : ∀ b o, s.heap.get? b = some o → b ≠ s.heap.objs.size + 1 ∧ (((s.heap.push (seqObj "list" #[] 0)).update s.heap.objs.size (Obj.mapSeq (· ++ vs.toArray))).push (seqObj "list" vs.toArray 0)).get? b = some o := fun b o q => by
    have hlt : b < s.heap.objs.size := Heap.lt_size q
    refine ⟨Nat.ne_of_lt (Nat.lt_succ_of_lt hlt), Heap.get?_push_of_some _ ?_⟩
    rw [Heap.get?_update_ne _ _ _ _ (Nat.ne_of_lt hlt)]
    exact Heap.get?_push_of_some _ q
  show wpAny _ _ _ _ _ { s with heap := ((s.heap.push (seqObj "list" #[] 0)).update s.heap.objs.size (Obj.mapSeq (· ++ vs.toArray))).push (seqObj "list" vs.toArray 0) }
  rw [hsz]
  refine wpAny_bind (wpAny_holding (wpAny_call_entry slot_list_sort ⟨_, hoL, rfl⟩ entry_list_sort (SrtO.list_sort_ord O hoL hz (fun h2 => hS h2 _ _ hoL keep) fun out hs hb => ⟨_, rfl, ?_⟩) (args_list_sort _)))
  exact wpAny_pure ⟨_, rfl, h out hs hb⟩
end
def rSortedT (K : PySem.W.Frag) : List V → Hp → VK → Prop := fun vs H Q => ∃ (a : Addr) (ns : List Int), vs = [V.ref a] ∧ SqT K H a (ns.map V.int) ∧
  ∀ (ns' : List Int) (p : Addr), ns'.Perm ns → ns'.Pairwise (· ≤ ·) → H p = none → Q (.ref p) (L2.upd H p (.lst (ns'.map V.int)))
theorem cr_sortedT {X : Cx} : CallR X (.builtin "sorted") (rSortedT X.K) := by
  intro pins s σ H vs us Q I r h
  obtain ⟨a, ns, rfl, hs, q⟩ := h
  obtain ⟨its, rv, hl, hz⟩ := I.tuple hs
  rw [Vals.ref1 r]
  have hi := rv.ints
  refine sorted_tup SrtO.swo_int hl (by rw [← rv.length]; exact hz) (fun h2 h₁ a' _ _ => SrtO.ints_sortable hi h2) fun out h1 h2 => ?_
  obtain ⟨k1, k2, k3⟩ := SrtO.ints_out hi h1 h2
  obtain ⟨ep, he'⟩ := PyProof.Rows.sortedAll_at s.heap its out.toArray
  have hlen : ((out.map SrtO.iv).map V.int).length ≤ sizeLine := by
    rw [List.length_map, k2.length_eq]
    rw [List.length_map] at hz
    exact hz
  exact ⟨.ref _, L2.upd H (s.heap.objs.size + 1) (.lst ((out.map SrtO.iv).map V.int)), I.laid (t' := s.toks) (fun _ _ => PyProof.Rows.sortedAll_old) (Nat.le_succ _) ⟨hlen, out, ep, vals_of_ints k1, he'⟩, rfl, q _ _ k2 k3 (I.hok.fresh (Nat.le_succ _))⟩
def isTup : D → Bool
  | .tup _ => true
  | _ => false
def sortD (d : D) : R D := if isLst d = true then (intsD d).map fun ns => .lst ((isort ns).map .int) else if isTup d = true then (intsD d).map fun ns => .lst ((isort ns).map .int) else .stuck
theorem sortD_calm (d : D) : Calm (sortD d) := by
  have h : Calm ((intsD d).map fun ns => D.lst ((isort ns).map .int)) := calm_bind (by
    unfold intsD
    refine calm_bind ?_ fun xs => ?_
    · unfold seqD; split <;> first | exact calm_ok | exact calm_stuck
    · unfold ofO; split <;> first | exact calm_ok | exact calm_stuck) fun _ => calm_ok
  exact calm_ite h (calm_ite h calm_stuck)
theorem c_sort {X : Cx} : CallR X (.builtin "sorted") (rDC X.bs (un1 sortD)) := by
  intro pins s σ H xs us Q I r h
  obtain ⟨hdd, O, ds, d, hO, hb0, e0, q⟩ := h
  obtain ⟨a, rfl, e⟩ := un1_ok e0
  obtain ⟨v, rfl, hb⟩ := hb0.one
  unfold sortD at e
  by_cases hl : isLst a = true
  · rw [if_pos hl] at e
    obtain ⟨xs, rfl⟩ := isLst_eq hl
    obtain ⟨ns, e2, rfl⟩ := R.map_ok' e
    cases (intsD_ok e2)
    obtain ⟨p, vs, rfl, h1, r1⟩ := bo_lst hb
    rw [r1.ints] at h1
    refine cr_sortedI pins s σ H _ us Q I r ⟨p, ns, rfl, .of h1, fun ns' l pm pw hl => ?_⟩
    rw [isort_eq pm pw]
    exact q _ _ (Gr.laid hl) (ra_lst hl (Gr.refl _) (repL_intsU _))
  · rw [if_neg hl] at e
    obtain ⟨ht, e⟩ := if_ok e
    cases a with
    | tup xs =>
      obtain ⟨ns, e2, rfl⟩ := R.map_ok' e
      have e3 : (seqD (.tup xs)).bind (fun ys => ofO (ints? ys)) = .ok ns := e2
      have e3 : intsD (.lst xs) = .ok ns := e3
      cases (intsD_ok e3)
      obtain ⟨p, vs, rfl, _, h1, r1⟩ := bo_tup hb
      rw [r1.ints] at h1
      refine cr_sortedT pins s σ H _ us Q I r ⟨p, ns, rfl, h1, fun ns' l pm pw hl => ?_⟩
      rw [isort_eq pm pw]
      exact q _ _ (Gr.laid hl) (ra_lst hl (Gr.refl _) (repL_intsU _))
    | _ => cases ht

/-! ### x.extend(e) -/
def extL (xs : List D) (d : D) : R (List D) := match d with
  | .lst ys => if xs.length + ys.length ≤ SZ then .ok (xs ++ ys) else .stuck
  | _ => .stuck
section
variable {X : Cx} {W : WX} {c : Fr} {ρ : List Sl} {e : Expr} {m : R D} {pos p apos cpos spos : Pos} {x : Str} {ds : List D} {β : Type} {K : Ends → β → Prop} {f : List D → R β} {rest : List Stmt}
theorem s_ext (i : Nat) (he : JE X W c ρ .bo e m) (hr : ∀ xs, JX X W c (ρ.set i (.ow (.lst xs))) rest (f xs) K) (hd : ρ[i]? = some (.ow (.lst ds)) := by rfl) (hN : X.N[i]? = some x := by rfl) (hv : Vis X.env.scope x := by first | exact Or.inl rfl | exact Or.inr (Or.inl rfl) | exact Or.inr (Or.inr rfl))
    (h1 : (x == ("__debug__" : Str)) = false := by decide) (h2 : (x == ("__classdict__" : Str)) = false := by decide) (hbase : attributeBase (.Name x p) "extend" X.env (eval (.Name x p) X.env) = eval (.Name x p) X.env := by rfl)
    (hfew : ((backTo cpos (starEach [e] X.env)).all (fun x => !x.1) && (backToKw cpos (keywordEach [] X.env)).all (fun x => x.1.isSome) && decide ([e].length + ([] : List Keyword).length + (if ([] : List Keyword).isEmpty then 0 else 1) < 30)) = true := by rfl)
    (hline : (apos.endLine == cpos.line) = true := by rfl) (hs : starEach [e] X.env = (false, eval e X.env) :: starEach [] X.env := by rfl) (hpl : (backTo cpos (starEach [] X.env)).any (·.1) = false := by rfl) (hsw : swapsWith (.Call (.Attribute (.Name x p) "extend" apos) [e] [] cpos) none spos.line X.env = pure false := by rfl) :
    JX X W c ρ (.Expr (.Call (.Attribute (.Name x p) "extend" apos) [e] [] cpos) spos :: rest) (m.bind fun d => (extL ds d).bind f) K :=
  PSs.imp (pss_cons (ps_expr (pe_bm PySem.F.plainAttrs_list PySem.F.slot_list_extend PySem.F.type_list_extend mt_extend (pe_var hN hv h1 h2) (pa_cons he pa_nil hs) hbase hfew hline hs hpl) hsw) (pss_ex hr)) fun Dn σ H q => by
    obtain ⟨a, vs, e1, hA, r⟩ := ow_lst (H := H) q.1 hd
    refine ⟨.ref a, e1, .inl ⟨rfl, vs, .of hA⟩, Wd.mono (tX.wd q) fun d H1 g q1 v rv => ?_⟩
    obtain ⟨a', vs', e2, hA', r'⟩ := ow_lst (H := H1) q1.1 hd
    rw [e1] at e2
    cases e2
    have sat := R.sat_bind.mp q1.2
    unfold extL at sat
    split at sat
    · obtain ⟨hl, sat⟩ := sat_ite sat
      obtain ⟨b, zs, rfl, hB, rz⟩ := bo_lst rv
      have hi : OA c ρ σ a := .inr ⟨i, _, hd, e1⟩
      have k : Kp H1 (L2.upd H1 a (.lst (vs' ++ zs))) (OA c ρ σ) (OA c ρ σ) := .of fun b u _ e n => ⟨by rw [upd_ne fun z => n (by rw [z]; exact hi)]; exact e, n⟩
      exact ⟨a, b, vs', zs, rfl, rfl, hA', hB, by rw [r'.length, rz.length, ← SZ_eq]; exact hl, _, q1.1.upd hd e1 ⟨_, upd_same, (r'.kp k).append (rz.kp k)⟩, sat⟩
    · exact (show False from sat).elim
end
end Ev


set_option Elab.async false
set_option linter.all false
set_option maxRecDepth 100000
/-! Ev, part B2: sorted(dict(pairs)). -/
namespace Ev
open PySem PySem.Spec PyProof.Rows L2 PySem.W
section
variable {prog : Program} {w : World} {A : Around} {E : Value → Shared → Prop} {s : Shared} {T : String} {r d : Addr} {n : Nat} {P : Nat → Value → Prop} {OK : Heap → Prop}
theorem collect_kdl {Q : List Value → Shared → Prop} (K : KdlSrc prog w T r d n P OK) (hh : A.handled = none) (hok : OK s.heap) (hn : n ≤ sizeLine)
    (h : ∀ (h' : Heap) (tk : Nat) (vs : List Value), (∀ b o, s.heap.get? b = some o → h'.get? b = some o) → s.heap.objs.size < h'.objs.size → vs.length = n → (∀ j v, vs[j]? = some v → P j v) → Q vs { s with heap := h', toks := tk }) :
    wpAny (model prog w) A (collect (.ref r)) Q E s := by
  have hlt := K.there _ hok
  unfold collect
  refine wpAny_bind (wpAny_runValue (codeAny_builtin entry_proto_collect' ?_))
  rw [Around.under_plainId PySem.F.plain_proto_collect _]
  show wpAny _ A.in1 (newList [] >>= fun l => again (.builtin "list.__iadd__" ⟨[l, .ref r], []⟩)) _ _ s
  refine wpAny_bind (wpAny_newObj_type ?_)
  refine wpAny_pure ⟨plainId_quiet PySem.F.plain_list_iadd _, codeAny_builtin entry_list_iadd' ?_⟩
  rw [Around.under_plainId PySem.F.plain_list_iadd _]
  have hS₁ : (s.heap.push { cls := .type "list", data := .seq ([] : List Value).toArray }).get? s.heap.objs.size = some { cls := .type "list", data := .seq #[] } := Heap.get?_push_size _ rfl
  show wpAny _ A.in1 (Builtin.List.listExtendWith (.ref s.heap.objs.size) (.ref r) (.ref s.heap.objs.size)) _ _ _
  have key := kdl_extend (prog := prog) (w := w) (A := A) (s := { s with heap := s.heap.push { cls := .type "list", data := .seq ([] : List Value).toArray } })
    (R := fun (q : Result) (s' : Shared) => ∃ (h' : Heap) (tk : Nat) (acc' : Array Value) (c' : Nat), q = .ok (.ret (.ref s.heap.objs.size)) ∧ s' = { s with heap := h', toks := tk } ∧
      (∀ b o, s.heap.get? b = some o → h'.get? b = some o) ∧ h'.get? s.heap.objs.size = some { cls := .type "list", dict := none, data := .seq acc' c', slots := #[] } ∧ ItemsOf P acc' n)
    K hh (K.keep _ _ hok fun b _ o e => Heap.get?_push_of_some _ e) s.heap.objs.size (Nat.ne_of_gt hlt.1) (Nat.ne_of_gt hlt.2) (.ref s.heap.objs.size) 0 hS₁
    (fun h' tk acc' c' hk hS' hacc => ⟨h', tk, acc', c', rfl, rfl, fun b o e => hk b o (Nat.ne_of_lt (Heap.lt_size e)) (Heap.get?_push_of_some _ e), hS', hacc⟩) hn
  have fin : ∀ (h' : Heap) (tk : Nat) (acc' : Array Value) (c' : Nat), (∀ b o, s.heap.get? b = some o → h'.get? b = some o) → h'.get? s.heap.objs.size = some { cls := .type "list", dict := none, data := .seq acc' c', slots := #[] } → ItemsOf P acc' n → Q acc'.toList { s with heap := h', toks := tk } := fun h' tk acc' c' hk hS' hacc =>
    h h' tk acc'.toList hk (Heap.lt_size hS') (by rw [Array.length_toList]; exact hacc.1) fun j v e => hacc.2 j v (by rw [← Array.getElem?_toList]; exact e)
  refine wpAny_mono key (fun f s' x => ?_) fun e s' x => ?_
  · cases f with
    | done f =>
      obtain ⟨h', tk, acc', c', e, rfl, hk, hS', hacc⟩ := x
      cases e
      show wpAny _ A (load s.heap.objs.size >>= _) _ _ _
      refine wpAny_bind (wpAny_load hS' ?_)
      refine wpAny_pure ?_
      exact fin h' tk acc' c' hk hS' hacc
    | again c₁ =>
      refine ⟨x.1, codeAny_mono x.2 fun q s₂ y => ?_⟩
      obtain ⟨h', tk, acc', c', rfl, rfl, hk, hS', hacc⟩ := y
      show wpAny _ A (load s.heap.objs.size >>= _) _ _ _
      refine wpAny_bind (wpAny_load hS' ?_)
      refine wpAny_pure ?_
      exact fin h' tk acc' c' hk hS' hacc
  · obtain ⟨_, _, _, _, e', _⟩ := x
    cases e'
theorem sorted_kdl {ltv : Value → Value → Bool} {Q : Value → Shared → Prop} (K : KdlSrc prog w T r d n P OK) (hh : A.handled = none) (hok : OK s.heap) (hn : n ≤ sizeLine) (O : SrtO.Swo ltv)
    (hS : ∀ (vs : List Value) (s1 : Shared) (a : Addr), vs.length = n → (∀ j v, vs[j]? = some v → P j v) → 2 ≤ vs.length → SrtO.SortableO prog w A.in1.in1 s1 a vs ltv)
    (h : ∀ (h' : Heap) (tk : Nat) (vs out : List Value), (∀ b o, s.heap.get? b = some o → h'.get? b = some o) → s.heap.objs.size < h'.objs.size → vs.length = n → (∀ j v, vs[j]? = some v → P j v) → SrtO.Srtd ltv out → SrtO.Stb ltv out vs → Q (.ref h'.objs.size) { s with heap := sortedHeap (h'.push (seqObj "list" vs.toArray 0)) h'.objs.size vs out.toArray, toks := tk }) :
    wpAny (model prog w) A (call (.builtin "sorted") [.ref r]) Q E s := by
  refine Calls.call_function_entry kind_sorted plain_sorted entry_sorted (args_sorted1 _) ?_
  unfold Builtin.«sorted»
  refine wpAny_bind (m := checkCount "sorted" 1 1 _) (wpAny_pure ?_)
  refine wpAny_bind (collect_kdl (A := A.in1) K hh hok hn fun h' tk vs hk hlt hl hP => ?_)
  have hz : vs.length ≤ sizeLine := by rw [hl]; exact hn
  refine wpAny_bind (wpAny_newList ?_ hz)
  have hoL : (h'.push (seqObj "list" vs.toArray 0)).get? h'.objs.size = some (seqObj "list" vs.toArray 0) := Heap.get?_push_size _ rfl
  refine wpAny_bind (wpAny_holding (wpAny_call_entry slot_list_sort ⟨_, hoL, rfl⟩ entry_list_sort (SrtO.list_sort_ord O hoL hz (fun h2 => hS vs _ _ hl hP h2) fun out hs hb => ⟨_, rfl, ?_⟩) (args_list_sort _)))
  exact wpAny_pure ⟨_, rfl, h h' tk vs out hk hlt hl hP hs hb⟩
end
def rSortedD : List V → Hp → VK → Prop := fun vs H Q => ∃ (a : Addr) (kvs : List (Key × V)) (ns : List Int), vs = [V.ref a] ∧ H a = some (.dK kvs) ∧ kvs.map (·.1) = ns.map Sum.inl ∧
  (ns.Nodup → ∀ (ns' : List Int) (p : Addr), ns'.Perm ns → ns'.Pairwise (· ≤ ·) → H p = none → Q (.ref p) (L2.upd H p (.lst (ns'.map V.int))))
theorem keys_eq {kvs : List (Key × V)} {vs : List (Key × Value)} (h : KV kvs vs) : vs.map (·.1) = kvs.map (·.1) := by
  unfold KV at h
  induction h with
  | nil => rfl
  | cons h _ ih => rw [List.map_cons, List.map_cons, ih, h.1]
theorem ints_of_keys : ∀ {vs : List Value} {ns : List Int}, vs.length = ns.length → (∀ (j : Nat) (v : Value), vs[j]? = some v → ∃ i, ns[j]? = some i ∧ ∃ t, v = .int i t) → IntsAre vs ns
  | [], [], _, _ => .nil
  | [], _ :: _, h, _ => by cases h
  | _ :: _, [], h, _ => by cases h
  | v :: vs, n :: ns, h, k => by
    obtain ⟨i, e, t, rfl⟩ := k 0 v rfl
    cases (show some n = some i from e)
    exact .cons n t (ints_of_keys (by simpa using h) fun j u e => k (j + 1) u e)
theorem cr_sortedD {X : Cx} (hc : X.calm = true) : CallR X (.builtin "sorted") rSortedD := by
  intro pins s σ H vs us Q I r h
  obtain ⟨a, kvs, ns, rfl, hs, hk, q⟩ := h
  obtain ⟨hz, hsys, ws, rel, hd⟩ := (show ObjOk X.prog X.w H s.heap a (.dK kvs) from I.hok a _ hs)
  rw [Vals.ref1 r]
  obtain ⟨ep, hat⟩ := hd.dictAt
  have ek := keys_eq rel
  have hlen : ws.length = ns.length := by
    have := congrArg List.length (ek.trans hk)
    rwa [List.length_map, List.length_map] at this
  have hn : ws.length ≤ sizeLine := by
    have := congrArg List.length ek
    rw [List.length_map, List.length_map] at this
    omega
  have hnd : ns.Nodup := by
    obtain ⟨o, es, _, _, _, _, _, nd⟩ := id hat
    rw [ek, hk] at nd
    exact (List.pairwise_map.mp nd).imp fun h e => h (by rw [e])
  have hI : ∀ us : List Value, us.length = ws.length → (∀ j v, us[j]? = some v → ∃ k x, ws[j]? = some (k, x) ∧ (mixKind X.prog X.w).is k v = true) → IntsAre us ns := fun us hl hP =>
    ints_of_keys (hl.trans hlen) fun j v e => by
      obtain ⟨k, x, e1, e2⟩ := hP j v e
      have e3 : (ns.map (Sum.inl : Int → Key))[j]? = some k := by
        rw [← hk, ← ek, List.getElem?_map, e1]; rfl
      rw [List.getElem?_map] at e3
      obtain ⟨i, e4, e5⟩ := Option.map_eq_some_iff.mp e3
      rcases keyIs_shape (show keyIs k v = true from e2) with ⟨i', t, rfl, rfl⟩ | ⟨y, t, rfl, _⟩
      · cases e5
        exact ⟨_, e4, t, rfl⟩
      · cases e5
  refine sorted_kdl (kdl_dict (knd := mixKind X.prog X.w) hsys) (I.ok.hd hc) hat hn SrtO.swo_int (fun us s1 a1 hl hP h2 => SrtO.ints_sortable (hI us hl hP) h2) fun h' tk us out hkeep hlt hl hP h1 h2 => ?_
  obtain ⟨k1, k2, k3⟩ := SrtO.ints_out (hI us hl hP) h1 h2
  have hoL : (h'.push (seqObj "list" us.toArray 0)).get? h'.objs.size = some (seqObj "list" us.toArray 0) := Heap.get?_push_size _ rfl
  obtain ⟨e, he⟩ := sortedHeap_at (out := out.toArray) hoL
  have hold : ∀ b o, s.heap.get? b = some o → (sortedHeap (h'.push (seqObj "list" us.toArray 0)) h'.objs.size us out.toArray).get? b = some o := fun b o x => by
    have hb := Heap.lt_size (hkeep b o x)
    rw [sortedHeap_old (Nat.ne_of_lt hb) (by rw [size_push']; exact Nat.lt_succ_of_lt hb)]
    exact Heap.get?_push_of_some _ (hkeep b o x)
  have hle : ((out.map SrtO.iv).map V.int).length ≤ sizeLine := by
    rw [List.length_map, k2.length_eq]; omega
  exact ⟨.ref _, L2.upd H h'.objs.size (.lst ((out.map SrtO.iv).map V.int)), I.laid (t' := tk) hold (Nat.le_of_lt hlt) ⟨hle, out, e, vals_of_ints k1, he⟩, rfl, q hnd _ _ k2 k3 (I.hok.fresh (Nat.le_of_lt hlt))⟩
/-! ### the dict of a list of pairs -/
def firsts : List D → Option (List Int)
  | [] => some []
  | .tup [.int k, _] :: ds => (firsts ds).map (k :: ·)
  | _ :: _ => none
def sdicD (d : D) : R D := match d with
  | .lst xs => match firsts xs with
    | some ks => .ok (.lst ((sset ks).map .int))
    | none => .stuck
  | _ => .stuck
theorem sdicD_calm (d : D) : Calm (sdicD d) := by
  unfold sdicD
  split
  · split <;> first | exact calm_ok | exact calm_stuck
  · exact calm_stuck
theorem firsts_rep {B : Bs} {H : Hp} {O : Ad} : ∀ {ds : List D} {vs : List V} {ks : List Int}, RepL B H O ds vs → firsts ds = some ks → ∃ (ps : List Addr) (kvs : List (Key × V)), vs = ps.map V.ref ∧ Paired (fun p kv => SqT B.K H p [kV kv.1, kv.2]) ps kvs ∧ kvs.map (·.1) = ks.map (Sum.inl : Int → Key)
  | [], vs, ks, r, e => by
    cases e
    cases (show vs = [] from r)
    exact ⟨[], [], rfl, .nil, rfl⟩
  | d :: ds, vs, ks, r, e => by
    unfold firsts at e
    split at e
    · rename_i he; cases he
    · rename_i k x ds' he
      cases he
      obtain ⟨ks', e1, rfl⟩ := Option.map_eq_some_iff.mp e
      obtain ⟨v, vr, q, h1, h2⟩ := (show ∃ v vr, _ from r)
      subst q
      obtain ⟨a, ws, rfl, t1, r1⟩ := (show ∃ a vs, _ from h1)
      obtain ⟨v1, vr1, q1, g1, g2⟩ := (show ∃ v vr, _ from r1)
      obtain ⟨v2, vr2, q2, g3, g4⟩ := (show ∃ v vr, _ from g2)
      cases (show vr2 = [] from g4)
      subst q2 q1
      cases (show v1 = V.int k from g1)
      obtain ⟨ps, kvs, rfl, hp, hk⟩ := firsts_rep h2 e1
      exact ⟨a :: ps, (Sum.inl k, v2) :: kvs, rfl, .cons t1.seq hp, by rw [List.map_cons, List.map_cons, hk]⟩
    · cases e
theorem putK_keys {acc : List (Key × V)} {ns : List Int} {k : Int} {v : V} (h : acc.map (·.1) = ns.map (Sum.inl : Int → Key)) : ∃ ns' : List Int, (putK acc (Sum.inl k) v).map (·.1) = ns'.map (Sum.inl : Int → Key) ∧ ∀ j, j ∈ ns' ↔ j ∈ ns ∨ j = k := by
  have hm : ∀ j : Int, (Sum.inl j : Key) ∈ acc.map (·.1) ↔ j ∈ ns := fun j => by
    rw [h, List.mem_map]
    exact ⟨fun ⟨i, hi, e⟩ => by cases e; exact hi, fun hj => ⟨j, hj, rfl⟩⟩
  unfold putK
  by_cases c : (acc.any fun kv => decide (kv.1 = (Sum.inl k : Key))) = true
  · rw [if_pos c]
    refine ⟨ns, ?_, fun j => ⟨.inl, fun z => z.elim id fun e => ?_⟩⟩
    · rw [List.map_map, ← h]
      refine List.map_congr_left fun p _ => ?_
      show (if p.1 = Sum.inl k then (p.1, v) else p).1 = p.1
      split <;> rfl
    · subst e
      obtain ⟨p, hp, e⟩ := List.any_eq_true.mp c
      exact (hm j).mp (List.mem_map.mpr ⟨p, hp, of_decide_eq_true e⟩)
  · rw [if_neg c]
    refine ⟨ns ++ [k], ?_, fun j => ?_⟩
    · rw [List.map_append, List.map_append, h]; rfl
    · rw [List.mem_append, List.mem_singleton]
theorem mergeK_keys : ∀ {more acc : List (Key × V)} {ks ns : List Int}, acc.map (·.1) = ns.map (Sum.inl : Int → Key) → more.map (·.1) = ks.map (Sum.inl : Int → Key) → ∃ ns' : List Int, (mergeK acc more).map (·.1) = ns'.map (Sum.inl : Int → Key) ∧ ∀ j, j ∈ ns' ↔ j ∈ ns ∨ j ∈ ks
  | [], acc, ks, ns, h, h2 => by
    cases ks with
    | nil => exact ⟨ns, h, fun j => by simp⟩
    | cons k ks => cases h2
  | p :: more, acc, ks, ns, h, h2 => by
    cases ks with
    | nil => cases h2
    | cons k ks =>
      rw [List.map_cons, List.map_cons] at h2
      obtain ⟨e1, e2⟩ := List.cons.inj h2
      obtain ⟨p1, p2⟩ := p
      cases (show p1 = Sum.inl k from e1)
      obtain ⟨ns1, g1, g2⟩ := putK_keys (k := k) (v := p2) h
      obtain ⟨ns2, g3, g4⟩ := mergeK_keys g1 e2
      refine ⟨ns2, g3, fun j => ?_⟩
      rw [g4, g2, List.mem_cons]
      constructor
      · rintro ((a | a) | a)
        · exact .inl a
        · exact .inr (.inl a)
        · exact .inr (.inr a)
      · rintro (a | a | a)
        · exact .inl (.inl a)
        · exact .inl (.inr a)
        · exact .inr a
theorem bootD : bootBuiltins "dict" = some (.type "dict") := by decide +kernel
section
variable {X : Cx} {W : WX} {c : Fr} {ρ : List Sl} {e : Expr} {m : R D} {p p2 pos pos2 : Pos}
theorem e_sdic (ha : JE X W c ρ .bo e m) (hc : X.calm = true) (h1 : X.mg "sorted" = none) (h2 : X.mg "dict" = none) (g1 : Gl X "sorted" := by rfl) (g2 : Gl X "dict" := by rfl) (na : starEach [e] X.env = (false, eval e X.env) :: starEach [] X.env := by rfl)
    (nb : starEach [.Call (.Name "dict" p2) [e] [] pos2] X.env = (false, eval (.Call (.Name "dict" p2) [e] [] pos2) X.env) :: starEach [] X.env := by rfl) (pl : (backTo pos2 (starEach [] X.env)).any (·.1) = false := by rfl) (pl2 : (backTo pos (starEach [] X.env)).any (·.1) = false := by rfl) :
    JE X W c ρ .ra (.Call (.Name "sorted" p) [.Call (.Name "dict" p2) [e] [] pos2] [] pos) (l1 sdicD m) :=
  PE.imp (pe_callB (cr_sortedD hc) g1 h1 PyProof.Rows.boot_sorted (pa_cons (pe_callTy (call_dictP hc) g2 h2 bootD (a_cons ha a_nil na) (by decide) (by decide) na pl) pa_nil nb) (by decide) (by decide) nb pl2) fun σ H Q q => by
    have q' : Wd X W c ρ σ (args [m]) H fun ds H1 => ∀ vs, BoL X.bs c.hd H1 (OA c ρ σ) ds vs → ∃ (a : Addr) (ps : List Addr) (kvs : List (Key × V)), vs = [.ref a] ∧ SqL X.K H1 a (ps.map V.ref) ∧ Paired (fun p kv => SqT X.K H1 p [kV kv.1, kv.2]) ps kvs ∧ ∀ p, H1 p = none → rSortedD [.ref p] (L2.upd H1 p (.dK (mergeK [] kvs))) Q := by
      refine ⟨q.1, R.sat_bind.mpr (R.sat_mono (R.sat_bind.mp q.2) (fun d z => ?_) fun _ _ z => z)⟩
      show ∀ H', Pg c.T c.hd H H' → ∀ vs, _ → _
      intro H1 g vs ⟨v, vr, e1, rv, e2⟩
      cases (show vr = [] from e2)
      subst e1
      have z' : Wd X W c ρ σ (sdicD d) H _ := ⟨q.1, z⟩
      obtain ⟨r, e, k⟩ := z'.val (sdicD_calm d)
      unfold sdicD at e
      split at e
      · split at e
        · rename_i ks hks
          cases e
          obtain ⟨a, vs, rfl, hA, r1⟩ := bo_lst rv
          obtain ⟨ps, kvs, rfl, hp, hk⟩ := firsts_rep r1 hks
          obtain ⟨ns, hn, hm⟩ := mergeK_keys (acc := []) (ns := []) rfl hk
          refine ⟨a, ps, kvs, rfl, .of hA, hp, fun p hp0 => ⟨p, _, ns, rfl, upd_same, hn, fun hnd ns' p2 pm pw hp2 => ?_⟩⟩
          have hlt : ns'.Pairwise (· < ·) := by
            have hnd' : ns'.Nodup := pm.nodup_iff.mpr hnd
            exact (pw.and hnd').imp fun ⟨h1, h2⟩ => by omega
          have : ns' = sset ks := rise_eq hlt (sset_pw ks) fun j => by
            rw [sset_mem, pm.mem_iff, hm]; simp
          subst this
          have G1 : Gr H1 (L2.upd H1 p (.dK (mergeK [] kvs))) := Gr.laid hp0
          have G2 : Gr H1 (L2.upd (L2.upd H1 p (.dK (mergeK [] kvs))) p2 (.lst ((sset ks).map V.int))) := G1.trans (Gr.laid hp2)
          exact k _ (g.trans G2.pg) _ (RepX.back (fun _ => q.1.none g) (ra_lst hp2 G1 (repL_intsU _)))
        · cases e
      · cases e
    exact q'
end
end Ev


set_option Elab.async false
set_option linter.all false
set_option maxRecDepth 100000
/-! Ev, part B3: sorted of a list of pairs of ints. -/
namespace Ev
open PySem PySem.Spec PyProof.Rows L2 PySem.W
abbrev Pt := Int × Int
def insP (x : Pt) : List Pt → List Pt
  | [] => [x]
  | y :: l => if SrtO.lexB y x = true then y :: insP x l else x :: y :: l
def psort (ps : List Pt) : List Pt := ps.foldr insP []
theorem insP_perm (x : Pt) : ∀ l : List Pt, (insP x l).Perm (x :: l)
  | [] => List.Perm.refl _
  | y :: l => by
    unfold insP
    split
    · exact ((insP_perm x l).cons y).trans (List.Perm.swap x y l)
    · exact List.Perm.refl _
abbrev Ple (x y : Pt) : Prop := SrtO.lexB y x = false
theorem Ple.tr {x y z : Pt} (h1 : Ple x y) (h2 : Ple y z) : Ple x z := by
  have a := SrtO.lexB_no.mp h1
  have b := SrtO.lexB_no.mp h2
  refine SrtO.lexB_no.mpr ?_
  omega
theorem Ple.anti {x y : Pt} (h1 : Ple x y) (h2 : Ple y x) : x = y := by
  have a := SrtO.lexB_no.mp h1
  have b := SrtO.lexB_no.mp h2
  exact Prod.ext (by omega) (by omega)
theorem insP_pw {x : Pt} : ∀ {l : List Pt}, l.Pairwise Ple → (insP x l).Pairwise Ple
  | [], _ => by unfold insP; exact List.pairwise_singleton _ _
  | y :: l, h => by
    obtain ⟨h1, h2⟩ := List.pairwise_cons.mp h
    unfold insP
    by_cases q : SrtO.lexB y x = true
    · rw [if_pos q]
      refine List.pairwise_cons.mpr ⟨fun z hz => ?_, insP_pw h2⟩
      rcases List.mem_cons.mp ((insP_perm x l).mem_iff.mp hz) with rfl | hz
      · have a := SrtO.lexB_iff.mp q
        refine SrtO.lexB_no.mpr ?_
        omega
      · exact h1 z hz
    · rw [if_neg q]
      have q' : Ple x y := by simpa using q
      refine List.pairwise_cons.mpr ⟨fun z hz => ?_, h⟩
      rcases List.mem_cons.mp hz with rfl | hz
      · exact q'
      · exact q'.tr (h1 z hz)
theorem psort_perm : ∀ ps : List Pt, (psort ps).Perm ps
  | [] => List.Perm.refl _
  | x :: ps => (insP_perm x (psort ps)).trans ((psort_perm ps).cons x)
theorem psort_pw : ∀ ps : List Pt, (psort ps).Pairwise Ple
  | [] => List.Pairwise.nil
  | x :: ps => insP_pw (psort_pw ps)
theorem psort_eq {l ps : List Pt} (h : l.Perm ps) (p : l.Pairwise Ple) : l = psort ps :=
  List.Perm.eq_of_pairwise (fun a b _ _ h1 h2 => Ple.anti h1 h2) p (psort_pw ps) (h.trans (psort_perm ps).symm)
/-! ### the rule -/
def kvOf (h : Heap) : Value → Pt
  | .ref a => match h.get? a with
    | some o => match o.data with
      | .seq xs _ => match xs.toList with
        | [.int x _, .int y _] => (x, y)
        | _ => (0, 0)
      | _ => (0, 0)
    | none => (0, 0)
  | _ => (0, 0)
theorem kvOf_pair {h : Heap} {v : Value} {x y : Int} (p : Srt.IsPair h v x y) : kvOf h v = (x, y) := by
  obtain ⟨a, o, t, u, n, rfl, ho, hc, hd⟩ := p
  unfold kvOf
  simp only [ho, hd]
def rSortPQ (K : PySem.W.Frag) : List V → Hp → VK → Prop := fun vs H Q => ∃ (a : Addr) (zs : List (V × Pt)), vs = [V.ref a] ∧ SqL K H a (zs.map (·.1)) ∧ (∀ z ∈ zs, ∃ t, z.1 = .ref t ∧ SqT K H t [.int z.2.1, .int z.2.2]) ∧
  ∀ (ys : List (V × Pt)) (p : Addr), ys.Perm zs → (ys.map (·.2)).Pairwise Ple → H p = none → Q (.ref p) (L2.upd H p (.lst (ys.map (·.1))))
theorem vals_zip {h : Heap} : ∀ {zs : List (V × Pt)} {its : List Value}, Vals (zs.map (·.1)) its → (∀ z ∈ zs, ∃ t, z.1 = .ref t ∧ Srt.IsPair h (.ref t) z.2.1 z.2.2) → its.map (fun u => (backV u, kvOf h u)) = zs ∧ ∀ v ∈ its, (∃ a, v = .ref a) ∧ Srt.IsPair h v (kvOf h v).1 (kvOf h v).2
  | [], _, .nil, _ => ⟨rfl, fun v hv => by cases hv⟩
  | (x, p) :: zs, u :: its, .cons r rs, k => by
    obtain ⟨t, e, hp⟩ := k _ List.mem_cons_self
    obtain rfl : x = V.ref t := e
    obtain rfl : u = Value.ref t := r
    obtain ⟨i1, i2⟩ := vals_zip rs fun z hz => k z (List.mem_cons_of_mem _ hz)
    have ek := kvOf_pair hp
    refine ⟨?_, fun v hv => ?_⟩
    · rw [List.map_cons, i1, ek]; rfl
    · rcases List.mem_cons.mp hv with rfl | hv
      · rw [ek]; exact ⟨⟨_, rfl⟩, hp⟩
      · exact i2 v hv
theorem cr_sortPQ {X : Cx} : CallR X (.builtin "sorted") (rSortPQ X.K) := by
  intro pins s σ H vs us Q I r h
  obtain ⟨a, zs, rfl, hs, hx, q⟩ := h
  obtain ⟨its, rv, hl, hz⟩ := I.list hs
  rw [Vals.ref1 r]
  obtain ⟨e1, e2⟩ := vals_zip (h := s.heap) rv fun z hz => by
    obtain ⟨t, e, ht⟩ := hx z hz
    refine ⟨t, e, ?_⟩
    obtain ⟨its2, r2, ⟨o, ho, hc, n, hd⟩, _⟩ := I.tuple ht
    obtain ⟨u1, u2, rfl, ri, rj⟩ := vals2 r2
    obtain ⟨t1, rfl⟩ := ri
    obtain ⟨t2, rfl⟩ := rj
    exact ⟨t, o, t1, t2, n, rfl, ho, hc, hd⟩
  refine SrtO.sorted_pairsO (k := kvOf s.heap) hl.isList (by rw [← rv.length]; exact hz) (fun v hv => (e2 v hv).2) fun h' d out h1 h2 kp hd hn => ?_
  have h3 : ∀ u ∈ out, ∃ a, u = Value.ref a := fun u hu => (e2 u (h2.perm.mem_iff.mp hu)).1
  obtain ⟨n, hn⟩ := hn
  have ey : (out.map fun u => (backV u, kvOf s.heap u)).map (·.1) = out.map backV := by rw [List.map_map]; rfl
  have ek : (out.map fun u => (backV u, kvOf s.heap u)).map (·.2) = out.map (kvOf s.heap) := by rw [List.map_map]; rfl
  refine ⟨.ref d, L2.upd H d (.lst (out.map backV)), I.laid (t' := s.toks) kp hd ⟨?_, out, n, vals_back h3, hn⟩, rfl, ?_⟩
  · rw [List.length_map, h2.perm.length_eq, ← rv.length]; exact hz
  · rw [← ey]
    refine q _ d ?_ ?_ (I.hok.fresh hd)
    · rw [← e1]
      exact h2.perm.map _
    · rw [ek]
      exact List.pairwise_map.mpr h1
/-! ### sorted(d), pairs too -/
def dPr (p : Pt) : D := .tup [.int p.1, .int p.2]
def prs? : List D → Option (List Pt)
  | [] => some []
  | .tup [.int i, .int j] :: ds => (prs? ds).map ((i, j) :: ·)
  | _ :: _ => none
theorem prs?_map : ∀ ps : List Pt, prs? (ps.map dPr) = some ps
  | [] => rfl
  | p :: ps => by
    show (prs? (ps.map dPr)).map ((p.1, p.2) :: ·) = _
    rw [prs?_map ps]; rfl
theorem prs?_ok : ∀ {ds : List D} {ps : List Pt}, prs? ds = some ps → ds = ps.map dPr
  | [], ps, e => by cases e; rfl
  | d :: ds, ps, e => by
    unfold prs? at e
    split at e
    · rename_i he; cases he
    · rename_i i j ds' he
      cases he
      obtain ⟨ps', e1, rfl⟩ := Option.map_eq_some_iff.mp e
      rw [prs?_ok e1]; rfl
    · cases e
/-- the pairs of a list that is not empty -/
def pairsOf? : D → Option (List Pt)
  | .lst (x :: xs) => prs? (x :: xs)
  | _ => none
def sortQD (d : D) : R D := match pairsOf? d with
  | some ps => .ok (.lst ((psort ps).map dPr))
  | none => sortD d
theorem sortQD_calm (d : D) : Calm (sortQD d) := by
  unfold sortQD
  split
  · exact calm_ok
  · exact sortD_calm d
theorem sortQD_pairs (ps : List Pt) : sortQD (.lst (ps.map dPr)) = .ok (.lst ((psort ps).map dPr)) := by
  cases ps with
  | nil => rfl
  | cons p ps =>
    unfold sortQD
    rw [show pairsOf? (.lst ((p :: ps).map dPr)) = some (p :: ps) from prs?_map (p :: ps)]
theorem repL_zip {B : Bs} {H : Hp} {O : Ad} : ∀ {ps : List Pt} {vs : List V}, RepL B H O (ps.map dPr) vs → ∃ zs : List (V × Pt), zs.map (·.1) = vs ∧ zs.map (·.2) = ps ∧ ∀ z ∈ zs, Rep B H O (dPr z.2) z.1
  | [], vs, r => by
    cases (show vs = [] from r)
    exact ⟨[], rfl, rfl, fun z hz => by cases hz⟩
  | p :: ps, vs, r => by
    obtain ⟨v, vr, rfl, h1, h2⟩ := (show ∃ v vr, _ from r)
    obtain ⟨zs, e1, e2, h⟩ := repL_zip h2
    refine ⟨(v, p) :: zs, by rw [List.map_cons, e1], by rw [List.map_cons, e2], fun z hz => ?_⟩
    rcases List.mem_cons.mp hz with rfl | hz
    · exact h1
    · exact h z hz
theorem repL_back {B : Bs} {H : Hp} {O : Ad} : ∀ {zs : List (V × Pt)}, (∀ z ∈ zs, Rep B H O (dPr z.2) z.1) → RepL B H O ((zs.map (·.2)).map dPr) (zs.map (·.1))
  | [], _ => rfl
  | z :: zs, h => ⟨z.1, _, rfl, h z List.mem_cons_self, repL_back fun y hy => h y (List.mem_cons_of_mem _ hy)⟩
theorem rep_pair {B : Bs} {H : Hp} {O : Ad} {p : Pt} {v : V} (r : Rep B H O (dPr p) v) : ∃ t, v = .ref t ∧ SqT B.K H t [.int p.1, .int p.2] := by
  obtain ⟨a, ws, rfl, t1, r1⟩ := (show ∃ a vs, _ from r)
  obtain ⟨v1, vr1, q1, g1, g2⟩ := (show ∃ v vr, _ from r1)
  obtain ⟨v2, vr2, q2, g3, g4⟩ := (show ∃ v vr, _ from g2)
  cases (show vr2 = [] from g4)
  subst q2 q1
  cases (show v1 = V.int p.1 from g1)
  cases (show v2 = V.int p.2 from g3)
  exact ⟨a, rfl, t1.seq⟩
theorem c_sortQ {X : Cx} : CallR X (.builtin "sorted") (rDC X.bs (un1 sortQD)) := by
  intro pins s σ H xs us Q I r h
  obtain ⟨hdd, O, ds, d, hO, hb0, e0, q⟩ := h
  obtain ⟨a, rfl, e⟩ := un1_ok e0
  unfold sortQD at e
  split at e
  · rename_i ps hps
    cases e
    obtain ⟨v, rfl, hb⟩ := hb0.one
    unfold pairsOf? at hps
    split at hps
    · rename_i y ys
      have ed := prs?_ok hps
      rw [ed] at hb
      obtain ⟨p, vs, rfl, h1, r1⟩ := bo_lst hb
      obtain ⟨zs, z1, z2, z3⟩ := repL_zip r1
      rw [← z1] at h1
      refine cr_sortPQ pins s σ H _ us Q I r ⟨p, zs, rfl, .of h1, fun z hz => rep_pair (z3 z hz), fun ws p2 pm pw hl => ?_⟩
      have es : ws.map (·.2) = psort ps := psort_eq (by rw [← z2]; exact pm.map _) pw
      rw [← es] at q
      exact q _ _ (Gr.laid hl) (ra_lst hl (Gr.refl _) (repL_back fun z hz => z3 z (pm.mem_iff.mp hz)))
    · cases hps
  · exact c_sort pins s σ H xs us Q I r ⟨hdd, O, [a], d, hO, hb0, by rw [show un1 sortD [a] = sortD a from rfl]; exact e, q⟩
end Ev


set_option Elab.async false
set_option linter.all false
set_option maxRecDepth 100000
/-! Ev, part W: the draw of a digit from the hand, by values. -/
namespace Ev
open PySem PySem.Spec PyProof.Rows L2

abbrev G := L2.St → Hp → Option Int
abbrev GI (X : Cx) (e : Expr) (g : G) : Prop := PE X e fun σ H Q => ∃ v, g σ H = some v ∧ Q (.int v) H
abbrev GT (X : Cx) (e : Expr) (g : L2.St → Hp → Option Bool) : Prop := PT X e fun σ H Q => ∃ k, g σ H = some k ∧ Q k H
def gV (i : Nat) : G := fun σ _ => match σ[i]? with
  | some (some (V.int v)) => some v
  | _ => none
def gC (k : Int) : G := fun _ _ => some k
def g2 (f : Int → Int → Option Int) (a b : G) : G := fun σ H => (a σ H).bind fun x => (b σ H).bind fun y => f x y
def gRow (σ : L2.St) (H : Hp) : Option (List V) := match σ[0]? with
  | some (some (V.ref a)) => (match H a with
    | some (.lst vs) => some vs
    | _ => none)
  | _ => none
def gH (k : Nat) : G := fun σ H => (gRow σ H).bind fun vs => match vs[k]? with
  | some (V.int v) => some v
  | _ => none
def gCells (σ : L2.St) (H : Hp) : Option (List V) := (gRow σ H).bind fun vs => match vs[0]? with
  | some (V.ref p) => (match H p with
    | some (.lst ws) => some ws
    | _ => none)
  | _ => none
def gLen : G := fun σ H => (gCells σ H).map fun ws => (ws.length : Int)
def gAt (g : G) : G := fun σ H => (gCells σ H).bind fun ws => (g σ H).bind fun i => match atI ws i with
  | some (V.int v) => some v
  | _ => none
def c2 (f : Int → Int → Bool) (a b : G) : L2.St → Hp → Option Bool := fun σ H => (a σ H).bind fun x => (b σ H).map fun y => f x y
def cAnd (a b : L2.St → Hp → Option Bool) : L2.St → Hp → Option Bool := fun σ H => (a σ H).bind fun x => if x = true then b σ H else some false
section
variable {X : Cx} {e e1 e2 : Expr} {ga gb : G} {x y : Str} {pos p p2 p3 : Pos} {t1 t2 : L2.St → Hp → Option Bool}
theorem q_var (i : Nat) (hN : X.N[i]? = some x := by rfl) (hv : Vis X.env.scope x := by first | exact Or.inl rfl | exact Or.inr (Or.inl rfl)) (h1 : (x == ("__debug__" : Str)) = false := by decide) (h2 : (x == ("__classdict__" : Str)) = false := by decide) : GI X (.Name x pos) (gV i) :=
  PE.imp (pe_var hN hv h1 h2) fun σ H Q ⟨v, e, q⟩ => by
    unfold gV at e
    split at e
    · rename_i w e'
      cases e
      exact ⟨_, e', q⟩
    · cases e
theorem q_int {k : Int} {j} : GI X (.Constant (.int k) j pos) (gC k) := PE.imp pe_int fun σ H Q ⟨v, e, q⟩ => by cases e; exact q
theorem q_op {op : Operator} {r : R2} {f : Int → Int → Option Int} (ho : OpR X (binaryOp op) r) (hf : ∀ a b v H (Q : VK), f a b = some v → Q (.int v) H → r (.int a) (.int b) H Q) (ha : GI X e1 ga) (hb : GI X e2 gb) : GI X (.BinOp e1 op e2 pos) (g2 f ga gb) :=
  PE.imp (pe_op ho ha hb) fun σ H Q ⟨v, e, q⟩ => by
    unfold g2 at e
    rw [Option.bind_eq_some_iff] at e
    obtain ⟨a, ea, e⟩ := e
    rw [Option.bind_eq_some_iff] at e
    obtain ⟨b, eb, e⟩ := e
    exact ⟨a, ea, b, eb, hf a b v H Q e q⟩
def fAdd (a b : Int) : Option Int := some (a + b)
def fMul (a b : Int) : Option Int := if mulOk a b = true then some (a * b) else none
def fMod (a b : Int) : Option Int := if b ≠ 0 then some (a.fmod b) else none
def fDiv (a b : Int) : Option Int := if b ≠ 0 ∧ b.natAbs < 1073741824 then some (a.fdiv b) else none
def fPow (a b : Int) : Option Int := if 0 ≤ b ∧ b ≤ 10000 ∧ a.natAbs < 2 ^ 64 then some (a ^ b.toNat) else none
theorem q_add (ha : GI X e1 ga) (hb : GI X e2 gb) : GI X (.BinOp e1 .Add e2 pos) (g2 fAdd ga gb) := q_op op_add (fun a b v H Q e q => by cases e; exact ⟨_, _, rfl, rfl, q⟩) ha hb
theorem q_mul (ha : GI X e1 ga) (hb : GI X e2 gb) : GI X (.BinOp e1 .Mult e2 pos) (g2 fMul ga gb) := q_op op_mul (fun a b v H Q e q => by
  unfold fMul at e
  split at e
  · rename_i h
    cases e
    unfold mulOk at h
    rw [Bool.or_eq_true, decide_eq_true_eq, decide_eq_true_eq] at h
    exact ⟨_, _, rfl, rfl, h.imp natAbs_lt natAbs_lt, q⟩
  · cases e) ha hb
theorem q_mod (ha : GI X e1 ga) (hb : GI X e2 gb) : GI X (.BinOp e1 .Mod e2 pos) (g2 fMod ga gb) := q_op op_modN (fun a b v H Q e q => by
  unfold fMod at e
  split at e
  · cases e; exact ⟨_, _, rfl, rfl, by assumption, q⟩
  · cases e) ha hb
theorem q_div (ha : GI X e1 ga) (hb : GI X e2 gb) : GI X (.BinOp e1 .FloorDiv e2 pos) (g2 fDiv ga gb) := q_op op_fdivN (fun a b v H Q e q => by
  unfold fDiv at e
  split at e
  · cases e; exact ⟨_, _, rfl, rfl, by assumption, q⟩
  · cases e) ha hb
theorem q_pow (ha : GI X e1 ga) (hb : GI X e2 gb) : GI X (.BinOp e1 .Pow e2 pos) (g2 fPow ga gb) := q_op op_pow (fun a b v H Q e q => by
  unfold fPow at e
  split at e
  · rename_i h
    cases e; exact ⟨_, _, rfl, rfl, ⟨h.1, by omega, h.2.2⟩, q⟩
  · cases e) ha hb
theorem gRow_some {σ : L2.St} {H : Hp} {vs : List V} (h : gRow σ H = some vs) : ∃ a, σ[0]? = some (some (.ref a)) ∧ H a = some (.lst vs) := by
  unfold gRow at h
  split at h
  · split at h
    · cases h; exact ⟨_, by assumption, by assumption⟩
    · cases h
  · cases h
theorem atI_nat {vs : List V} {k : Nat} {v : V} (h : vs[k]? = some v) : atI vs (k : Int) = some v := getAt_nat h
/-- hand[k] -/
theorem q_item {j} (k : Nat) (hN : X.N[0]? = some x := by rfl) (hv : Vis X.env.scope x := by first | exact Or.inl rfl | exact Or.inr (Or.inl rfl)) (h1 : (x == ("__debug__" : Str)) = false := by decide) (h2 : (x == ("__classdict__" : Str)) = false := by decide) (hs : PlainIx (.Constant (.int (k : Int)) j p2) := by exact fun _ _ => rfl) :
    GI X (.Subscript (.Name x p) (.Constant (.int (k : Int)) j p2) pos) (gH k) :=
  PE.imp (pe_ix ix_list (pe_var hN hv h1 h2) pe_int hs) fun σ H Q ⟨v, e, q⟩ => by
    unfold gH at e
    rw [Option.bind_eq_some_iff] at e
    obtain ⟨vs, e1, e⟩ := e
    obtain ⟨a, e2, e3⟩ := gRow_some e1
    split at e
    · rename_i w e4
      cases e
      exact ⟨_, e2, a, vs, k, _, rfl, rfl, .of e3, atI_nat e4, q⟩
    · cases e
theorem gCells_some {σ : L2.St} {H : Hp} {ws : List V} (h : gCells σ H = some ws) : ∃ a vs p, σ[0]? = some (some (.ref a)) ∧ H a = some (.lst vs) ∧ vs[0]? = some (.ref p) ∧ H p = some (.lst ws) := by
  unfold gCells at h
  rw [Option.bind_eq_some_iff] at h
  obtain ⟨vs, e1, h⟩ := h
  obtain ⟨a, e2, e3⟩ := gRow_some e1
  split at h
  · split at h
    · cases h; exact ⟨a, vs, _, e2, e3, by assumption, by assumption⟩
    · cases h
  · cases h
/-- len(hand[0]) -/
theorem q_len {j} (hm : X.mg "len" = none) (hN : X.N[0]? = some x := by rfl) (hg : Gl X "len" := by rfl) (hv : Vis X.env.scope x := by first | exact Or.inl rfl | exact Or.inr (Or.inl rfl)) (h1 : (x == ("__debug__" : Str)) = false := by decide) (h2 : (x == ("__classdict__" : Str)) = false := by decide) (hs : PlainIx (.Constant (.int 0) j p2) := by exact fun _ _ => rfl)
    (he : starEach [.Subscript (.Name x p) (.Constant (.int 0) j p2) p3] X.env = (false, eval (.Subscript (.Name x p) (.Constant (.int 0) j p2) p3) X.env) :: starEach [] X.env := by rfl) (hpl : (backTo pos (starEach [] X.env)).any (·.1) = false := by rfl) {p4 : Pos} :
    GI X (.Call (.Name "len" p4) [.Subscript (.Name x p) (.Constant (.int 0) j p2) p3] [] pos) gLen :=
  PE.imp (pe_callB call_len_seq hg hm boot_len (pa_cons (pe_ix ix_list (pe_var hN hv h1 h2) pe_int hs) pa_nil he) (by decide) (by decide) he hpl) fun σ H Q ⟨v, e, q⟩ => by
    unfold gLen at e
    rw [Option.map_eq_some_iff] at e
    obtain ⟨ws, e1, rfl⟩ := e
    obtain ⟨a, vs, p, e2, e3, e4, e5⟩ := gCells_some e1
    exact ⟨_, e2, a, vs, 0, _, rfl, rfl, .of e3, atI_nat e4, p, ws, rfl, .inl (.of e5), q⟩
/-- hand[0][e] -/
theorem q_cell {j} (hb : GI X e1 ga) (hs2 : PlainIx e1 := by exact fun _ _ => rfl) (hN : X.N[0]? = some x := by rfl) (hv : Vis X.env.scope x := by first | exact Or.inl rfl | exact Or.inr (Or.inl rfl)) (h1 : (x == ("__debug__" : Str)) = false := by decide) (h2 : (x == ("__classdict__" : Str)) = false := by decide) (hs : PlainIx (.Constant (.int 0) j p2) := by exact fun _ _ => rfl) :
    GI X (.Subscript (.Subscript (.Name x p) (.Constant (.int 0) j p2) p3) e1 pos) (gAt ga) :=
  PE.imp (pe_ix ix_list (pe_ix ix_list (pe_var hN hv h1 h2) pe_int hs) hb hs2) fun σ H Q ⟨v, e, q⟩ => by
    unfold gAt at e
    rw [Option.bind_eq_some_iff] at e
    obtain ⟨ws, ew, e⟩ := e
    rw [Option.bind_eq_some_iff] at e
    obtain ⟨i, ei, e⟩ := e
    obtain ⟨a, vs, p, e2, e3, e4, e5⟩ := gCells_some ew
    split at e
    · rename_i w e6
      cases e
      exact ⟨_, e2, a, vs, 0, _, rfl, rfl, .of e3, atI_nat e4, i, ei, p, ws, i, _, rfl, rfl, .of e5, e6, q⟩
    · cases e
/-- int(e) -/
theorem q_toInt (hm : X.mg "int" = none) (ha : GI X e1 ga) (hg : Gl X "int" := by rfl) (he : starEach [e1] X.env = (false, eval e1 X.env) :: starEach [] X.env := by rfl) (hpl : (backTo pos (starEach [] X.env)).any (·.1) = false := by rfl) : GI X (.Call (.Name "int" p) [e1] [] pos) ga :=
  PE.imp (pe_callTy call_int1 hg hm boot_int (pa_cons ha pa_nil he) (by decide) (by decide) he hpl) fun σ H Q ⟨v, e, q⟩ => ⟨v, e, .inl ⟨v, rfl, q⟩⟩
theorem q_cmp {op : CmpOp} {f : Int → Int → Bool} {r : R2} (ho : OpR X (compareOp op) r) (hf : ∀ a b H (Q : VK), Q (.bl (f a b)) H → r (.int a) (.int b) H Q) (ha : GI X e1 ga) (hb : GI X e2 gb) (hm : behindInMarks op e2 = false := by rfl) : GT X (.Compare e1 [op] [e2] pos) (c2 f ga gb) :=
  PT.imp (pt_cmpR ho ha hb hm) fun σ H Q ⟨k, e, q⟩ => by
    unfold c2 at e
    rw [Option.bind_eq_some_iff] at e
    obtain ⟨a, ea, e⟩ := e
    rw [Option.map_eq_some_iff] at e
    obtain ⟨b, eb, rfl⟩ := e
    exact ⟨a, ea, b, eb, hf a b H _ ⟨_, rfl, q⟩⟩
theorem q_and (h1 : GT X e1 t1) (h2 : GT X e2 t2) : GT X (.BoolOp .And [e1, e2] pos) (cAnd t1 t2) :=
  PT.imp (pw_and h1 (pw_and1 h2)).pt fun σ H Q ⟨k, e, q⟩ => by
    unfold cAnd at e
    rw [Option.bind_eq_some_iff] at e
    obtain ⟨a, ea, e⟩ := e
    refine ⟨a, ea, ?_⟩
    cases a with
    | true => exact ⟨k, e, q⟩
    | false => cases e; exact q
theorem q_eq (ha : GI X e1 ga) (hb : GI X e2 gb) : GT X (.Compare e1 [.Eq] [e2] pos) (c2 (fun a b => decide (a = b)) ga gb) := q_cmp op_eq (fun a b H Q q => ⟨rfl, by rw [dec_int, Bool.beq_eq_decide_eq]; exact q⟩) ha hb (nomark _)
theorem q_lt (ha : GI X e1 ga) (hb : GI X e2 gb) : GT X (.Compare e1 [.Lt] [e2] pos) (c2 (fun a b => decide (a < b)) ga gb) := q_cmp op_lt (fun a b H Q q => ⟨_, _, rfl, rfl, q⟩) ha hb (nomark _)
theorem q_gt (ha : GI X e1 ga) (hb : GI X e2 gb) : GT X (.Compare e1 [.Gt] [e2] pos) (c2 (fun a b => decide (b < a)) ga gb) := q_cmp op_gt (fun a b H Q q => ⟨_, _, rfl, rfl, q⟩) ha hb (nomark _)
theorem q_ge (ha : GI X e1 ga) (hb : GI X e2 gb) : GT X (.Compare e1 [.GtE] [e2] pos) (c2 (fun a b => decide (b ≤ a)) ga gb) := q_cmp op_ge (fun a b H Q q => ⟨_, _, rfl, rfl, q⟩) ha hb (nomark _)
/-- name = e; hand[k] = e -/
def qSet (i : Nat) (g : G) : TS := fun Dn σ H => ∃ v, g σ H = some v ∧ Dn.nx (σ.set i (some (.int v))) H
def qPut (k : Nat) (g : G) : TS := fun Dn σ H => ∃ v a vs, g σ H = some v ∧ σ[0]? = some (some (.ref a)) ∧ H a = some (.lst vs) ∧ k < vs.length ∧ Dn.nx σ (L2.upd H a (.lst (vs.set k (.int v))))
def qIf (c : L2.St → Hp → Option Bool) (t u : TS) : TS := fun Dn σ H => ∃ k, c σ H = some k ∧ if k = true then t Dn σ H else u Dn σ H
def qRet (g : G) : TS := fun Dn σ H => ∃ v, g σ H = some v ∧ Dn.rt (.int v) H
theorem r_set (i : Nat) (hN : X.N.Nodup) (ha : GI X e1 ga) (hn : X.N[i]? = some x := by rfl) (hx : Loc X.env.scope x := by first | exact Or.inl rfl | exact Or.inr rfl) (hs : swapsWith e1 (some (.Name x p)) pos.line X.env = pure false := by rfl) (hf : X.fn x = true ∨ X.env.scope.names.lookup x = some .local := by first | exact .inl rfl | exact .inr rfl) : PS X (.Assign [.Name x p] e1 pos) (qSet i ga) :=
  PS.imp (ps_set hN hn hx ha hs hf) fun Dn σ H ⟨v, e, q⟩ => ⟨v, e, q⟩
theorem r_put {j} (k : Nat) (ha : GI X e1 ga) (hN : X.N[0]? = some x := by rfl) (hv : Vis X.env.scope x := by first | exact Or.inl rfl | exact Or.inr (Or.inl rfl)) (h1 : (x == ("__debug__" : Str)) = false := by decide) (h2 : (x == ("__classdict__" : Str)) = false := by decide)
    (hs : swapsWithSole [.Subscript (.Name x p) (.Constant (.int (k : Int)) j p2) p3] e1 pos.line X.env = pure false := by rfl) (hw : swappedStores [.Subscript (.Name x p) (.Constant (.int (k : Int)) j p2) p3] e1 X.env = pure none := by rfl) (h3 : (assignEach [.Subscript (.Name x p) (.Constant (.int (k : Int)) j p2) p3] X.env).map (·.2) = [assign (.Subscript (.Name x p) (.Constant (.int (k : Int)) j p2) p3) X.env] := by rfl)
    (h4 : ∀ v, assign (.Subscript (.Name x p) (.Constant (.int (k : Int)) j p2) p3) X.env v = (do
      let ov ← holding [v] (eval (.Name x p) X.env)
      let iv ← holding [v, ov] (eval (.Constant (.int (k : Int)) j p2) X.env)
      standAt p3
      holding [v, ov, iv] (setItem ov iv v)
      release [v, ov, iv] []) := by intro _; rfl) : PS X (.Assign [.Subscript (.Name x p) (.Constant (.int (k : Int)) j p2) p3] e1 pos) (qPut k ga) :=
  PS.imp (ps_asg ha (pg_sub (pe_var hN hv h1 h2) pe_int set_list h4) hs hw h3) fun Dn σ H ⟨v, a, vs, e, e1, e2, hk, q⟩ => by
    refine ⟨v, e, .ref a, e1, a, vs, k, k, rfl, rfl, e2, ?_, q⟩
    show ixAt vs.length (k : Int) = some k
    unfold ixAt
    rw [if_pos (by omega), if_pos (by omega)]
    simp
theorem r_if {a b : List Stmt} {t u : TS} (hc : GT X e1 t1) (ha : PSs X a t) (hb : PSs X b u) : PS X (.If e1 a b pos) (qIf t1 t u) :=
  PS.imp (ps_if hc ha hb) fun Dn σ H ⟨k, e, q⟩ => ⟨k, e, q⟩
theorem r_ret (ha : GI X e1 ga) : PS X (.Return (some e1) pos) (qRet ga) := PS.imp (ps_ret ha) fun Dn σ H ⟨v, e, q⟩ => ⟨v, e, q⟩
end

/-! ### what the draw does -/
/-- the state under way: the hand at a, its cells at p -/
def DrawAt (H0 : Hp) (a p : Addr) (i j k l : Int) (H : Hp) : Prop := 0 ≤ i ∧ 0 ≤ j ∧ 0 ≤ k ∧ 0 ≤ l ∧ H = L2.upd H0 a (.lst [.ref p, .int i, .int j, .int k, .int l])
section
variable {H0 H : Hp} {a p : Addr} {i j k l n : Int} {σ : L2.St} {cs : List Int}
theorem DrawAt.row (h : DrawAt H0 a p i j k l H) (e : σ[0]? = some (some (.ref a))) : gRow σ H = some [.ref p, .int i, .int j, .int k, .int l] := by
  unfold gRow
  rw [e, h.2.2.2.2]
  show (match L2.upd H0 a _ a with | some (.lst vs) => some vs | _ => none) = _
  rw [upd_same]
theorem DrawAt.cells (h : DrawAt H0 a p i j k l H) (e : σ[0]? = some (some (.ref a))) (hp : H0 p = some (.lst (cs.map V.int))) (n : p ≠ a) : gCells σ H = some (cs.map V.int) := by
  unfold gCells
  rw [h.row e]
  show (match H p with | some (.lst ws) => some ws | _ => none) = _
  rw [h.2.2.2.2, upd_ne n, hp]
theorem DrawAt.put1 (h : DrawAt H0 a p i j k l H) (e : σ[0]? = some (some (.ref a))) {g : G} {v : Int} {Dn : Ends} (hg : g σ H = some v) (hv : 0 ≤ v) (q : ∀ H', DrawAt H0 a p v j k l H' → Dn.nx σ H') : qPut 1 g Dn σ H := by
  obtain ⟨h1, h2, h3, h4, rfl⟩ := h
  refine ⟨v, a, _, hg, e, upd_same, (by show 1 < 5; decide), ?_⟩
  rw [upd_upd]
  exact q _ ⟨hv, h2, h3, h4, rfl⟩
theorem DrawAt.put2 (h : DrawAt H0 a p i j k l H) (e : σ[0]? = some (some (.ref a))) {g : G} {v : Int} {Dn : Ends} (hg : g σ H = some v) (hv : 0 ≤ v) (q : ∀ H', DrawAt H0 a p i v k l H' → Dn.nx σ H') : qPut 2 g Dn σ H := by
  obtain ⟨h1, h2, h3, h4, rfl⟩ := h
  refine ⟨v, a, _, hg, e, upd_same, (by show 2 < 5; decide), ?_⟩
  rw [upd_upd]
  exact q _ ⟨h1, hv, h3, h4, rfl⟩
theorem DrawAt.put3 (h : DrawAt H0 a p i j k l H) (e : σ[0]? = some (some (.ref a))) {g : G} {v : Int} {Dn : Ends} (hg : g σ H = some v) (hv : 0 ≤ v) (q : ∀ H', DrawAt H0 a p i j v l H' → Dn.nx σ H') : qPut 3 g Dn σ H := by
  obtain ⟨h1, h2, h3, h4, rfl⟩ := h
  refine ⟨v, a, _, hg, e, upd_same, (by show 3 < 5; decide), ?_⟩
  rw [upd_upd]
  exact q _ ⟨h1, h2, hv, h4, rfl⟩
theorem DrawAt.put4 (h : DrawAt H0 a p i j k l H) (e : σ[0]? = some (some (.ref a))) {g : G} {v : Int} {Dn : Ends} (hg : g σ H = some v) (hv : 0 ≤ v) (q : ∀ H', DrawAt H0 a p i j k v H' → Dn.nx σ H') : qPut 4 g Dn σ H := by
  obtain ⟨h1, h2, h3, h4, rfl⟩ := h
  refine ⟨v, a, _, hg, e, upd_same, (by show 4 < 5; decide), ?_⟩
  rw [upd_upd]
  exact q _ ⟨h1, h2, h3, hv, rfl⟩
theorem DrawAt.h1 (h : DrawAt H0 a p i j k l H) (e : σ[0]? = some (some (.ref a))) : gH 1 σ H = some i := by unfold gH; rw [h.row e]; rfl
theorem DrawAt.h2 (h : DrawAt H0 a p i j k l H) (e : σ[0]? = some (some (.ref a))) : gH 2 σ H = some j := by unfold gH; rw [h.row e]; rfl
theorem DrawAt.h3 (h : DrawAt H0 a p i j k l H) (e : σ[0]? = some (some (.ref a))) : gH 3 σ H = some k := by unfold gH; rw [h.row e]; rfl
theorem DrawAt.h4 (h : DrawAt H0 a p i j k l H) (e : σ[0]? = some (some (.ref a))) : gH 4 σ H = some l := by unfold gH; rw [h.row e]; rfl
theorem g2_some {f : Int → Int → Option Int} {x y : G} {u v w : Int} (h1 : x σ H = some u) (h2 : y σ H = some v) (h3 : f u v = some w) : g2 f x y σ H = some w := by unfold g2; rw [h1, h2]; exact h3
theorem mod_some {x m : Int} (h : m ≠ 0) : fMod x m = some (x.fmod m) := if_pos h
theorem mul_some {x y : Int} (h : mulOk x y = true) : fMul x y = some (x * y) := if_pos h
theorem mulOk_r {x y : Int} (h : y.natAbs < 2 ^ 64) : mulOk x y = true := by unfold mulOk; rw [Bool.or_eq_true, decide_eq_true_eq, decide_eq_true_eq]; exact .inr h
theorem mulOk_l {x y : Int} (h : x.natAbs < 2 ^ 64) : mulOk x y = true := by unfold mulOk; rw [Bool.or_eq_true, decide_eq_true_eq, decide_eq_true_eq]; exact .inl h
/-- the draw's text, its seed's step gS, its mixing -/
def tDraw (gS gM1 gM2 gM3 : G) : TS :=
  tSeq (qIf (cAnd (c2 (fun a b => decide (a = b)) (gH 2) (gC 0)) (c2 (fun a b => decide (a < b)) (gH 1) gLen))
    (tSeq (qSet 2 (gAt (gH 1))) (tSeq (qPut 1 (g2 fAdd (gH 1) (gC 1))) (tSeq (qPut 3 gS) (qIf (c2 (fun a b => decide (b ≤ a)) (gV 2) (g2 fPow (gC 10) (gC 18))) (qPut 2 (gV 2)) tNext)))) tNext)
  (tSeq (qIf (c2 (fun a b => decide (b < a)) (gH 2) (gC 0)) (tSeq (qSet 3 (g2 fMod (gH 2) (gV 1))) (tSeq (qPut 2 (g2 fDiv (gH 2) (gV 1))) (qRet (gV 3)))) tNext)
  (tSeq (qPut 4 (g2 fAdd (gH 4) (gC 1))) (tSeq (qSet 4 gM1) (tSeq (qSet 4 gM2) (tSeq (qSet 4 gM3) (qRet (g2 fMod (g2 fDiv (gV 4) (gC 16)) (gV 1))))))))
theorem draw_plain {gS gM1 gM2 gM3 : G} {Q : VK} (hp : HandP H0 a p) (hn : 0 < n) (hn2 : n < 1073741824)
    (hS : ∀ (σ : L2.St) (H : Hp) (i j k l v : Int), DrawAt H0 a p i j k l H → σ[0]? = some (some (.ref a)) → σ[2]? = some (some (.int v)) → ∃ w, gS σ H = some w ∧ 0 ≤ w)
    (hM1 : ∀ (σ : L2.St) (H : Hp) (i j k l : Int), DrawAt H0 a p i j k l H → σ[0]? = some (some (.ref a)) → ∃ w, gM1 σ H = some w ∧ 0 ≤ w ∧ w < 2 ^ 32)
    (hM2 : ∀ (σ : L2.St) (H : Hp) (v : Int), σ[4]? = some (some (.int v)) → 0 ≤ v → v < 2 ^ 32 → ∃ w, gM2 σ H = some w ∧ 0 ≤ w ∧ w < 2 ^ 32)
    (hM3 : ∀ (σ : L2.St) (H : Hp) (v : Int), σ[4]? = some (some (.int v)) → 0 ≤ v → v < 2 ^ 32 → ∃ w, gM3 σ H = some w ∧ 0 ≤ w ∧ w < 2 ^ 32)
    (hQ : ∀ (d i j k l : Int) H', 0 ≤ d → d < n → DrawAt H0 a p i j k l H' → Q (.int d) H') :
    tDraw gS gM1 gM2 gM3 { nx := fun _ H' => Q .non H', rt := Q } [some (.ref a), some (.int n), none, none, none] H0 := by
  obtain ⟨cs, i, j, k, l, hc, h1, h2⟩ := hp
  unfold handC at hc
  simp only [Bool.and_eq_true, decide_eq_true_eq, List.all_eq_true] at hc
  obtain ⟨⟨⟨⟨hcs, hi⟩, hj⟩, hk⟩, hl⟩ := hc
  have hpa : p ≠ a := fun z => by
    rw [z, h1] at h2
    cases cs with
    | nil => cases h2
    | cons x xs => injection h2 with h2; injection h2 with h2; injection h2 with h2; cases h2
  have st : DrawAt H0 a p i j k l H0 := ⟨hi, hj, hk, hl, funext fun b => by
    by_cases e : b = a
    · rw [e, upd_same, h1]
    · rw [upd_ne e]⟩
  have hmod : ∀ x : Int, 0 ≤ x.fmod n ∧ x.fmod n < n := fun x => by
    rw [Int.fmod_eq_emod_of_nonneg x (Int.le_of_lt hn)]
    exact ⟨Int.emod_nonneg _ (by omega), Int.emod_lt_of_pos _ hn⟩
  -- behind the first part
  have part2 : ∀ (σ : L2.St) (H : Hp) (i j k l : Int), DrawAt H0 a p i j k l H → σ[0]? = some (some (.ref a)) → σ[1]? = some (some (.int n)) → σ.length = 5 →
      tSeq (qIf (c2 (fun a b => decide (b < a)) (gH 2) (gC 0)) (tSeq (qSet 3 (g2 fMod (gH 2) (gV 1))) (tSeq (qPut 2 (g2 fDiv (gH 2) (gV 1))) (qRet (gV 3)))) tNext)
      (tSeq (qPut 4 (g2 fAdd (gH 4) (gC 1))) (tSeq (qSet 4 gM1) (tSeq (qSet 4 gM2) (tSeq (qSet 4 gM3) (qRet (g2 fMod (g2 fDiv (gV 4) (gC 16)) (gV 1))))))) { nx := fun _ H' => Q .non H', rt := Q } σ H := by
    intro σ H i j k l D e0 e1 hlen
    have v1 : gV 1 σ H = some n := by unfold gV; rw [e1]
    refine ⟨decide (0 < j), by unfold c2; rw [D.h2 e0]; rfl, ?_⟩
    by_cases hj0 : 0 < j
    · rw [decide_eq_true hj0, if_pos rfl]
      have e3 : (σ.set 3 (some (V.int (j.fmod n))))[0]? = some (some (.ref a)) := by rw [List.getElem?_set_ne (by decide)]; exact e0
      have e4 : (σ.set 3 (some (V.int (j.fmod n))))[1]? = some (some (.int n)) := by rw [List.getElem?_set_ne (by decide)]; exact e1
      refine ⟨j.fmod n, g2_some (D.h2 e0) v1 (mod_some (by omega)), ?_⟩
      refine D.put2 e3 (v := j.fdiv n) (g2_some (D.h2 e3) (by unfold gV; rw [e4]) (if_pos ⟨by omega, by omega⟩)) ?_ fun H' D' => ?_
      · rw [Int.fdiv_eq_ediv_of_nonneg j (Int.le_of_lt hn)]
        exact Int.ediv_nonneg (Int.le_of_lt hj0) (Int.le_of_lt hn)
      · exact ⟨j.fmod n, by unfold gV; rw [List.getElem?_set_self (by omega)], hQ _ _ _ _ _ _ (hmod j).1 (hmod j).2 D'⟩
    · rw [decide_eq_false hj0, if_neg (by decide)]
      refine D.put4 e0 (v := l + 1) (g2_some (D.h4 e0) rfl rfl) (by have := D.2.2.2.1; omega) fun H' D' => ?_
      obtain ⟨w1, q1, b1, c1⟩ := hM1 σ H' _ _ _ _ D' e0
      refine ⟨w1, q1, ?_⟩
      obtain ⟨w2, q2, b2, c2⟩ := hM2 (σ.set 4 (some (.int w1))) H' w1 (by rw [List.getElem?_set_self (by omega)]) b1 c1
      refine ⟨w2, q2, ?_⟩
      obtain ⟨w3, q3, b3, c3⟩ := hM3 ((σ.set 4 (some (.int w1))).set 4 (some (.int w2))) H' w2 (by rw [List.getElem?_set_self (by rw [List.length_set]; omega)]) b2 c2
      refine ⟨w3, q3, ?_⟩
      refine ⟨(w3.fdiv 16).fmod n, g2_some (g2_some (u := w3) (v := 16) (by unfold gV; rw [List.getElem?_set_self (by rw [List.length_set, List.length_set]; omega)]) rfl (if_pos ⟨by decide, by decide⟩)) (v := n) ?_ (mod_some (by omega)), hQ _ _ _ _ _ _ (hmod _).1 (hmod _).2 D'⟩
      unfold gV
      rw [List.getElem?_set_ne (by decide), List.getElem?_set_ne (by decide), List.getElem?_set_ne (by decide), e1]
  have e0 : ([some (V.ref a), some (V.int n), none, none, none] : L2.St)[0]? = some (some (.ref a)) := rfl
  have hcell := st.cells e0 h2 hpa
  have hlen : gLen [some (V.ref a), some (V.int n), none, none, none] H0 = some (cs.length : Int) := by unfold gLen; rw [hcell]; simp
  refine ⟨decide (j = 0) && decide (i < cs.length), ?_, ?_⟩
  · unfold cAnd c2
    rw [st.h2 e0, st.h1 e0, hlen]
    by_cases z : j = 0
    · simp [gC, z]
    · simp [gC, z]
  · by_cases hb : (decide (j = 0) && decide (i < cs.length)) = true
    · rw [hb, if_pos rfl]
      rw [Bool.and_eq_true, decide_eq_true_eq, decide_eq_true_eq] at hb
      have hil : i.toNat < cs.length := by omega
      have hc0 : 0 ≤ cs[i.toNat] := hcs _ (List.getElem_mem hil)
      refine ⟨cs[i.toNat], ?_, ?_⟩
      · unfold gAt
        rw [hcell, st.h1 e0]
        have : atI (cs.map V.int) i = some (V.int cs[i.toNat]) := by
          have := atI_nat (vs := cs.map V.int) (k := i.toNat) (v := V.int cs[i.toNat]) (by rw [List.getElem?_map, List.getElem?_eq_getElem hil]; rfl)
          rwa [Int.toNat_of_nonneg hi] at this
        show (match atI (cs.map V.int) i with | some (V.int v) => some v | _ => none) = _
        rw [this]
      · refine st.put1 rfl (v := i + 1) (g2_some (st.h1 rfl) rfl rfl) (by omega) fun H1 D1 => ?_
        obtain ⟨w, qw, bw⟩ := hS [some (V.ref a), some (V.int n), some (V.int cs[i.toNat]), none, none] H1 _ _ _ _ _ D1 rfl rfl
        refine D1.put3 rfl (v := w) qw bw fun H2 D2 => ?_
        refine ⟨decide (10 ^ 18 ≤ cs[i.toNat]), rfl, ?_⟩
        by_cases hg : (10 : Int) ^ 18 ≤ cs[i.toNat]
        · rw [decide_eq_true hg, if_pos rfl]
          exact D2.put2 rfl (v := cs[i.toNat]) rfl hc0 fun H3 D3 => part2 _ H3 _ _ _ _ D3 rfl rfl rfl
        · rw [decide_eq_false hg, if_neg (by decide)]
          exact part2 _ H2 _ _ _ _ D2 rfl rfl rfl
    · rw [Bool.not_eq_true] at hb
      rw [hb, if_neg (by decide)]
      exact part2 _ H0 _ _ _ _ st rfl rfl rfl
end
/-- what is kept by a draw -/
theorem draw_pg {T : List (Addr × Str)} {hd : Ad} {H0 H : Hp} {a p : Addr} {i j k l : Int} (ha : hd a) (h0 : HandP H0 a p) (h : DrawAt H0 a p i j k l H) : Pg T hd H0 H := by
  obtain ⟨hi, hj, hk, hl, rfl⟩ := h
  obtain ⟨cs, i0, j0, k0, l0, hc, h1, h2⟩ := h0
  have ne : ∀ (b : Addr) (cs : List Int), H0 b = some (.lst (cs.map V.int)) → b ≠ a := fun b cs e z => by
    rw [z, h1] at e
    cases cs with
    | nil => cases e
    | cons x xs => injection e with e; injection e with e; injection e with e; cases e
  refine ⟨fun b u _ e n => by rw [upd_ne fun z => n (by rw [z]; exact ha)]; exact e, fun b q hb hq => ?_, fun b ⟨u, t, e⟩ => ?_, fun h p hp => tab_upd h1 nt_lst (fun _ z => by cases z) (h p hp)⟩
  · obtain ⟨cs', i1, j1, k1, l1, hc', g1, g2⟩ := hq
    by_cases z : b = a
    · subst z
      rw [h1] at g1
      cases g1
      refine ⟨cs', i, j, k, l, ?_, upd_same, by rw [upd_ne (ne _ cs' g2)]; exact g2⟩
      unfold handC at hc' ⊢
      simp only [Bool.and_eq_true, decide_eq_true_eq] at hc' ⊢
      exact ⟨⟨⟨⟨hc'.1.1.1.1, hi⟩, hj⟩, hk⟩, hl⟩
    · exact ⟨cs', i1, j1, k1, l1, hc', by rw [upd_ne z]; exact g1, by rw [upd_ne (ne q cs' g2)]; exact g2⟩
  · by_cases z : b = a
    · rw [z]; exact ⟨_, nt_lst, upd_same⟩
    · exact ⟨u, t, by rw [upd_ne z]; exact e⟩
theorem draw_ok {P : Program} {w : World} {K : PySem.W.Frag} {mg : Str → Option Value} {base : Heap} {g : Bool} {f : Addr} {x qual : Str} {pa : Arguments} {body : List Stmt} {scope : Scope} {fd : FuncData} {N ps : List Str} {T : List (Addr × Str)} {gS gM1 gM2 gM3 : G}
    (Fn : FunD K x qual pa body scope [] [] f fd) (S : FnScope N ps scope) (hN : N.length = 5) (hps : ps.length = 2) (hm : mg x = some (.ref f)) (hB : Binds K fd ps [])
    (hb : ∀ (cdv : Value) (A : Around) (outer : List Env) (s : Shared) (H : Hp) (E : XK), PSs (bx P w K mg base N qual scope f cdv A outer s H E) body (tDraw gS gM1 gM2 gM3))
    (hS : ∀ (σ : L2.St) (H0 H : Hp) (a p : Addr) (i j k l v : Int), DrawAt H0 a p i j k l H → σ[0]? = some (some (.ref a)) → σ[2]? = some (some (.int v)) → ∃ w, gS σ H = some w ∧ 0 ≤ w)
    (hM1 : ∀ (σ : L2.St) (H0 H : Hp) (a p : Addr) (i j k l : Int), DrawAt H0 a p i j k l H → σ[0]? = some (some (.ref a)) → ∃ w, gM1 σ H = some w ∧ 0 ≤ w ∧ w < 2 ^ 32)
    (hM2 : ∀ (σ : L2.St) (H : Hp) (v : Int), σ[4]? = some (some (.int v)) → 0 ≤ v → v < 2 ^ 32 → ∃ w, gM2 σ H = some w ∧ 0 ≤ w ∧ w < 2 ^ 32)
    (hM3 : ∀ (σ : L2.St) (H : Hp) (v : Int), σ[4]? = some (some (.int v)) → 0 ≤ v → v < 2 ^ 32 → ∃ w, gM3 σ H = some w ∧ 0 ≤ w ∧ w < 2 ^ 32) : FnM P w K mg base T g 1 x true 1 .sh (un1 drawD) := by
  refine ⟨f, fd, ps, fd_of Fn S (fun vs H Q E q => by rw [spM_len q, hps]; rfl) fun cdv A outer s H vs Q E _ hr q => ⟨_, hb cdv A outer s H E, ?_⟩, hm, Fn.kp, hB⟩
  obtain ⟨hd, O, ds, ws, hn, ⟨a, rfl, ha⟩, hO, hdO, hds, htb, r, sat⟩ := q
  obtain ⟨d, rfl⟩ := List.length_eq_one_iff.mp hn
  obtain ⟨v, rfl, rv⟩ := r.one
  have sat : (drawD d).sat _ _ := sat
  unfold drawD at sat
  split at sat
  · rename_i n _
    split at sat
    · rename_i hn
      cases (show v = V.int n from rv)
      obtain ⟨p, hp, _⟩ := hds a ha
      have hst : L2.start N [V.ref a, V.int n] = [some (V.ref a), some (V.int n), none, none, none] := by unfold L2.start; rw [hN]; rfl
      rw [hst]
      refine draw_plain hp hn.1 hn.2 (fun σ H' i j k l v => hS σ H H' a p i j k l v) (fun σ H' i j k l => hM1 σ H H' a p i j k l) hM2 hM3 fun dg i j k l H' h0 h1 D => ?_
      have := sat dg.toNat (by omega)
      refine this _ H' (draw_pg ha hp D) ?_
      show V.int dg = V.int ((dg.toNat : Nat) : Int)
      rw [Int.toNat_of_nonneg h0]
    · exact (show False from sat).elim
  · exact (show False from sat).elim
/-- mixed values -/
theorem mix_mod {M x : Int} (h0 : 0 < M) (h1 : M < 2 ^ 32) : 0 ≤ x.fmod M ∧ x.fmod M < 2 ^ 32 := by
  rw [Int.fmod_eq_emod_of_nonneg x (Int.le_of_lt h0)]
  have := Int.emod_lt_of_pos x h0
  exact ⟨Int.emod_nonneg _ (by omega), by omega⟩
/-- int(mixed * (mixed // A + B)) % M -/
theorem mix_step {A B M : Int} (hA : A ≠ 0 ∧ A.natAbs < 1073741824) (h0 : 0 < M) (h1 : M < 2 ^ 32) : ∀ (σ : L2.St) (H : Hp) (v : Int), σ[4]? = some (some (.int v)) → 0 ≤ v → v < 2 ^ 32 → ∃ w, g2 fMod (g2 fMul (gV 4) (g2 fAdd (g2 fDiv (gV 4) (gC A)) (gC B))) (gC M) σ H = some w ∧ 0 ≤ w ∧ w < 2 ^ 32 := fun σ H v e hv hv2 => by
  have e4 : gV 4 σ H = some v := by unfold gV; rw [e]
  exact ⟨_, g2_some (g2_some e4 (g2_some (g2_some e4 rfl (if_pos hA)) rfl rfl) (mul_some (mulOk_l (by omega)))) rfl (mod_some (by omega)), mix_mod h0 h1⟩
theorem mix_first {A B M : Int} (hA : A.natAbs < 2 ^ 64) (hB : B.natAbs < 2 ^ 64) (h0 : 0 < M) (h1 : M < 2 ^ 32) : ∀ (σ : L2.St) (H0 H : Hp) (a p : Addr) (i j k l : Int), DrawAt H0 a p i j k l H → σ[0]? = some (some (.ref a)) → ∃ w, g2 fMod (g2 fMul (g2 fAdd (gH 3) (g2 fMul (gC A) (gH 4))) (gC B)) (gC M) σ H = some w ∧ 0 ≤ w ∧ w < 2 ^ 32 := fun σ H0 H a p i j k l D e => by
  exact ⟨_, g2_some (g2_some (g2_some (D.h3 e) (g2_some rfl (D.h4 e) (mul_some (mulOk_l hA))) rfl) rfl (mul_some (mulOk_r hB))) rfl (mod_some (by omega)), mix_mod h0 h1⟩
/-- int(hand[3] * A + cell * B + C) % M -/
theorem seed_a {A B C M : Int} (hA : A.natAbs < 2 ^ 64) (hB : B.natAbs < 2 ^ 64) (h0 : 0 < M) (h1 : M < 2 ^ 32) : ∀ (σ : L2.St) (H0 H : Hp) (a p : Addr) (i j k l v : Int), DrawAt H0 a p i j k l H → σ[0]? = some (some (.ref a)) → σ[2]? = some (some (.int v)) → ∃ w, g2 fMod (g2 fAdd (g2 fAdd (g2 fMul (gH 3) (gC A)) (g2 fMul (gV 2) (gC B))) (gC C)) (gC M) σ H = some w ∧ 0 ≤ w := fun σ H0 H a p i j k l v D e e2 => by
  have e4 : gV 2 σ H = some v := by unfold gV; rw [e2]
  exact ⟨_, g2_some (g2_some (g2_some (g2_some (D.h3 e) rfl (mul_some (mulOk_r hA))) (g2_some e4 rfl (mul_some (mulOk_r hB))) rfl) rfl rfl) rfl (mod_some (by omega)), (mix_mod h0 h1).1⟩
/-- int(hand[3] * A + cell + C) % M -/
theorem seed_b {A C M : Int} (hA : A.natAbs < 2 ^ 64) (h0 : 0 < M) (h1 : M < 2 ^ 32) : ∀ (σ : L2.St) (H0 H : Hp) (a p : Addr) (i j k l v : Int), DrawAt H0 a p i j k l H → σ[0]? = some (some (.ref a)) → σ[2]? = some (some (.int v)) → ∃ w, g2 fMod (g2 fAdd (g2 fAdd (g2 fMul (gH 3) (gC A)) (gV 2)) (gC C)) (gC M) σ H = some w ∧ 0 ≤ w := fun σ H0 H a p i j k l v D e e2 => by
  have e4 : gV 2 σ H = some v := by unfold gV; rw [e2]
  exact ⟨_, g2_some (g2_some (g2_some (g2_some (D.h3 e) rfl (mul_some (mulOk_r hA))) e4 rfl) rfl rfl) rfl (mod_some (by omega)), (mix_mod h0 h1).1⟩
end Ev


set_option Elab.async false
set_option linter.all false
set_option maxRecDepth 100000
set_option maxHeartbeats 2000000
/-! Ev, part H: a law's end. -/
namespace Ev
open PySem PySem.Spec PyProof.Rows L2

section
variable {P : Program} {w : World} {K : PySem.W.Frag} {mg mb : Str → Option Value} {k : Nat} {fa a : Addr} {cs : List (Addr × Addr)} {fd : FuncData} {x : Str} {sp : Sp} {s1 : Shared} {vs : List Value} {ns : List Int}
abbrev tbO (ps : Array Value) : Obj := { cls := .none, data := .fields ps }
abbrev scO (vs : List Value) : Obj := { cls := .type "list", data := .seq vs.toArray }
/-- what is tracked at the law's call: the empty tables, the script where the module does not hold it -/
def startH (K : PySem.W.Frag) (a : Addr) (cs : List (Addr × Addr)) (vs : List Value) (ns : List Int) : Hp := fun b =>
  if b ∈ cs.map (·.2) then some (.tbl #[]) else if b = a ∧ K.lookup a = none then some (.frz (scO vs) (.lst (ns.map V.int))) else none
theorem startH_cases {K : PySem.W.Frag} {b : Addr} {u : HO} (h : startH K a cs vs ns b = some u) : (b ∈ cs.map (·.2) ∧ u = .tbl #[]) ∨ (b = a ∧ K.lookup a = none ∧ u = .frz (scO vs) (.lst (ns.map V.int))) := by
  unfold startH at h
  split at h
  · cases h; exact .inl ⟨by assumption, rfl⟩
  · split at h
    · rename_i z
      cases h; exact .inr ⟨z.1, z.2, rfl⟩
    · cases h
theorem fd_end (KX : K.In s1.heap) (hns : s1.heap.Ns mainGlobals mg) (hb : s1.heap.Ns builtinsNs mb) (hbb : ∀ x : Str, x ≠ "__name__" → mb x = bootBuiltins x) (hlim : s1.heap.NoLimit) (hgen : s1.gens = #[]) (hT : ∀ p ∈ cs, s1.heap.get? p.2 = some (tbO #[])) (nT : ∀ p ∈ cs, K.lookup p.2 = none)
    (hC : ∀ p ∈ cs, PySem.W.CodeHd s1.heap p.1 p.2) (hbm : ∃ (bm : Addr) (ob : Obj), mg "__builtins__" = some (.ref bm) ∧ bm ≠ builtinsNs ∧ s1.heap.get? bm = some ob ∧ ob.cls = .type "module" ∧ ob.dict = some builtinsNs ∧ ob.data = .plain)
    (ha : s1.heap.get? a = some (scO vs)) (hi : IntsAre vs ns) (hl : ns.length ≤ sizeLine) (hr : Room k callerA) (F : ∀ base : Heap, K.In base → base.Ns mainGlobals mg → (∀ p ∈ cs, LamX.TabB base mg p.1 p.2) → Fd P w K mg base true k fa fd [x] sp)
    (hbind : ∀ (s : Shared) (u : Value), BindsTo s fd ⟨[u], []⟩ [(x, u)]) (hsp : ∀ H : Hp, (∀ p ∈ cs, H p.2 = some (.tbl #[])) → SqL K H a (ns.map V.int) → sp [.ref a] H (fun v _ => v = .bl true) fun _ _ _ => False) :
    codeAny (model P w) callerA (.call (.ref fa) ⟨[.ref a], []⟩) (fun r s' => r = .ok (.ret (.bool true)) ∧ OldK s1.heap s'.heap ∧ s'.os = s1.os ∧ AllBare s'.gens) s1 := by
  have rv := vals_ints hi
  let H := startH K a cs vs ns
  have tabAt : ∀ b, b ∈ cs.map (·.2) → s1.heap.get? b = some (tbO #[]) := by
    intro b z
    obtain ⟨p, hp, rfl⟩ := List.mem_map.mp z
    exact hT p hp
  have aNot : a ∉ cs.map (·.2) := by
    intro z
    have := congrArg (fun o => o.map (·.data)) (ha.symm.trans (tabAt a z))
    simp at this
  have tabH : ∀ p ∈ cs, H p.2 = some (.tbl #[]) := fun p hp => if_pos (List.mem_map.mpr ⟨p, hp, rfl⟩)
  -- the objects that are tracked are neither namespaces nor of the module's part
  have untr : ∀ {b : Addr} {o : Obj}, s1.heap.get? b = some o → (∀ xs n, o.data ≠ .seq xs n) → o.data ≠ .fields #[] → H b = none := by
    intro b o e n1 n2
    cases q : H b with
    | none => rfl
    | some u =>
      rcases startH_cases q with ⟨z, _⟩ | ⟨rfl, _, _⟩
      · rw [tabAt b z] at e
        cases e
        exact absurd rfl n2
      · rw [ha] at e
        cases e
        exact absurd rfl (n1 _ _)
  have dicts : ∀ {b : Addr} {o : Obj} {es : Array DictEntry} {ep : Nat}, s1.heap.get? b = some o → o.data = .dict es ep → H b = none := fun {b o es ep} e d => untr e (fun _ _ z => by rw [d] at z; cases z) fun z => by rw [d] at z; cases z
  have hid : ∀ {b : Addr} {o : Obj}, s1.heap.get? b = some o → H b = none → (hidT s1.heap H).get? b = some o := fun e n => hidT_get e n
  have nsH : ∀ {b : Addr} {m : Str → Option Value}, s1.heap.Ns b m → (hidT s1.heap H).Ns b m := fun {b m} ⟨o, es, ep, e, d, r⟩ => ⟨o, es, ep, hid e (dicts e d), d, r⟩
  have inH : K.In (hidT s1.heap H) := by
    intro b o e
    refine hid (KX b o e) ?_
    cases q : H b with
    | none => rfl
    | some u =>
      rcases startH_cases q with ⟨z, _⟩ | ⟨rfl, z, _⟩
      · obtain ⟨p, hp, rfl⟩ := List.mem_map.mp z
        rw [nT p hp] at e; cases e
      · rw [z] at e; cases e
  have okH : HOk P w H s1.heap := by
    intro b u q
    rcases startH_cases q with ⟨z, rfl⟩ | ⟨rfl, _, rfl⟩
    · exact tabAt b z
    · exact ⟨ha, by rw [List.length_map]; exact hl, vs, _, rv, ha⟩
  have seqH : SqL K H a (ns.map V.int) := by
    cases q : K.lookup a with
    | none => exact .inl (.inr ⟨scO vs, (if_neg aNot).trans (if_pos ⟨rfl, q⟩)⟩)
    | some o =>
      have e := KX a o q
      rw [ha] at e
      cases e
      exact .inr ⟨_, vs.toArray, _, q, rfl, rfl, rfl, by rw [List.size_toArray, hi.length]; exact hl, by simpa using rv⟩
  have tbH : ∀ p ∈ cs, LamX.TabB (hidT s1.heap H) mg p.1 p.2 := by
    intro p hp
    have e0 := hT p hp
    refine ⟨?_, ?_, ?_⟩
    · obtain ⟨o, us, file, tf, flags, tg, inF, text, tt, e1, r1, r2, r3, rest⟩ := hC p hp
      refine ⟨o, us, file, tf, flags, tg, inF, text, tt, hid e1 (untr e1 (fun _ _ z => by rw [r2] at z; cases z) fun z => ?_), r1, r2, r3, rest⟩
      rw [r2] at z
      cases z
      simp at r3
    · obtain ⟨bm, ob, b1, b2, b3, b4, b5, b6⟩ := hbm
      refine ⟨bm, ob, b1, b2, ?_, ?_, hid b3 (untr b3 (fun _ _ z => by rw [b6] at z; cases z) fun z => by rw [b6] at z; cases z), b4, b5, b6⟩
      · rintro rfl
        obtain ⟨o, es, ep, e, d, _⟩ := hns
        rw [e] at b3
        cases b3
        rw [d] at b6; cases b6
      · rintro rfl
        rw [e0] at b3
        cases b3
        cases b6
    · intro z
      obtain ⟨o, es, ep, e, d, _⟩ := hns
      rw [z, e0] at e
      cases e
      cases d
  have e0 : Env0 P w K mg (hidT s1.heap H) callerA [] s1 H := ⟨rfl, ⟨inH, nsH hns, ⟨mb, nsH hb, hbb⟩, let ⟨mc, h1, h2⟩ := hlim; ⟨mc, nsH h1, h2⟩⟩, fun b o e => of_hidT e, Nat.le_of_eq (hidT_size _ _), trivial, fun b hb => absurd (show b ∈ ([] : List Addr) from hb) (by simp), okH, .of_eq hgen⟩
  have run := (F _ inH (nsH hns) tbH).run callerA [] s1 H ⟨[.ref a], []⟩ [.ref a] [.ref a] _ _ ⟨hr, fun _ => rfl⟩ e0 (hbind s1 (.ref a)) (.cons rfl .nil) (hsp H tabH seqH)
  refine codeAny_mono run fun r s' z => ?_
  match r, z with
  | .error e, z =>
    obtain ⟨_, _, _, _, _, _, _, _, _, _, _, _, q⟩ := z
    exact q.elim
  | .ok .next, z => exact z.elim
  | .ok .brk, z => exact z.elim
  | .ok .cont, z => exact z.elim
  | .ok (.ret u), z =>
    obtain ⟨v, H', os, bare, un, ok', r', rfl⟩ := z
    cases r'
    have other : ∀ b o, b ∉ cs.map (·.2) → s1.heap.get? b = some o → s'.heap.get? b = some o := by
      intro b o nb e
      cases q : H b with
      | none => exact un.keep b o e q (fun z => absurd (show b ∈ ([] : List Addr) from z) (by simp)) (by simp)
      | some u =>
        rcases startH_cases q with ⟨z, _⟩ | ⟨rfl, _, rfl⟩
        · exact absurd z nb
        · rw [ha] at e
          cases e
          exact (ok' _ _ (un.frzs _ _ _ q)).1
    have tables : ∀ b, b ∈ cs.map (·.2) → ∃ p ∈ cs, p.2 = b ∧ ∃ more : Array Value, s'.heap.get? b = some (tbO more) := by
      intro b z
      obtain ⟨p, hp, rfl⟩ := List.mem_map.mp z
      obtain ⟨more, q⟩ := un.tbls p.2 #[] (tabH p hp)
      exact ⟨p, hp, rfl, _, ok' p.2 _ q⟩
    refine ⟨rfl, ⟨fun b o e => ?_, fun b o e => ?_⟩, os, bare⟩
    · by_cases z : b ∈ cs.map (·.2)
      · obtain ⟨p, hp, rfl, more, hm⟩ := tables b z
        rw [hT p hp] at e
        cases e
        exact .inr (.inl ⟨((hC p hp).tab (hT p hp)).isCodeTable, rfl, #[], more, rfl, by rw [Array.empty_append]; exact hm⟩)
      · exact .inl (other b o z e)
    · by_cases z : b ∈ cs.map (·.2)
      · obtain ⟨p, hp, rfl, more, hm⟩ := tables b z
        exact ⟨_, hm⟩
      · exact ⟨o, other b o z e⟩
end
/-- the end of a law row -/
theorem walk_end {l : PySem.W.OpenLaw} {n k : Nat} {q : Program} {loose : List Str} {XP : (Str → Option Value) → Heap → Prop} {YP : World → Heap → Prop} {d : DefRec} {x : Str} (hn : l.most = some n) (hn2 : n ≤ sizeLine) (hdf : d.params.defaults = []) (hr : Room k callerA)
    (F : ∀ (w : World) (mg : Str → Option Value) (fa : Addr) (h : Heap), YP w h → h.Ns mainGlobals mg → mg d.name = some (.ref fa) → ∃ (K : PySem.W.Frag) (fd : FuncData) (cs : List (Addr × Addr)) (sp : Sp), K.In h ∧ (∀ p ∈ cs, h.get? p.2 = some (tbO #[])) ∧ (∀ p ∈ cs, K.lookup p.2 = none) ∧ (∀ p ∈ cs, PySem.W.CodeHd h p.1 p.2) ∧
      (∀ (s : Shared) (u : Value), BindsTo s fd ⟨[u], []⟩ [(x, u)]) ∧ (∀ (H : Hp) (a : Addr) (ns : List Int), ns.length ≤ n → (∀ z ∈ ns, Builtin.Int.intBits z ≤ 1048576) → (∀ p ∈ cs, H p.2 = some (.tbl #[])) → SqL K H a (ns.map V.int) → sp [.ref a] H (fun v _ => v = .bl true) fun _ _ _ => False) ∧
      ∀ base : Heap, K.In base → base.Ns mainGlobals mg → (∀ p ∈ cs, LamX.TabB base mg p.1 p.2) → Fd l.prog w K mg base true k fa fd [x] sp) :
    PySem.W.WalkO q loose XP YP l.row.toRowW d [] (fun f vs => PySem.call f vs) := by
  refine Att.attach_callB hn hdf fun w s0 s1 mg mb fa o pm cd doc a vs ns G Y ho hd hcd hmg hobj hints hlen hbits hg => ?_
  obtain ⟨K, fd, cs, sp, KX, hT, nT, C, hb, hsp, hF⟩ := F w mg fa _ Y G.T.g hmg
  exact fd_end KX G.T.g G.T.b G.T.builtins G.T.nolimit hg hT nT C G.T.bmain hobj hints (Nat.le_trans hlen hn2) hr hF hb fun H hH hS => hsp H a ns hlen hbits hH hS
end Ev


set_option Elab.async false
set_option linter.all false
set_option maxRecDepth 100000
/-! Ev, part X: what the printed proofs lean on. -/
namespace Ev
open PySem PySem.Spec PyProof.Rows L2

theorem eqD_bl : Blf eqD := fun x y d h => by
  unfold eqD at h
  split at h
  · cases h; exact ⟨_, rfl⟩
  · obtain ⟨_, e⟩ := if_ok h
    cases e; exact ⟨_, rfl⟩
theorem neD_bl : Blf neD := fun x y d h => by
  unfold neD at h
  split at h
  · cases h; exact ⟨_, rfl⟩
  · obtain ⟨_, e⟩ := if_ok h
    cases e; exact ⟨_, rfl⟩
theorem ordD_bl {w : Int → Int → Bool} {o : D → D → Bool} : Blf (ordD w o) := fun x y d h => by
  unfold ordD at h
  split at h
  · cases h; exact ⟨_, rfl⟩
  · obtain ⟨_, e⟩ := if_ok h
    cases e; exact ⟨_, rfl⟩
theorem isD_B : Blf isD := fun x y d h => by
  unfold isD at h
  split at h <;> cases h <;> exact ⟨_, rfl⟩
theorem isnD_B : Blf isnD := fun x y d h => by
  obtain ⟨a, e, q⟩ := R.bind_ok' h
  obtain ⟨k, rfl⟩ := isD_B _ _ _ e
  cases q; exact ⟨_, rfl⟩
theorem JE.eq {X : Cx} {W : WX} {c : Fr} {ρ : List Sl} {fl : Fl} {e : Expr} {m m' : R D} (h : JE X W c ρ fl e m) (q : m = m') : JE X W c ρ fl e m' := q ▸ h
theorem JX.eq {X : Cx} {W : WX} {c : Fr} {ρ : List Sl} {sts : List Stmt} {α : Type} {m m' : R α} {K : Ends → α → Prop} (h : JX X W c ρ sts m K) (q : m = m') : JX X W c ρ sts m' K := q ▸ h
/-- room for comparisons -/
theorem Rm.u65 {g : Bool} {k : Nat} {A : Around} (r : Rm g k A) : A.units + 65 < cLine := by have := r.r.un; omega
theorem Rm.u64 {g : Bool} {k : Nat} {A : Around} (r : Rm g k A) : A.units + 64 < cLine := by have := r.r.un; omega
theorem Rm.u66 {g : Bool} {k : Nat} {A : Around} (r : Rm g k A) : A.units + 66 < cLine := by have := r.r.un; omega
/-- an exception's class of the program's own, by the facts -/
def ExF (K : PySem.W.Frag) (mg : Str → Option Value) (x : Str) : Prop := ∃ C, PySem.W.excIn K C He.veBase "ValueError.__new__" = true ∧ mg x = some (.ref C) ∧ PySem.W.keepIn K (.ref C) = true ∧ PySem.W.subIn K (.ref C) (.type "BaseException") = some true ∧ PySem.W.typeIn K (.ref C) = some (.type "type")
theorem s_raiseF {X : Cx} {W : WX} {c : Fr} {ρ : List Sl} {β : Type} {K : Ends → β → Prop} {pos p cpos : Pos} {x : Str} (n : String) (hc : X.calm = true) (tk : Takes X W) (T : ExF X.K X.mg x) (hx : x = Str.ofString n := by rfl) (hg : Gl X x := by rfl) (hdb : (x == ("__debug__" : Str)) = false := by decide) : JX X W c ρ [.Raise (some (.Call (.Name x p) [] [] cpos)) none pos] (.exc n [] : R β) K := by
  obtain ⟨C, h1, h2, h3, h4, h5⟩ := T
  exact s_raise n hc tk ⟨PySem.F.excBase_ValueError, h1, h2, h3, raises_own h4 h5⟩ hx hg hdb
theorem bb_len : bootBuiltins "len" = some (.builtin "len") := by decide +kernel
theorem bb_abs : bootBuiltins "abs" = some (.builtin "abs") := by decide +kernel
theorem bb_sum : bootBuiltins "sum" = some (.builtin "sum") := by decide +kernel
theorem bb_all : bootBuiltins "all" = some (.builtin "all") := by decide +kernel
theorem bb_any : bootBuiltins "any" = some (.builtin "any") := by decide +kernel
theorem bb_repr : bootBuiltins "repr" = some (.builtin "repr") := by decide +kernel
theorem bb_min : bootBuiltins "min" = some (.builtin "min") := by decide +kernel
theorem bb_max : bootBuiltins "max" = some (.builtin "max") := by decide +kernel
theorem bb_isinstance : bootBuiltins "isinstance" = some (.builtin "isinstance") := by decide +kernel
theorem bb_sorted : bootBuiltins "sorted" = some (.builtin "sorted") := by decide +kernel
theorem bb_int : bootBuiltins "int" = some (.type "int") := by decide +kernel
theorem bb_bool : bootBuiltins "bool" = some (.type "bool") := by decide +kernel
theorem bb_str : bootBuiltins "str" = some (.type "str") := by decide +kernel
theorem bb_tuple : bootBuiltins "tuple" = some (.type "tuple") := by decide +kernel
theorem bb_list : bootBuiltins "list" = some (.type "list") := by decide +kernel
theorem bb_dict : bootBuiltins "dict" = some (.type "dict") := by decide +kernel
theorem bb_range : bootBuiltins "range" = some (.type "range") := by decide +kernel
theorem bb_set : bootBuiltins "set" = some (.type "set") := by decide +kernel
theorem bb_enumerate : bootBuiltins "enumerate" = some (.type "enumerate") := by decide +kernel
theorem bb_zip : bootBuiltins "zip" = some (.type "zip") := by decide +kernel
theorem bb_ValueError : bootBuiltins "ValueError" = some (.type "ValueError") := by decide +kernel
/-- room for comparisons alone -/
structure Ux (A : Around) : Prop where
  u : A.units + 70 < cLine
theorem Ux.u64 {A : Around} (r : Ux A) : A.units + 64 < cLine := by have := r.u; omega
theorem Ux.u65 {A : Around} (r : Ux A) : A.units + 65 < cLine := by have := r.u; omega
theorem Rm.ux {g : Bool} {k : Nat} {A : Around} (r : Rm g k A) (env : Env) : Ux (A.deeper env) := ⟨by have := r.r.un; show A.units + 3 + 70 < _; omega⟩
/-- a class of the program's own below another -/
def isSub (c y : String) : Bool := c == y || y == "PostFault"
/-- h(lambda: body), by the def's facts -/
theorem e_lamF {X : Cx} {W : WX} {c : Fr} {ρ : List Sl} {F : R D → R D} {m : R D} {Tt : List (Addr × Str)} {x a : Str} {gA cA P : Addr} {pg : Arguments} {bg : List Stmt} {sg : Scope} {fd : FuncData} {Ng : List Str} {params : Arguments} {body : Expr} {scope : Scope} {lpos p pos : Pos} {g : Bool} {k : Nat} (hT : c.T = Tt)
    (Fn : FunD X.K x x pg bg sg [] [] gA fd) (hm : X.mg x = some (.ref gA)) (hb : L2.Binds X.K fd [a] []) (Sg : FnScope Ng [a] sg) (hG : ∀ cdg, LamX.GivesTo X Ng x sg gA cdg bg a (X.env.qual ++ "<lambda>") (TTm X.K X.mg Tt F)) (TB : LamX.TabB X.base X.mg cA P) (hcode : X.env.code = .ref cA) (hmT : (P, X.env.qual ++ "<lambda>") ∈ Tt) (hu : ∀ p ∈ Tt, p.1 = P → p.2 = X.env.qual ++ "<lambda>")
    (hr : Rm g (k + 2) X.A) (L : LamX.LamS X.env.scope scope)
    (hbody : ∀ (A : Around) (outer : List Env) (s : Shared) (H : Hp) (E : XK) (f c' : Addr), Rm false k (LamX.lamCx X A outer s H E scope f c').A → Takes (LamX.lamCx X A outer s H E scope f c') (WF E) → JE (LamX.lamCx X A outer s H E scope f c') (WF E) c ρ .sh body m)
    (hNg : Ng[0]? = some a := by rfl) (hva : Vis sg a := by first | exact Or.inl rfl | exact Or.inr (Or.inl rfl)) (hdef : defaultsOf params X.env = ([], []) := by rfl) (hbind : ∀ (q : Str) (cl : List (Str × Addr)) (pm cv ctv : Value), bindArgs (PySem.W.kla_fn "<lambda>" q params body scope cl pm cv ctv) ⟨[], []⟩ = pure [] := by intro _ _ _ _ _; rfl)
    (hg : Gl X x := by rfl) (hdb : (x == ("__debug__" : Str)) = false := by decide) (hd : (a == ("__debug__" : Str)) = false := by decide) (hcd : (a == ("__classdict__" : Str)) = false := by decide) : JE X W c ρ .sh (.Call (.Name x p) [.Lambda params body scope lpos] [] pos) (nx (F m)) := by
  obtain ⟨oc, od, dV, kV, doc, pm, an, cdv, ct, osl, rfl, lk, hcd', _⟩ := Fn.ex
  exact e_lam hT hg hm Fn.kp lk hcd' hb Sg hNg hva (hG cdv) TB hcode hmT hu hr L hdef hbind hbody hdb hd hcd
end Ev
namespace Ev
open PySem PySem.Spec PyProof.Rows L2
section
variable {P : Program} {w : World} {K : PySem.W.Frag} {mg : Str → Option Value} {base : Heap} {T : List (Addr × Str)} {g : Bool} {j k : Nat} {x : Str} {h : Bool} {n : Nat} {fl : Fl} {F : List D → R D}
theorem FnM.mono (M : FnM P w K mg base T g j x h n fl F) (hjk : Nat.ble j k = true := by rfl) : FnM P w K mg base T g k x h n fl F := by
  obtain ⟨f, fd, ps, M, r⟩ := M.ex
  exact ⟨f, fd, ps, ⟨M.len, fun A outer s H ar us vs Q E hr => M.run A outer s H ar us vs Q E (hr.mono (Nat.le_of_ble_eq_true hjk))⟩, r⟩
theorem FnM.sh (M : FnM P w K mg base T g k x h n .ra F) : FnM P w K mg base T g k x h n .sh F := by
  obtain ⟨f, fd, ps, M, r⟩ := M.ex
  have key : ∀ vs H Q E, spM K mg T h n .sh F vs H Q E → spM K mg T h n .ra F vs H Q E := by
    rintro vs H Q E ⟨hd, O, ds, ws, a1, a2, a3, a4, a5, a6, a7, sat⟩
    exact ⟨hd, O, ds, ws, a1, a2, a3, a4, a5, a6, a7, R.sat_mono sat (fun d z v H' gp rv => z v H' gp (RepX.sh rv a3)) fun _ _ z => z⟩
  exact ⟨f, fd, ps, ⟨fun vs H Q E q => M.len vs H Q E (key _ _ _ _ q), fun A outer s H ar us vs Q E hr e0 hb rv q => M.run A outer s H ar us vs Q E hr e0 hb rv (key _ _ _ _ q)⟩, r⟩
theorem lookup_mem {α : Type} : ∀ {l : List (String × α)} {n : String} {a : α}, l.lookup n = some a → (n, a) ∈ l
  | (m, b) :: l, n, a, h => by
    rw [List.lookup_cons] at h
    cases e : n == m with
    | true =>
      rw [e] at h
      have := beq_iff_eq.mp e
      subst this
      cases h
      exact List.mem_cons_self
    | false =>
      rw [e] at h
      exact List.mem_cons_of_mem _ (lookup_mem h)
end
end Ev


set_option Elab.async false
set_option linter.all false
set_option maxRecDepth 100000
/-! Ev, part A: texts of ints, f-strings, join; pop(i) handed to append. -/
namespace Ev
open PySem PySem.Spec PyProof.Rows L2
/-! ### str(int) -/
def strD : D → R D
  | .int i => if i.natAbs < 10 ^ 40 then .ok (.str (shw (.int i))) else .stuck
  | _ => .stuck
theorem strD_calm (d : D) : Calm (strD d) := by
  unfold strD
  split <;> first | exact calm_stuck | exact calm_ite calm_ok calm_stuck
theorem tx_int (i : Int) : tx (shw (.int i)) = Str.ofString (toString i) := tx_shw (.int i)
theorem shw_len {i : Int} (h : i.natAbs < 10 ^ 40) : (shw (.int i)).length ≤ 140 := by
  have := toString_len h
  rw [← tx_int, tx_len] at this
  exact this
section
variable {X : Cx} {W : WX} {c : Fr} {ρ : List Sl} {e e2 : Expr} {m m2 : R D} {pos p apos cpos : Pos}
theorem c_str : CallR X (.type "str") (rDC X.bs (un1 strD)) := by
  intro pins s σ H xs us Q I r h
  obtain ⟨hdd, O, ds, d, hO, hb0, e0, q⟩ := h
  obtain ⟨a, rfl, e⟩ := un1_ok e0
  obtain ⟨v, rfl, hb⟩ := hb0.one
  unfold strD at e
  split at e
  · rename_i i
    obtain ⟨hi, e⟩ := if_ok e
    cases e
    cases bo_int hb
    exact call_str_int pins s σ H _ us Q I r ⟨i, rfl, log2_small hi, q _ H (Gr.refl _) (show V.str _ = V.str _ from by rw [tx_int])⟩
  · cases e
/-! ### f'..' -/
def fmtD : D → R D
  | .int i => if i.natAbs < 10 ^ 40 then .ok (.str (shw (.int i))) else .stuck
  | .str x => if x.length ≤ SZ then .ok (.str x) else .stuck
  | _ => .stuck
theorem fmtD_calm (d : D) : Calm (fmtD d) := by
  unfold fmtD
  split <;> first | exact calm_stuck | exact calm_ite calm_ok calm_stuck
theorem e_fmt (he : JE X W c ρ .sh e m) : JE X W c ρ .sh (.FormattedValue e (-1) none pos) (l1 fmtD m) :=
  PE.imp (pe_fmt he) fun σ H Q q => Wd.mono (Wd.bind q) fun d H1 g q1 v rv => by
    obtain ⟨r, er, k⟩ := q1.val (fmtD_calm d)
    unfold fmtD at er
    split at er
    · rename_i i
      obtain ⟨hi, er⟩ := if_ok er
      cases er
      cases (show v = V.int i from rv)
      exact .inr ⟨i, rfl, log2_small hi, k H1 (.refl _ _ _) _ (show V.str _ = V.str _ from by rw [tx_int])⟩
    · rename_i x
      obtain ⟨hx, er⟩ := if_ok er
      cases er
      cases (show v = V.str (tx x) from rv)
      exact .inl ⟨tx x, rfl, by rw [tx_len, ← SZ_eq]; exact hx, k H1 (.refl _ _ _) _ rfl⟩
    · cases er
/-- the texts one behind the other -/
def catS : List (R D) → List Nat → R D
  | [], acc => .ok (.str acc)
  | m :: ms, acc => m.bind fun d => match d with
    | .str x => if (acc ++ x).length ≤ SZ then catS ms (acc ++ x) else .stuck
    | _ => .stuck
theorem js_read : ∀ (ms : List (R D)) (acc : List Nat) {σ : L2.St} {H : Hp} {Q : VK}, Wd X W c ρ σ (catS ms acc) H (fun d H' => ∀ v, RepX X.bs c.hd H H' (OA c ρ σ) .ra d v → Q v H') → tJs (ms.map fun m => tE X W c ρ .sh m) (tx acc) σ H fun out H1 => Q (.str out) H1
  | [], acc, σ, H, Q, q => q.now _ rfl
  | m :: ms, acc, σ, H, Q, q => Wd.mono (Wd.bind (show Wd X W c ρ σ (m.bind _) H _ from q)) fun d H1 g q1 v rv => by
    cases d with
    | str x =>
      cases (show v = V.str (tx x) from rv)
      have q2 := q1.2
      obtain ⟨hx, s⟩ := (show (if (acc ++ x).length ≤ SZ then catS ms (acc ++ x) else .stuck : R D).sat _ _ from q2 : _) |> fun z => (⟨by
        by_cases hx : (acc ++ x).length ≤ SZ
        · exact hx
        · rw [if_neg hx] at z; exact z.elim, by
        by_cases hx : (acc ++ x).length ≤ SZ
        · rw [if_pos hx] at z; exact z
        · rw [if_neg hx] at z; exact z.elim⟩ : (acc ++ x).length ≤ SZ ∧ (catS ms (acc ++ x)).sat _ _)
      refine ⟨tx x, rfl, by rw [tx_app, tx_len, ← SZ_eq]; exact hx, ?_⟩
      rw [tx_app]
      exact js_read ms (acc ++ x) ⟨q1.1, R.sat_mono s (fun d z H' g' v r => z H' g' v (r.back fun _ => q.1.none g)) fun _ _ z => z⟩
    | _ => exact q1.2.elim
theorem e_js {v1 v2 : Expr} {rest : List Expr} {ms : List (R D)} (h : PJ X (v1 :: v2 :: rest) (ms.map fun m => tE X W c ρ .sh m)) : JE X W c ρ .ra (.JoinedStr (v1 :: v2 :: rest) pos) (catS ms []) :=
  PE.imp (pe_joined h) fun σ H Q q => js_read ms [] q
theorem pj_n : PJ X [] (([] : List (R D)).map fun m => tE X W c ρ .sh m) := .nil
theorem pj_c {es : List Expr} {ms : List (R D)} (h : JE X W c ρ .sh e m) (r : PJ X es (ms.map fun m => tE X W c ρ .sh m)) : PJ X (e :: es) ((m :: ms).map fun m => tE X W c ρ .sh m) := .cons h r
/-! ### sep.join -/
def strs? : List D → Option (List (List Nat))
  | [] => some []
  | .str x :: ds => (strs? ds).map (x :: ·)
  | _ :: _ => none
def joinT (S : List Nat) : List (List Nat) → List Nat
  | [] => []
  | [x] => x
  | x :: y :: r => x ++ S ++ joinT S (y :: r)
def joinD (a d : D) : R D := match a with
  | .str S => (seqD d).bind fun ds => match strs? ds with
    | some xs => if (xs.map (·.length)).sum + xs.length * S.length ≤ 16777216 then .ok (.str (joinT S xs)) else .stuck
    | none => .stuck
  | _ => .stuck
theorem joinD_calm (a d : D) : Calm (joinD a d) := by
  unfold joinD
  split
  · refine calm_bind (seqD_calm d) fun ds => ?_
    split
    · exact calm_ite calm_ok calm_stuck
    · exact calm_stuck
  · exact calm_stuck
theorem strs_eq : ∀ {ds : List D} {xs : List (List Nat)}, strs? ds = some xs → ds = xs.map D.str
  | [], xs, h => by cases h; rfl
  | d :: ds, xs, h => by
    cases d with
    | str x =>
      obtain ⟨ys, e, rfl⟩ := Option.map_eq_some_iff.mp (show (strs? ds).map (x :: ·) = some xs from h)
      rw [strs_eq e]; rfl
    | _ => cases h
theorem repL_strs {B : Bs} {H : Hp} {O : Ad} : ∀ {xs : List (List Nat)} {vs : List V}, RepL B H O (xs.map D.str) vs → vs = (xs.map tx).map V.str
  | [], vs, h => by cases (show vs = [] from h); rfl
  | x :: xs, vs, h => by
    obtain ⟨v, vr, e, h1, h2⟩ := (show ∃ v vr, _ from h)
    cases (show v = V.str (tx x) from h1)
    rw [e, repL_strs h2]; rfl
theorem join_tx (S : List Nat) : ∀ xs : List (List Nat), Str.join (tx S) (xs.map tx) = tx (joinT S xs)
  | [] => rfl
  | [x] => rfl
  | x :: y :: r => by
    show tx x ++ tx S ++ Str.join (tx S) ((y :: r).map tx) = _
    rw [join_tx S (y :: r), tx_app, tx_app]; rfl
theorem mt_jn : MtR X "str.join" (rDM X.bs joinD) := by
  intro pins s σ H x xs v us Q I rx rxs h
  obtain ⟨hd, O, a, b, d, y, hO, rfl, ha, hb, e, q⟩ := h
  unfold joinD at e
  split at e
  · rename_i S
    obtain ⟨ds, e1, e2⟩ := R.bind_ok' e
    split at e2
    · rename_i xs hx
      obtain ⟨hz, e2⟩ := if_ok e2
      cases e2
      have hds := strs_eq hx
      subst hds
      cases bo_str ha
      have fin : ∀ p, (SqL X.K H p ((xs.map tx).map V.str) ∨ SqT X.K H p ((xs.map tx).map V.str)) → y = V.ref p → wpAny (model X.prog X.w) X.A (PySem.call (.builtin "str.join") (v :: us)) (EP X pins σ Q) X.xe s := fun p hs ey => by
        subst ey
        refine mt_join pins s σ H _ _ v us Q I rx rxs ⟨tx S, p, xs.map tx, rfl, rfl, hs, ?_, ?_⟩
        · rw [List.map_map, List.length_map, tx_len]
          have : ((fun x : Str => x.length) ∘ tx) = fun x : List Nat => x.length := by funext x; exact tx_len x
          rw [this]
          exact hz
        · rw [TL.join_eq, join_tx]
          exact q _ H (Gr.refl _) rfl
      rcases seqD_cases e1 with rfl | rfl | rfl
      · obtain ⟨p, vs, ey, h1, r1⟩ := bo_lst hb
        rw [repL_strs r1] at h1
        exact fin p (.inl (.of h1)) ey
      · obtain ⟨p, vs, ey, _, h1, r1⟩ := bo_tup hb
        rw [repL_strs r1] at h1
        exact fin p (.inr h1) ey
      · obtain ⟨p, vs, ey, h1, r1⟩ := bo_src hb
        rw [repL_strs r1] at h1
        exact fin p (.inl h1) ey
    · cases e2
  · cases e
theorem e_join (ha : JE X W c ρ .bo e m) (hb : JE X W c ρ .bo e2 m2) (hbase : attributeBase e "join" X.env (eval e X.env) = eval e X.env := by rfl) (hfew : ((backTo cpos (starEach [e2] X.env)).all (fun x => !x.1) && (backToKw cpos (keywordEach [] X.env)).all (fun x => x.1.isSome) && decide ([e2].length + ([] : List Keyword).length + (if ([] : List Keyword).isEmpty then 0 else 1) < 30)) = true := by rfl)
    (hline : (apos.endLine == cpos.line) = true := by rfl) (hs : starEach [e2] X.env = (false, eval e2 X.env) :: starEach [] X.env := by rfl) (hpl : (backTo cpos (starEach [] X.env)).any (·.1) = false := by rfl) :
    JE X W c ρ .ra (.Call (.Attribute e "join" apos) [e2] [] cpos) (mthS joinD m m2) :=
  PE.imp (pe_bm PySem.F.plainAttrs_str PySem.F.slot_str_join PySem.F.type_str_join mt_jn ha (pa_cons hb pa_nil hs) hbase hfew hline hs hpl) fun σ H Q q => by
    refine Wd.mono (Wd.bind q) fun d H1 g1 q1 x rx => ?_
    cases d with
    | str S =>
      have q1 : Wd X W c ρ σ (m2.bind fun y => joinD (.str S) y) H1 _ := q1
      cases bo_str rx
      refine ⟨?_, Wd.mono (Wd.bind q1) fun d2 H2 g2 q2 y ry => ?_⟩
      · exact rfl
      · obtain ⟨r, er, k⟩ := q2.val (joinD_calm _ _)
        exact ⟨c.hd, OA c ρ σ, .str S, d2, r, y, q2.1.there, rfl, .inl rfl, bo_at ry, er, fun v H' g r => k H' g.pg v (r.back fun _ => q.1.none (g1.trans g2))⟩
    | _ => exact q1.2.elim
end
/-! ### x.append(y.pop(e)) -/
def popL (xs : List D) (j : D) : R (D × List D) := match j with
  | .int i => if xs.length ≤ SZ then (match ixAt xs.length i with
    | some k => match xs[k]? with
      | some d => .ok (d, xs.eraseIdx k)
      | none => .stuck
    | none => .stuck) else .stuck
  | _ => .stuck
def appPop {β : Type} (m : R D) (es ds : List D) (f : List D → List D → R β) : R β := m.bind fun j => (popL es j).bind fun q => (appL ds q.1).bind fun zs => f q.2 zs
theorem popL_ok {xs : List D} {j : D} {α : Type} {g : D × List D → R α} {P : α → Prop} {E : String → List (String × D) → Prop} (h : ((popL xs j).bind g).sat P E) : ∃ (i : Int) (k : Nat) (d : D), j = .int i ∧ xs.length ≤ SZ ∧ ixAt xs.length i = some k ∧ xs[k]? = some d ∧ (g (d, xs.eraseIdx k)).sat P E := by
  unfold popL at h
  split at h
  · rename_i i
    by_cases hz : xs.length ≤ SZ
    · rw [if_pos hz] at h
      cases hk : ixAt xs.length i with
      | none => rw [hk] at h; exact h.elim
      | some k =>
        rw [hk] at h
        cases hx : xs[k]? with
        | none => simp only [hx] at h; exact h.elim
        | some d => simp only [hx] at h; exact ⟨i, k, d, rfl, hz, hk, hx, h⟩
    · rw [if_neg hz] at h; exact h.elim
  · exact h.elim
theorem ixAt_seq {n : Nat} {i : Int} {k : Nat} (h : ixAt n i = some k) (hn : n ≤ SZ) : seqIndex? i n = some k ∧ -(2 ^ 63) ≤ i ∧ i < 2 ^ 63 := by
  have hs : SZ = 16777216 := by rw [SZ_eq, sizeLine_eq]
  unfold ixAt at h
  by_cases h0 : 0 ≤ i
  · rw [if_pos h0] at h
    by_cases h1 : i < (n : Int)
    · rw [if_pos h1] at h
      cases h
      have h2 : ¬ i < 0 := by omega
      refine ⟨?_, by omega, by omega⟩
      unfold seqIndex?
      simp [h2, h0, h1]
    · rw [if_neg h1] at h; cases h
  · rw [if_neg h0] at h
    by_cases h1 : -(n : Int) ≤ i
    · rw [if_pos h1] at h
      cases h
      have h2 : i < 0 := by omega
      have a : 0 ≤ i + (n : Int) := by omega
      have b : i + (n : Int) < (n : Int) := by omega
      refine ⟨?_, by omega, by omega⟩
      unfold seqIndex?
      simp [h2, a, b]
    · rw [if_neg h1] at h; cases h
section
variable {X : Cx} {W : WX} {c : Fr} {ρ : List Sl} {e : Expr} {m : R D} {β : Type} {K : Ends → β → Prop} {f : List D → List D → R β} {ds es : List D} {rest : List Stmt} {x y : Str} {p p2 apos apos2 cpos cpos2 spos : Pos}
theorem RepL.era {B : Bs} {H : Hp} {O : Ad} : ∀ {ds : List D} {vs : List V} (k : Nat), RepL B H O ds vs → RepL B H O (ds.eraseIdx k) (vs.eraseIdx k)
  | [], vs, k, h => by cases (show vs = [] from h); exact rfl
  | d :: ds, vs, 0, h => by
    obtain ⟨v, vr, q, h1, h2⟩ := (show ∃ v vr, _ from h)
    rw [q]; exact h2
  | d :: ds, vs, k + 1, h => by
    obtain ⟨v, vr, q, h1, h2⟩ := (show ∃ v vr, _ from h)
    rw [q]
    exact ⟨v, _, rfl, h1, RepL.era k h2⟩
theorem s_appPop (i k : Nat) (he : JE X W c ρ .sh e m) (hr : ∀ ys xs, JX X W c ((ρ.set k (.ow (.lst ys))).set i (.ow (.lst xs))) rest (f ys xs) K) (hik : i ≠ k := by decide) (hd : ρ[i]? = some (.ow (.lst ds)) := by rfl) (hd2 : ρ[k]? = some (.ow (.lst es)) := by rfl) (hN : X.N[i]? = some x := by rfl) (hN2 : X.N[k]? = some y := by rfl)
    (hv : Vis X.env.scope x := by first | exact Or.inl rfl | exact Or.inr (Or.inl rfl) | exact Or.inr (Or.inr rfl)) (hv2 : Vis X.env.scope y := by first | exact Or.inl rfl | exact Or.inr (Or.inl rfl) | exact Or.inr (Or.inr rfl))
    (h1 : (x == ("__debug__" : Str)) = false := by decide) (h2 : (x == ("__classdict__" : Str)) = false := by decide) (h3 : (y == ("__debug__" : Str)) = false := by decide) (h4 : (y == ("__classdict__" : Str)) = false := by decide)
    (hb2 : attributeBase (.Name y p2) "pop" X.env (eval (.Name y p2) X.env) = eval (.Name y p2) X.env := by rfl)
    (hf2 : ((backTo cpos2 (starEach [e] X.env)).all (fun x => !x.1) && (backToKw cpos2 (keywordEach [] X.env)).all (fun x => x.1.isSome) && decide ([e].length + ([] : List Keyword).length + (if ([] : List Keyword).isEmpty then 0 else 1) < 30)) = true := by rfl)
    (hl2 : (apos2.endLine == cpos2.line) = true := by rfl) (hs2 : starEach [e] X.env = (false, eval e X.env) :: starEach [] X.env := by rfl) (hp2 : (backTo cpos2 (starEach [] X.env)).any (·.1) = false := by rfl)
    (hbase : attributeBase (.Name x p) "append" X.env (eval (.Name x p) X.env) = eval (.Name x p) X.env := by rfl)
    (hfew : ((backTo cpos (starEach [.Call (.Attribute (.Name y p2) "pop" apos2) [e] [] cpos2] X.env)).all (fun x => !x.1) && (backToKw cpos (keywordEach [] X.env)).all (fun x => x.1.isSome) && decide ([Expr.Call (.Attribute (.Name y p2) "pop" apos2) [e] [] cpos2].length + ([] : List Keyword).length + (if ([] : List Keyword).isEmpty then 0 else 1) < 30)) = true := by rfl)
    (hline : (apos.endLine == cpos.line) = true := by rfl) (hs : starEach [.Call (.Attribute (.Name y p2) "pop" apos2) [e] [] cpos2] X.env = (false, eval (.Call (.Attribute (.Name y p2) "pop" apos2) [e] [] cpos2) X.env) :: starEach [] X.env := by rfl) (hpl : (backTo cpos (starEach [] X.env)).any (·.1) = false := by rfl)
    (hsw : swapsWith (.Call (.Attribute (.Name x p) "append" apos) [.Call (.Attribute (.Name y p2) "pop" apos2) [e] [] cpos2] [] cpos) none spos.line X.env = pure false := by rfl) :
    JX X W c ρ (.Expr (.Call (.Attribute (.Name x p) "append" apos) [.Call (.Attribute (.Name y p2) "pop" apos2) [e] [] cpos2] [] cpos) spos :: rest) (appPop m es ds f) K :=
  PSs.imp (pss_cons (ps_expr (pe_bm PySem.F.plainAttrs_list PySem.F.slot_list_append PySem.F.type_list_append mt_append (pe_var hN hv h1 h2) (pa_cons (pe_bm PySem.F.plainAttrs_list PySem.F.slot_list_pop PySem.F.type_list_pop mt_popAt (pe_var hN2 hv2 h3 h4) (pa_cons he pa_nil hs2) hb2 hf2 hl2 hs2 hp2) pa_nil hs) hbase hfew hline hs hpl) hsw) (pss_ex fun z : List D × List D => hr z.1 z.2)) fun Dn σ H q => by
    obtain ⟨a, vs, e1, hA, r⟩ := ow_lst (H := H) q.1 hd
    obtain ⟨a2, vs2, e2, hA2, r2⟩ := ow_lst (H := H) q.1 hd2
    refine ⟨.ref a, e1, .inl ⟨rfl, vs, .of hA⟩, .ref a2, e2, .inl ⟨rfl, vs2, .of hA2⟩, Wd.mono (tX.wd q) fun d H1 g q1 v rv => ?_⟩
    obtain ⟨a', vs', e1', hA', r'⟩ := ow_lst (H := H1) q1.1 hd
    obtain ⟨a2', vs2', e2', hA2', r2'⟩ := ow_lst (H := H1) q1.1 hd2
    rw [e1] at e1'
    rw [e2] at e2'
    cases e1'
    cases e2'
    obtain ⟨j, kk, dd, rfl, hz, hk, hx, sat⟩ := popL_ok q1.2
    cases (show v = V.int j from rv)
    have hlen := r2'.length
    obtain ⟨hsq, hb1, hb2'⟩ := ixAt_seq hk hz
    obtain ⟨w, ew, rw_⟩ := r2'.get hx
    have hne : a ≠ a2 := fun z => hik (q1.1.dj i k _ _ a hd hd2 e1 (by rw [z]; exact e2))
    have hi2 : OA c ρ σ a2 := .inr ⟨k, _, hd2, e2⟩
    have less : ∀ b, OA c (ρ.set k (.ow (.lst (es.eraseIdx kk)))) σ b → OA c ρ σ b := fun b z => z.imp id fun ⟨l, d', z1, z2⟩ => by
      rcases ix_set z1 with ⟨rfl, _, _⟩ | ⟨_, z1⟩
      · exact ⟨_, _, hd2, z2⟩
      · exact ⟨l, d', z1, z2⟩
    have kp : Kp H1 (L2.upd H1 a2 (.lst (vs2'.eraseIdx kk))) (OA c ρ σ) (OA c ρ σ) := .of fun b u _ e n => ⟨by rw [upd_ne fun z => n (by rw [z]; exact hi2)]; exact e, n⟩
    have w2 : WI X.bs c (ρ.set k (.ow (.lst (es.eraseIdx kk)))) σ (L2.upd H1 a2 (.lst (vs2'.eraseIdx kk))) := q1.1.upd hd2 e2 ⟨_, upd_same, (r2'.era kk).kp kp⟩
    have hd' : (ρ.set k (.ow (.lst (es.eraseIdx kk))))[i]? = some (.ow (.lst ds)) := by rw [List.getElem?_set_ne (Ne.symm hik)]; exact hd
    refine ⟨a2, vs2', j, kk, w, rfl, rfl, hA2', hb1, hb2', by rw [hlen]; exact hsq, ew, ?_⟩
    obtain ⟨a3, vs3, e3, hA3, r3⟩ := ow_lst w2 hd'
    rw [e1] at e3
    cases e3
    have sat := R.sat_bind.mp sat
    unfold appL at sat
    split at sat
    · rename_i hl
      have hi : OA c (ρ.set k (.ow (.lst (es.eraseIdx kk)))) σ a := .inr ⟨i, _, hd', e1⟩
      have kp2 : Kp (L2.upd H1 a2 (.lst (vs2'.eraseIdx kk))) (L2.upd (L2.upd H1 a2 (.lst (vs2'.eraseIdx kk))) a (.lst (vs3 ++ [w]))) (OA c (ρ.set k (.ow (.lst (es.eraseIdx kk)))) σ) (OA c (ρ.set k (.ow (.lst (es.eraseIdx kk)))) σ) := .of fun b u _ e n => ⟨by rw [upd_ne fun z => n (by rw [z]; exact hi)]; exact e, n⟩
      refine ⟨a, vs3, w, rfl, rfl, hA3, by rw [r3.length, ← SZ_eq]; exact hl, (es.eraseIdx kk, ds ++ [dd]), w2.upd hd' e1 ⟨_, upd_same, (r3.kp kp2).append (RepL.cons (Rep.kp kp2 ((rw_.kp kp).less less)) rfl)⟩, sat⟩
    · exact (show False from sat).elim
end
/-! ### x[::-1] -/
section
variable {prog : Program} {w : World} {A : Around} {E : Value → Shared → Prop} {s : Shared}
theorem pick_back (xs : Array Value) : ((List.range xs.size).filterMap fun (m : Nat) => xs[(((xs.size : Int) - 1) + (m : Int) * (-1)).toNat]?).toArray = xs.toList.reverse.toArray := by
  have e : (fun (m : Nat) => xs[(((xs.size : Int) - 1) + (m : Int) * (-1)).toNat]?) = (fun x => xs[x]?) ∘ fun m => xs.size - 1 - m := by
    funext m
    have : (((xs.size : Int) - 1) + (m : Int) * (-1)).toNat = xs.size - 1 - m := by omega
    show xs[_]? = xs[_]?
    rw [this]
  rw [e, ← List.filterMap_map, PySem.W.krv_range, List.filterMap_reverse, PySem.W.krv_all]
theorem applied_back {sl : Addr} {vl vu vs : Value} {n : Nat} {Q : Int × Int × Nat → Shared → Prop} (hs : s.heap.IsSliceOf sl vl vu vs) (pl : IsPart vl none) (pu : IsPart vu none) (ps : IsPart vs (some (-1)))
    (h : Q ((n : Int) - 1, -1, n) s) : wpAny (model prog w) A (Builtin.Slice.sliceApplied (.ref sl) (pure (n : Int))) Q E s := by
  obtain ⟨os, hos, hcs, hds⟩ := id hs
  unfold Builtin.Slice.sliceApplied Builtin.Slice.sliceFields
  refine wpAny_bind (wpAny_bind (wpAny_field hos hds (x := vl) rfl (wpAny_bind (wpAny_field hos hds (x := vu) rfl (wpAny_bind (wpAny_field hos hds (x := vs) rfl (wpAny_pure ?_)))))))
  refine wpAny_bind (HT.slicePart_ ps ?_)
  show wpAny _ _ (if ((-1 : Int) == 0) = true then _ else _) _ _ s
  rw [if_neg (by decide)]
  refine wpAny_bind (HT.slicePart_ pl (wpAny_bind (HT.slicePart_ pu (wpAny_bind (wpAny_pure ?_)))))
  show wpAny _ _ (pure ((n : Int) - 1, (-1 : Int), Builtin.Slice.slicePlaces ((n : Int) - 1) (-1) (-1))) _ _ s
  have : Builtin.Slice.slicePlaces ((n : Int) - 1) (-1) (-1) = n := by
    unfold Builtin.Slice.slicePlaces
    rw [if_neg (by decide)]
    by_cases h : (n : Int) - 1 > -1
    · rw [if_pos h, show (- -1 : Int) = 1 from by decide, Int.ediv_one]; omega
    · rw [if_neg h]; omega
  rw [this]
  exact wpAny_pure h
theorem getItem_back {t sl : Addr} {items : Array Value} {vl vu vs : Value} {Q : Value → Shared → Prop} (ht : IsTup s.heap t items) (hs : s.heap.IsSliceOf sl vl vu vs) (pl : IsPart vl none) (pu : IsPart vu none) (ps : IsPart vs (some (-1)))
    (h : Q (.ref s.heap.objs.size) { s with heap := s.heap.push { cls := .type "tuple", data := .seq items.toList.reverse.toArray } })
    (hsz : items.size ≤ sizeLine) : wpAny (model prog w) A (getItem (.ref t) (.ref sl)) Q E s := by
  have hfit : sizeOk (.seq items.toList.reverse.toArray) := by
    show items.toList.reverse.toArray.size ≤ sizeLine
    rw [List.size_toArray, List.length_reverse, Array.length_toList]; exact hsz
  obtain ⟨os, hos, hcs, hds⟩ := id hs
  have hTs : s.TypeIs (.ref sl) "slice" := ⟨os, hos, hcs⟩
  unfold getItem
  try with_reducible refine wpAny_holding ?_
  first | refine wpAny_bind (wpAny_pure ?_) | skip
  refine wpAny_bind (wpAny_sequenceKey ht.typeIs (by decide) ?_)
  refine wpAny_bind (wpAny_callSpecial?_slot (name := Str.ofString "__getitem__") ht.typeIs PyProof.Rows.slot_tuple_getitem
    (wpAny_call_entry PyProof.Rows.slot_tuple_getitem ht.typeIs entry_tuple_getitem ?_ (args_tuple_getitem _ _)))
  show wpAny _ _ (Builtin.Tuple.tupleItemsOf (.ref t) >>= _) _ _ s
  refine wpAny_bind (tupleItemsOf_ ht ?_)
  refine wpAny_bind (wpAny_typeOf hTs ?_)
  rw [if_pos (by decide)]
  refine wpAny_bind (applied_back (n := items.size) hs pl pu ps ?_)
  have hno : ¬ ((((items.size : Int) - 1) == 0 && (-1 : Int) == 1 && items.size == items.size) = true) := by
    intro q
    rw [Bool.and_eq_true, Bool.and_eq_true] at q
    exact absurd q.1.2 (by decide)
  show wpAny _ _ (if (((items.size : Int) - 1) == 0 && (-1 : Int) == 1 && items.size == items.size) = true then _ else _) _ _ s
  rw [if_neg hno, pick_back]
  first
    | exact wpAny_bind (m := Builtin.Tuple.tupleExact _) (wpAny_newObj_type (wpAny_pure ⟨_, rfl, wpAny_pure h⟩) hfit)
    | exact wpAny_bind (m := Builtin.Tuple.tupleExact _) (wpAny_newObj_type (wpAny_bind (wpAny_pure (wpAny_pure ⟨_, rfl, wpAny_pure h⟩))) hfit)
    | exact wpAny_bind (wpAny_bind (m := Builtin.Tuple.tupleExact _) (wpAny_newObj_type (wpAny_pure (wpAny_pure ⟨_, rfl, wpAny_pure h⟩)) hfit))
    | exact wpAny_bind (wpAny_bind (m := Builtin.Tuple.tupleExact _) (wpAny_newObj_type (wpAny_pure ⟨_, rfl, wpAny_pure h⟩) hfit))
end
def tBack (K : PySem.W.Frag) (te : TE) : TE := fun σ H Q => te σ H fun x H1 => ∃ a xs, x = .ref a ∧ ((SqL K H1 a xs ∧ ∀ p, H1 p = none → Q (.ref p) (L2.upd H1 p (.lst xs.reverse))) ∨ (SqT K H1 a xs ∧ NewT H1 xs.reverse Q))
theorem pe_back {X : Cx} {e : Expr} {te : TE} {k : Nat} {p1 p2 p3 pos : Pos} (he : PE X e te) : PE X (.Subscript e (.Slice none none (some (.UnaryOp .USub (.Constant (.int 1) k p1) p2)) p3) pos) (tBack X.K te) := by
  refine ⟨fun pins s σ H Q I h => ?_⟩
  refine Subscript_ (thn (he.run pins s σ H _ I h) fun v s1 ⟨x, H1, I1, r1, q1⟩ => ?_)
  obtain ⟨a, xs, ex, q⟩ := q1
  subst ex
  cases r1
  have hst : PO X (some (.UnaryOp .USub (.Constant (.int 1) k p1) p2)) (tPart (tUn (rU fun i => .int (-i)) (tC (.int 1)))) := po_some (pe_un un_neg pe_int)
  refine wpAny_Slice (thn (po_none.run pins s1 σ H1 (fun o H2 => o = none ∧ H2 = H1) I1 ⟨rfl, rfl⟩) fun vl s2 ⟨l, H2, I2, pl, el, e2⟩ => ?_)
  subst el e2
  refine thn (po_none.run pins s2 σ H2 (fun o H3 => o = none ∧ H3 = H2) I2 ⟨rfl, rfl⟩) fun vu s3 ⟨u, H3, I3, pu, eu, e3⟩ => ?_
  subst eu e3
  refine thn (hst.run pins s3 σ H3 (fun o H4 => o = some (-1) ∧ H4 = H3) I3 ⟨1, rfl, -1, rfl, rfl, rfl⟩) fun vs s4 ⟨o, H4, I4, ps, eo, e4⟩ => ?_
  subst eo e4
  have I5 : Inv X pins σ H4 { s4 with heap := s4.heap.push { cls := .type "slice", data := .fields #[vl, vu, vs] } } := I4.kept (t' := s4.toks) fun b ob q => Heap.get?_push_of_some _ q
  show wpAny (model X.prog X.w) X.A (subscriptTail e (.Slice none none (some (.UnaryOp .USub (.Constant (.int 1) k p1) p2)) p3) (.ref a) (.ref s4.heap.objs.size)) (EP X pins σ Q) X.xe { s4 with heap := s4.heap.push { cls := .type "slice", data := .fields #[vl, vu, vs] } }
  rcases q with ⟨hx, q⟩ | ⟨hx, q⟩
  · obtain ⟨its, r, ht, hz⟩ := I5.list hx
    have hlen := r.length
    refine tail_any (ops := [.ref a, .ref s4.heap.objs.size]) ht.isList.typeIs (PySem.slot_list_getitem.lookup) ?_ (by with_unfolding_all rfl)
    refine wpAny_getItem_list_slice ht.isList (Heap.IsSliceOf.new _ vl vu vs) pl pu ps (by decide) ?_ (by rw [List.size_toArray]; omega)
    rw [PySem.W.krv_pick]
    refine ⟨.ref _, _, I5.laid (t' := s4.toks) (o := .lst xs.reverse) (fun b ob q => Heap.get?_push_of_some _ q) (Nat.le_refl _) ?_, rfl, q _ (I5.hok.fresh (Nat.le_refl _))⟩
    exact ⟨by rw [List.length_reverse]; exact hz, _, 0, r.reverse, Heap.get?_push_size _ rfl⟩
  · obtain ⟨its, r, ht, hz⟩ := I5.tuple hx
    have hlen := r.length
    refine tail_any (ops := [.ref a, .ref s4.heap.objs.size]) ht.typeIs (PyProof.Rows.slot_tuple_getitem.lookup) ?_ (by with_unfolding_all rfl)
    refine getItem_back ht (Heap.IsSliceOf.new _ vl vu vs) pl pu ps ?_ (by rw [List.size_toArray]; omega)
    exact laidT I5 r.reverse (by rw [List.length_reverse]; exact hz) q
/-- x[::-1] of a list, a tuple -/
def revD : D → R D
  | .lst xs => .ok (.lst xs.reverse)
  | .tup xs => .ok (.tup xs.reverse)
  | _ => .stuck
theorem revD_calm (d : D) : Calm (revD d) := by
  unfold revD
  split <;> first | exact calm_ok | exact calm_stuck
section
variable {X : Cx} {W : WX} {c : Fr} {ρ : List Sl} {e : Expr} {m : R D} {k : Nat} {p1 p2 p3 pos : Pos}
theorem e_rev (he : JE X W c ρ .bo e m) : JE X W c ρ .ra (.Subscript e (.Slice none none (some (.UnaryOp .USub (.Constant (.int 1) k p1) p2)) p3) pos) (l1 revD m) :=
  PE.imp (pe_back he) fun σ H Q q => by
    refine Wd.mono (Wd.bind q) fun d H1 g q1 x rx => ?_
    obtain ⟨r, er, kk⟩ := q1.val (revD_calm d)
    unfold revD at er
    split at er
    · cases er
      obtain ⟨a, vs, rfl, h1, r1⟩ := bo_lst rx
      exact ⟨a, vs, rfl, .inl ⟨.of h1, fun p hp => kk _ (Gr.laid hp).pg _ (RepX.back (fun _ => q.1.none g) (ra_lst hp (Gr.refl _) r1.rev))⟩⟩
    · cases er
      obtain ⟨a, vs, rfl, _, h1, r1⟩ := bo_tup rx
      exact ⟨a, vs, rfl, .inr ⟨h1, fun p ob hp d0 => kk _ (Gr.laid hp).pg _ (RepX.back (fun _ => q.1.none g) (ra_tup d0 hp q1.1.there r1.rev))⟩⟩
    · cases er
end
/-! ### tuple(range(n)) -/
section
variable {X : Cx} {W : WX} {c : Fr} {ρ : List Sl} {e : Expr} {m : R D} {pos apos p p2 : Pos} {te : L2.St → Hp → (Int → Int → Hp → Prop) → Prop}
def tTupRX (te : L2.St → Hp → (Int → Int → Hp → Prop) → Prop) : TE := fun σ H Q => te σ H fun a b H1 => RgOk a b ∧ NewT H1 (rgV a b) Q
theorem pe_tupRX (calm : X.calm = true) (g : Gl X "tuple") (free : X.mg "tuple" = none) (hr : PRg X e te) (one : starEach [e] X.env = (false, eval e X.env) :: starEach [] X.env) : PE X (.Call (.Name "tuple" p) [e] [] pos) (tTupRX te) := by
  refine ⟨fun pins s σ H Q I h => Call_ (ld_blt I g free boot_tuple (PyProof.Rows.callWith_type1 (PyProof.Rows.args_cons (thn (hr pins s σ H _ I h) fun u s1 ⟨r, a, b, t1, t2, t3, H1, eu, isr, J, ok, q⟩ => PyProof.Rows.args_nil ?_) one) one))⟩
  subst eu
  refine call_tuple_range (n := (b - a).toNat) (J.ok.hd calm) isr (small_one ok.1 ok.2.1 ok.2.2.1 ok.2.2.2.1) (rangeSize_nat a b) ok.2.2.2.2 fun h2 tk us keep at_ => ?_
  have len : (rgV a b).length ≤ sizeLine := by
    have := ok.2.2.2.2
    rw [rgV_length, sizeLine_eq]; omega
  have J2 : Inv X pins σ H1 { s1 with heap := h2, toks := tk } := J.kept keep
  have := laidT J2 (us := us.toList) (vals_rg at_) len q
  rw [Array.toArray_toList] at this
  exact this
theorem e_trng1 (ha : JE X W c ρ .bo e m) (calm : X.calm = true) (h1 : X.mg "tuple" = none) (h2 : X.mg "range" = none) (g1 : Gl X "tuple" := by rfl) (g2 : Gl X "range" := by rfl) (na : starEach [e] X.env = (false, eval e X.env) :: starEach [] X.env := by rfl)
    (nc : starEach [.Call (.Name "range" p) [e] [] p2] X.env = (false, eval (.Call (.Name "range" p) [e] [] p2) X.env) :: starEach [] X.env := by rfl) :
    JE X W c ρ .ra (.Call (.Name "tuple" apos) [.Call (.Name "range" p) [e] [] p2] [] pos) (trng (rng1 m)) :=
  PE.imp (pe_tupRX calm g1 h1 (prg_1 g2 h2 ha na) nc) fun σ H Q q => by
    refine Wd.mono (Wd.bind (Wd.map q)) fun d H1 gg q1 x rx => ?_
    obtain ⟨xs, er, kk⟩ := q1.val (rngD_calm (.int 0) d)
    unfold rngD at er
    split at er
    · rename_i i j ei
      obtain ⟨⟨⟨b1, b2, b3, b4⟩, b5⟩, e3⟩ := if_ok er
      cases ei
      cases e3
      cases bo_int rx
      exact ⟨_, rfl, ⟨b1, b2, b3, b4, b5⟩, fun l ob hl d0 => kk _ (Gr.laid hl).pg _ (RepX.back (fun _ => q.1.none gg) (ra_tup d0 hl q1.1.there (rgV_eq _ _)))⟩
    · cases er
end
end Ev


set_option Elab.async false
set_option linter.all false
set_option maxRecDepth 100000
/-! Ev, part A2: dicts of one's own: stored into, asked by get. -/
namespace Ev
open PySem PySem.Spec PyProof.Rows L2
/-! ### by data -/
def isKey : D → Bool
  | .int _ => true
  | .str _ => true
  | _ => false
def valK : List D → List D → D → Option D
  | k :: ks, d :: ds, x => if eqv k x = true then some d else valK ks ds x
  | _, _, _ => none
def putV : List D → List D → D → D → List D
  | k :: ks, d :: ds, x, v => (if eqv k x = true then v else d) :: putV ks ds x v
  | _, _, _, _ => []
def kD (a : D) {α : Type} (m : R α) : R α := match a with
  | .dct _ _ => m
  | _ => .stuck
def getD2 (a k z : D) : R D := match a with
  | .dct ks ds => if isKey k = true then .ok ((valK ks ds k).getD z) else .stuck
  | _ => .stuck
def putD (a k v : D) : R D := match a with
  | .dct ks ds => if isKey k = true ∧ ks.length < SZ then (if (ks.any fun y => eqv y k) = true then .ok (.dct ks (putV ks ds k v)) else .ok (.dct (ks ++ [k]) (ds ++ [v]))) else .stuck
  | _ => .stuck
abbrev dgetR (m m1 m2 : R D) : R D := m.bind fun d => kD d (m1.bind fun k => m2.bind fun z => getD2 d k z)
theorem getD2_calm (a k z : D) : Calm (getD2 a k z) := by
  unfold getD2
  split <;> first | exact calm_ite calm_ok calm_stuck | exact calm_stuck
/-- the key that data tells -/
def KeyOf : Key → D → Prop
  | .inl i, .int j => i = j
  | .inr x, .str y => x = tx y
  | _, _ => False
theorem key_of_rep {B : Bs} {H : Hp} {O : Ad} {d : D} : ∀ {k : Key}, Rep B H O d (kV k) → KeyOf k d
  | .inl i, h => by
    cases d with
    | int j => cases (show V.int i = V.int j from h); exact rfl
    | non => cases (show V.int i = V.non from h)
    | bl b => cases (show V.int i = V.bl b from h)
    | str y => cases (show V.int i = V.str (tx y) from h)
    | tup ds => obtain ⟨_, _, e, _⟩ := h; cases e
    | lst ds => obtain ⟨_, _, e, _⟩ := h; cases e
    | src ds => obtain ⟨_, _, e, _⟩ := h; cases e
    | dct ks ds => obtain ⟨_, _, e, _⟩ := h; cases e
    | fn n => obtain ⟨_, e, _⟩ := h; cases e
    | ins c ns ds => obtain ⟨_, _, _, _, e, _⟩ := h; cases e
  | .inr x, h => by
    cases d with
    | str y => cases (show V.str x = V.str (tx y) from h); exact rfl
    | non => cases (show V.str x = V.non from h)
    | bl b => cases (show V.str x = V.bl b from h)
    | int y => cases (show V.str x = V.int y from h)
    | tup ds => obtain ⟨_, _, e, _⟩ := h; cases e
    | lst ds => obtain ⟨_, _, e, _⟩ := h; cases e
    | src ds => obtain ⟨_, _, e, _⟩ := h; cases e
    | dct ks ds => obtain ⟨_, _, e, _⟩ := h; cases e
    | fn n => obtain ⟨_, e, _⟩ := h; cases e
    | ins c ns ds => obtain ⟨_, _, _, _, e, _⟩ := h; cases e
theorem key_is {B : Bs} {H : Hp} {O : Ad} {d : D} {v : V} (h : isKey d = true) (r : Rep B H O d v) : ∃ k, v = kV k ∧ KeyOf k d := by
  cases d with
  | int i => exact ⟨.inl i, r, rfl⟩
  | str x => exact ⟨.inr (tx x), r, rfl⟩
  | _ => cases h
theorem tx_inj {x y : List Nat} : (tx x = tx y) ↔ x = y := ⟨fun e => by
  have := congrArg (fun z : Str => z.cps.toList) e
  simpa using this, fun e => by rw [e]⟩
theorem eqv_key : ∀ {k k2 : Key} {d d2 : D}, KeyOf k d → KeyOf k2 d2 → eqv d d2 = decide (k = k2)
  | .inl i, .inl j, d, d2, h, h2 => by
    cases d with
    | int a =>
      cases d2 with
      | int b =>
        cases (show i = a from h)
        cases (show j = b from h2)
        show (i == j) = _
        by_cases q : i = j
        · subst q; simp
        · rw [beq_eq_false_iff_ne.mpr q, decide_eq_false fun z => q (Sum.inl.inj z)]
      | _ => exact h2.elim
    | _ => exact h.elim
  | .inr x, .inr y, d, d2, h, h2 => by
    cases d with
    | str a =>
      cases d2 with
      | str b =>
        cases (show x = tx a from h)
        cases (show y = tx b from h2)
        show (a == b) = _
        by_cases q : a = b
        · subst q; simp
        · rw [beq_eq_false_iff_ne.mpr q, decide_eq_false fun z => q (tx_inj.mp (Sum.inr.inj z))]
      | _ => exact h2.elim
    | _ => exact h.elim
  | .inl i, .inr y, d, d2, h, h2 => by
    cases d with
    | int a =>
      cases d2 with
      | str b => exact (decide_eq_false (fun z => (by cases z))).symm
      | _ => exact h2.elim
    | _ => exact h.elim
  | .inr x, .inl j, d, d2, h, h2 => by
    cases d with
    | str a =>
      cases d2 with
      | int b => exact (decide_eq_false (fun z => (by cases z))).symm
      | _ => exact h2.elim
    | _ => exact h.elim
section
variable {B : Bs} {H : Hp} {O : Ad}
theorem valK_is {k : Key} {x : D} (hk : KeyOf k x) : ∀ {kvs : List (Key × V)} {ks ds : List D}, RepL B H O ks (kvs.map fun p => kV p.1) → RepL B H O ds (kvs.map (·.2)) → (valK ks ds x = none ∧ valV kvs k = none) ∨ ∃ d v, valK ks ds x = some d ∧ valV kvs k = some v ∧ Rep B H O d v
  | [], ks, ds, rk, rd => by
    cases ks with
    | nil => exact .inl ⟨rfl, rfl⟩
    | cons a as => obtain ⟨_, _, e, _⟩ := rk; cases e
  | p :: kvs, ks, ds, rk, rd => by
    cases ks with
    | nil => cases (show (p :: kvs).map (fun p => kV p.1) = [] from rk)
    | cons a as =>
      cases ds with
      | nil => cases (show (p :: kvs).map (·.2) = [] from rd)
      | cons d ds =>
        obtain ⟨_, _, e, h1, h2⟩ := rk
        cases e
        obtain ⟨_, _, e, g1, g2⟩ := rd
        cases e
        have ee := eqv_key (key_of_rep h1) hk
        unfold valK
        by_cases q : p.1 = k
        · rw [ee, if_pos (by simpa using q), valV_pos q]
          exact .inr ⟨d, p.2, rfl, rfl, g1⟩
        · rw [ee, if_neg (by simpa using q), valV_neg q]
          exact valK_is hk h2 g2
theorem anyK_is {k : Key} {x : D} (hk : KeyOf k x) : ∀ {kvs : List (Key × V)} {ks : List D}, RepL B H O ks (kvs.map fun p => kV p.1) → (ks.any fun y => eqv y x) = (kvs.any fun kv => decide (kv.1 = k))
  | [], ks, rk => by
    cases ks with
    | nil => rfl
    | cons a as => obtain ⟨_, _, e, _⟩ := rk; cases e
  | p :: kvs, ks, rk => by
    cases ks with
    | nil => cases (show (p :: kvs).map (fun p => kV p.1) = [] from rk)
    | cons a as =>
      obtain ⟨_, _, e, h1, h2⟩ := rk
      cases e
      rw [List.any_cons, List.any_cons, anyK_is hk h2, eqv_key (key_of_rep h1) hk]
theorem putV_is {k : Key} {x d : D} {v : V} (hk : KeyOf k x) (hv : Rep B H O d v) : ∀ {kvs : List (Key × V)} {ks ds : List D}, RepL B H O ks (kvs.map fun p => kV p.1) → RepL B H O ds (kvs.map (·.2)) →
    RepL B H O ks ((kvs.map fun kv => if kv.1 = k then (kv.1, v) else kv).map fun p => kV p.1) ∧ RepL B H O (putV ks ds x d) ((kvs.map fun kv => if kv.1 = k then (kv.1, v) else kv).map (·.2))
  | [], ks, ds, rk, rd => by
    cases ks with
    | nil => exact ⟨rfl, rfl⟩
    | cons a as => obtain ⟨_, _, e, _⟩ := rk; cases e
  | p :: kvs, ks, ds, rk, rd => by
    cases ks with
    | nil => cases (show (p :: kvs).map (fun p => kV p.1) = [] from rk)
    | cons a as =>
      cases ds with
      | nil => cases (show (p :: kvs).map (·.2) = [] from rd)
      | cons d0 ds =>
        obtain ⟨_, _, e, h1, h2⟩ := rk
        cases e
        obtain ⟨_, _, e, g1, g2⟩ := rd
        cases e
        have ee := eqv_key (key_of_rep h1) hk
        obtain ⟨i1, i2⟩ := putV_is hk hv h2 g2
        unfold putV
        by_cases q : p.1 = k
        · rw [ee, if_pos (by simpa using q), List.map_cons, if_pos q]
          exact ⟨⟨_, _, rfl, h1, i1⟩, ⟨_, _, rfl, hv, i2⟩⟩
        · rw [ee, if_neg (by simpa using q), List.map_cons, if_neg q]
          exact ⟨⟨_, _, rfl, h1, i1⟩, ⟨_, _, rfl, g1, i2⟩⟩
theorem RepL.snoc : ∀ {ds : List D} {vs : List V} {d : D} {v : V}, RepL B H O ds vs → Rep B H O d v → RepL B H O (ds ++ [d]) (vs ++ [v])
  | [], vs, d, v, r, h => by
    cases (show vs = [] from r)
    exact ⟨v, [], rfl, h, rfl⟩
  | a :: ds, vs, d, v, r, h => by
    obtain ⟨w, wr, e, h1, h2⟩ := r
    subst e
    exact ⟨w, wr ++ [v], rfl, h1, RepL.snoc h2 h⟩
theorem rd_gt {a : Addr} {u : HO} (h : gt H a = some u) : Rd H a u := by
  unfold gt at h
  split at h
  · rename_i o w e
    cases h
    exact .inr ⟨o, e⟩
  · exact .inl h
end
/-! ### x.get(k, z) -/
section
variable {X : Cx} {W : WX} {c : Fr} {ρ : List Sl} {o e f : Expr} {m m1 m2 : R D} {apos cpos : Pos}
theorem e_dget (hu : X.A.units + 65 < cLine) (ho : JE X W c ρ .bo o m) (he : JE X W c ρ .sh e m1) (hf : JE X W c ρ .sh f m2) (side : M2 X o "get" apos e f cpos) : JE X W c ρ .sh (.Call (.Attribute o "get" apos) [e, f] [] cpos) (dgetR m m1 m2) :=
  PE.imp (pe_dget2 (by omega) ho he hf side) fun σ H Q q => by
    refine Wd.mono (Wd.bind q) fun d H1 g1 q1 x rx => ?_
    cases d with
    | dct ks ds =>
      have q1 : Wd X W c ρ σ (m1.bind fun k => m2.bind fun z => getD2 (.dct ks ds) k z) H1 _ := q1
      obtain ⟨a, kvs, rfl, hg, _, _⟩ := bo_dct rx
      refine ⟨a, rfl, .inl ⟨kvs, rd_gt hg⟩, Wd.mono (Wd.bind q1) fun k H2 g2 q2 y ry => Wd.mono (Wd.bind q2) fun z H3 g3 q3 w rz => ?_⟩
      obtain ⟨a2, kvs2, e2, hg2, rk, rd⟩ := bo_dct (RepX.pg (g2.trans g3) q1.1.hdO q.1.hth rx)
      cases e2
      obtain ⟨r, er, kk⟩ := q3.val (getD2_calm _ _ _)
      obtain ⟨hk, er⟩ := if_ok (show (if isKey k = true then R.ok ((valK ks ds k).getD z) else .stuck) = .ok r from er)
      cases er
      obtain ⟨key, ey, hkey⟩ := key_is hk ry
      refine ⟨valV kvs2 key, .inl ⟨kvs2, key, rd_gt hg2, ey, rfl⟩, ?_⟩
      rcases valK_is hkey rk rd with ⟨n1, n2⟩ | ⟨d, v, n1, n2, hr⟩
      · rw [n2]
        refine kk H3 (Pg.refl _ _ _) w ?_
        rw [n1]; exact rz
      · rw [n2]
        refine kk H3 (Pg.refl _ _ _) v ?_
        rw [n1]; exact hr
    | _ => exact q1.2.elim
end
/-! ### x[k] = v; x = {} -/
section
variable {X : Cx} {W : WX} {c : Fr} {ρ : List Sl} {e e1 e2 : Expr} {m m1 m2 : R D} {β : Type} {K : Ends → β → Prop} {f : D → R β} {d0 : D} {rest : List Stmt} {x y : Str} {pos p apos spos px py pt pt2 : Pos} {i j : Nat} {kt k2 : _}
theorem s_itemD (i : Nat) (hu : X.A.units + 65 < cLine) (he2 : JE X W c ρ .sh e2 m2) (he1 : JE X W c ρ .sh e1 m1) (hr : ∀ z, JX X W c (ρ.set i (.ow z)) rest (f z) K) (hd : ρ[i]? = some (.ow d0) := by rfl) (hN : X.N[i]? = some x := by rfl) (hv : Vis X.env.scope x := by first | exact Or.inl rfl | exact Or.inr (Or.inl rfl) | exact Or.inr (Or.inr rfl))
    (h1 : (x == ("__debug__" : Str)) = false := by decide) (h2 : (x == ("__classdict__" : Str)) = false := by decide) (hs : swapsWithSole [.Subscript (.Name x p) e1 apos] e2 spos.line X.env = pure false := by rfl) (hw : swappedStores [.Subscript (.Name x p) e1 apos] e2 X.env = pure none := by rfl)
    (h3 : (assignEach [.Subscript (.Name x p) e1 apos] X.env).map (·.2) = [assign (.Subscript (.Name x p) e1 apos) X.env] := by rfl)
    (h4 : ∀ v, assign (.Subscript (.Name x p) e1 apos) X.env v = (do
      let ov ← holding [v] (eval (.Name x p) X.env)
      let iv ← holding [v, ov] (eval e1 X.env)
      standAt apos
      holding [v, ov, iv] (setItem ov iv v)
      release [v, ov, iv] []) := by intro _; rfl) :
    JX X W c ρ (.Assign [.Subscript (.Name x p) e1 apos] e2 spos :: rest) (m2.bind fun d => m1.bind fun k => (putD d0 k d).bind f) K :=
  PSs.imp (pss_cons (ps_asg he2 (pg_sub (pe_var hN hv h1 h2) he1 (set_dict (by omega)) h4) hs hw h3) (pss_ex hr)) fun Dn σ H q => by
    refine Wd.mono (tX.wd q) fun d H1 g q1 v rv => ?_
    obtain ⟨a, ea, _⟩ := q1.1.ows i d0 hd
    refine ⟨.ref a, ea, Wd.mono (tX.wd q1) fun k H2 g2 q2 z rz => ?_⟩
    obtain ⟨a2, ea2, own, _⟩ := q2.1.ows i d0 hd
    rw [ea] at ea2
    cases ea2
    have sat := R.sat_bind.mp q2.2
    cases d0 with
    | dct ks ds =>
      obtain ⟨kvs, hA, rk, rd⟩ := own
      have sat : (if isKey k = true ∧ ks.length < SZ then (if (ks.any fun y => eqv y k) = true then R.ok (.dct ks (putV ks ds k d)) else .ok (.dct (ks ++ [k]) (ds ++ [d]))) else .stuck : R D).sat _ _ := sat
      by_cases hc : isKey k = true ∧ ks.length < SZ
      rotate_left
      · rw [if_neg hc] at sat
        exact sat.elim
      rw [if_pos hc] at sat
      obtain ⟨key, ek, hkey⟩ := key_is hc.1 rz
      subst ek
      have hi : OA c ρ σ a := .inr ⟨i, _, hd, ea⟩
      have kp : Kp H2 (L2.upd H2 a (.dK (putK kvs key v))) (OA c ρ σ) (OA c ρ σ) := .of fun b u _ e n => ⟨by rw [upd_ne fun z => n (by rw [z]; exact hi)]; exact e, n⟩
      have hl : kvs.length < sizeLine := by
        have := rk.length
        rw [List.length_map] at this
        rw [this, ← SZ_eq]; exact hc.2
      have rv2 := Rep.kp kp (Rep.kp (g2.k q1.1.hdO) rv)
      have rz2 := Rep.kp kp rz
      have rk2 := rk.kp kp
      have rd2 := rd.kp kp
      have an := anyK_is hkey rk
      refine ⟨a, _, rfl, .k hA hl, ?_⟩
      split at sat
      · rename_i q
        refine ⟨.dct ks (putV ks ds k d), q2.1.upd hd ea ⟨_, upd_same, ?_⟩, sat⟩
        have : putK kvs key v = kvs.map (fun kv => if kv.1 = key then (kv.1, v) else kv) := by
          unfold putK
          rw [← an, if_pos q]
        rw [this]
        rw [this] at rk2 rd2 rv2
        exact putV_is hkey rv2 rk2 rd2
      · rename_i q
        refine ⟨.dct (ks ++ [k]) (ds ++ [d]), q2.1.upd hd ea ⟨_, upd_same, ?_⟩, sat⟩
        have : putK kvs key v = kvs ++ [(key, v)] := by
          unfold putK
          rw [← an, if_neg q]
        rw [this]
        rw [this] at rk2 rd2 rv2 rz2
        rw [List.map_append, List.map_append]
        exact ⟨rk2.snoc rz2, rd2.snoc rv2⟩
    | _ => exact (show False from sat).elim
theorem s_setOD {q : Pos} (hN : X.N.Nodup) (he : JE X W c ρ .ra e m) (hr : ∀ z, JX X W c (ρ.set i (.ow z)) rest (f z) K) (hi : i < ρ.length := by exact Nat.le_of_ble_eq_true rfl) (hn : X.N[i]? = some x := by rfl) (hx : Loc X.env.scope x := by first | exact Or.inl rfl | exact Or.inr rfl)
    (hs : swapsWith e (some (.Name x q)) pos.line X.env = pure false := by rfl) (hf : X.fn x = true ∨ X.env.scope.names.lookup x = some .local := by first | exact .inl rfl | exact .inr rfl) : JX X W c ρ (.Assign [.Name x q] e pos :: rest) (m.bind fun d => (ownD d).bind f) K :=
  PSs.imp (pss_cons (ps_set hN hn hx he hs hf) (pss_ex hr)) fun Dn σ H q => Wd.mono (tX.wd q) fun d H' g q1 v rv => by
    have q2 := R.sat_bind.mp q1.2
    cases d with
    | lst xs => exact ⟨.lst xs, q.1.setRa g hi ⟨_, rfl⟩ rv, q2⟩
    | dct ks ds => exact ⟨.dct ks ds, q.1.setRa g hi ⟨_, rfl⟩ rv, q2⟩
    | _ => exact (show False from q2).elim
theorem store_own {σ : L2.St} {H H1 : Hp} {d : D} {v : V} (w : WI X.bs c ρ σ H) (g : Pg c.T c.hd H H1) (hi : i < ρ.length) (ho : ∃ d', ownD d = .ok d') (r : RepX X.bs c.hd H H1 (OA c ρ σ) .ra d v) :
    WI X.bs c (ρ.set i (.ow d)) (σ.set i (some v)) H1 ∧ ∃ c1 : Fr, WI X.bs c1 ρ σ H1 ∧ c1.hd = c.hd ∧ c1.T = c.T ∧ ∀ q, OA c (ρ.set i (.ow d)) (σ.set i (some v)) q → OA c1 ρ σ q := by
  obtain ⟨p, rfl, hn, r0⟩ : ∃ p, v = V.ref p ∧ Fre H p ∧ OwnAt X.bs H1 (fun b => OA c ρ σ b ∨ b = p) d p := by
    cases d with
    | lst ds => exact r
    | dct ks ds => exact r
    | _ => obtain ⟨_, e⟩ := ho; cases e
  refine ⟨w.setRa g hi ho r, c.plus p, w.plus hn g r0.thr, rfl, rfl, fun q z => OA_plus.mpr ?_⟩
  rcases z with z | ⟨k, d', e1, e2⟩
  · exact .inl (.inl z)
  · rcases ix_set e1 with ⟨rfl, _, _⟩ | ⟨n, e1⟩
    · rw [List.getElem?_set_self (by rw [← w.len]; exact hi)] at e2
      cases e2
      exact .inr rfl
    · rw [List.getElem?_set_ne n] at e2
      exact .inl (.inr ⟨k, d', e1, e2⟩)
theorem own_sat {α : Type} {d : D} {k : D → R α} {P : α → Prop} {E : String → List (String × D) → Prop} (h : ((ownD d).bind k).sat P E) : (∃ d', ownD d = .ok d') ∧ (k d).sat P E := by
  cases d with
  | lst xs => exact ⟨⟨_, rfl⟩, h⟩
  | dct ks ds => exact ⟨⟨_, rfl⟩, h⟩
  | _ => exact (show False from h).elim
/-- x, y = e1, e2: a dict and a list of one's own -/
theorem s_parDL {a b : Expr} {f : D → List D → R β} (hc : X.calm = true) (hN : X.N.Nodup) (ha : JE X W c ρ .ra a m1) {Tt : List (Addr × Str)} (hT : c.T = Tt) (hb : ∀ c' : Fr, c'.T = Tt → JE X W c' ρ .ra b m2) (hr : ∀ d1 xs, JX X W c ((ρ.set i (.ow d1)).set j (.ow (.lst xs))) rest (f d1 xs) K)
    (hij : i ≠ j := by decide) (hil : i < ρ.length := by exact Nat.le_of_ble_eq_true rfl) (hjl : j < ρ.length := by exact Nat.le_of_ble_eq_true rfl) (hi : X.N[i]? = some x := by rfl) (hj : X.N[j]? = some y := by rfl) (hx : X.env.scope.names.lookup x = some .local := by rfl) (hy : X.env.scope.names.lookup y = some .local := by rfl)
    (hs0 : starEach [a, b] X.env = (false, eval a X.env) :: starEach [b] X.env := by rfl) (hs1 : starEach [b] X.env = (false, eval b X.env) :: starEach [] X.env := by rfl) (hw : swappedStores [.Tuple [.Name x px, .Name y py] kt pt] (.Tuple [a, b] k2 pt2) X.env = pure (some [x, y]) := by rfl)
    (hs : swapsWithSole [.Tuple [.Name x px, .Name y py] kt pt] (.Tuple [a, b] k2 pt2) pos.line X.env = pure false := by rfl) :
    JX X W c ρ (.Assign [.Tuple [.Name x px, .Name y py] kt pt] (.Tuple [a, b] k2 pt2) pos :: rest) (m1.bind fun d1 => (ownD d1).bind fun d1 => m2.bind fun d2 => (ownL d2).bind fun xs => f d1 xs) K := by
  have hps := ps_par (i := i) (j := j) (pos := pos) hc hN hi hj hij hx hy (pa_cons ha (pa_cons (pe_ex fun q : {c' : Fr // c'.T = Tt} => hb q.1 q.2) pa_nil hs1) hs0) hw hs
  refine PSs.imp (pss_cons hps (pss_ex fun q : D × List D => hr q.1 q.2)) fun Dn σ H q => ?_
  refine Wd.mono (tX.wd q) fun d1 H1 g1 q1 v1 r1 => ?_
  obtain ⟨o1, s1⟩ := own_sat q1.2
  obtain ⟨w1, c1, wc, ehd, eT, hOA⟩ := store_own (i := i) q.1 g1 hil o1 r1
  refine ⟨⟨c1, eT.trans hT⟩, wc, R.sat_mono (R.sat_bind.mp s1) (fun d2 s2 H2 g2 v2 r2 => ?_) fun cl fs z x dd H' g ev => z x dd σ H' (w1.ext.trans (pgT ehd eT g)) ev⟩
  have g2 : Pg c.T c.hd H1 H2 := pgT ehd eT g2
  rw [ehd] at r2
  cases d2 with
  | lst xs =>
    obtain ⟨w2, _⟩ := store_own (i := j) w1 g2 (by rw [List.length_set]; exact hjl) ⟨_, rfl⟩ (RepX.lessO (o := true) hOA r2)
    exact ⟨v1, v2, rfl, (d1, xs), w2, s2⟩
  | _ => exact (show False from s2).elim
end
end Ev


set_option Elab.async false
set_option linter.all false
set_option maxRecDepth 100000
/-! Ev, part A3: gcd; tuples cut by steps. -/
namespace Ev
open PySem PySem.Spec PyProof.Rows L2
/-! ### gcd -/
def gcdD : D → D → R D
  | .int a, .int b => .ok (.int (Nat.gcd a.natAbs b.natAbs : Nat))
  | _, _ => .stuck
theorem gcdD_calm (a b : D) : Calm (gcdD a b) := by
  unfold gcdD
  split <;> first | exact calm_ok | exact calm_stuck
section
variable {X : Cx} {W : WX} {c : Fr} {ρ : List Sl} {e e2 : Expr} {m m2 : R D} {pos p : Pos}
theorem c_gcd : CallR X (.builtin "math.gcd") (rDC X.bs (un2 gcdD)) := by
  intro pins s σ H xs us Q I r h
  obtain ⟨hdd, O, ds, d, hO, hb0, e0, q⟩ := h
  obtain ⟨a, b, rfl, e⟩ := un2_ok e0
  obtain ⟨v, w, rfl, h1, h2⟩ := hb0.two
  unfold gcdD at e
  split at e
  · cases e
    cases bo_int h1
    cases bo_int h2
    exact cr_gcd pins s σ H _ us Q I r ⟨_, _, rfl, q _ H (Gr.refl _) rfl⟩
  · cases e
theorem e_bf2 {x : Str} {id : String} {f : D → D → R D} (hc : CallR X (.builtin id) (rDC X.bs (un2 f))) (hf : ∀ a b, Calm (f a b)) (hm : X.mg x = some (.builtin id)) (ha : JE X W c ρ .bo e m) (hb : JE X W c ρ .bo e2 m2) (hg : Gl X x := by rfl)
    (hdb : (x == ("__debug__" : Str)) = false := by decide) (he : starEach [e, e2] X.env = (false, eval e X.env) :: starEach [e2] X.env := by rfl) (he2 : starEach [e2] X.env = (false, eval e2 X.env) :: starEach [] X.env := by rfl) (hpl : (backTo pos (starEach [e2] X.env)).any (·.1) = false := by rfl) :
    JE X W c ρ .ra (.Call (.Name x p) [e, e2] [] pos) (l2 f m m2) := by
  rw [← ap_un2]
  exact PE.imp (pe_callBfun hc hg hm (a_cons ha (a_cons hb a_nil he2) he) hdb he hpl) fun σ H Q q => by
    refine Wd.mono (Wd.bind q) fun ds H1 g1 q1 vs rvs => ?_
    obtain ⟨d, ed, k⟩ := q1.val (un2_calm hf ds)
    exact ⟨c.hd, OA c ρ σ, ds, d, q1.1.there, rvs, ed, fun v H' g r => k H' g.pg v (r.back fun _ => q.1.none g1)⟩
end
/-! ### x[i::k] -/
def stepL {α : Type} (xs : List α) (i k : Nat) : List α := (List.range (if i < xs.length then (xs.length - i - 1) / k + 1 else 0)).filterMap fun m => xs[i + m * k]?
def stepD (k : Nat) (d : D) (l : Option Int) : R D := match d with
  | .tup xs => if 0 ≤ l.getD 0 then .ok (.tup (stepL xs (l.getD 0).toNat k)) else .stuck
  | .lst xs => if 0 ≤ l.getD 0 then .ok (.lst (stepL xs (l.getD 0).toNat k)) else .stuck
  | _ => .stuck
def stepR (k : Nat) (m : R D) (lo : Option (R D)) : R D := m.bind fun d => (part lo).bind fun l => stepD k d l
theorem stepD_calm (k : Nat) (d : D) (l : Option Int) : Calm (stepD k d l) := by
  unfold stepD
  split <;> first | exact calm_ite calm_ok calm_stuck | exact calm_stuck
theorem stepL_len {α : Type} (xs : List α) (i k : Nat) (hk : 1 ≤ k) : (stepL xs i k).length ≤ xs.length := by
  unfold stepL
  refine Nat.le_trans (List.length_filterMap_le _ _) ?_
  rw [List.length_range]
  split
  · have := Nat.div_le_self (xs.length - i - 1) k
    omega
  · exact Nat.zero_le _
section
variable {prog : Program} {w : World} {A : Around} {E : Value → Shared → Prop} {s : Shared}
theorem applied_step {sl : Addr} {vl vu vs : Value} {lo : Option Int} {k : Int} {n : Nat} {Q : Int × Int × Nat → Shared → Prop} (hs : s.heap.IsSliceOf sl vl vu vs) (pl : IsPart vl lo) (pu : IsPart vu none) (ps : IsPart vs (some k)) (h2 : 2 ≤ k) (h0 : 0 ≤ lo.getD 0)
    (h : Q (min (lo.getD 0) (n : Int), k, Builtin.Slice.slicePlaces (min (lo.getD 0) (n : Int)) n k) s) : wpAny (model prog w) A (Builtin.Slice.sliceApplied (.ref sl) (pure (n : Int))) Q E s := by
  obtain ⟨os, hos, hcs, hds⟩ := id hs
  unfold Builtin.Slice.sliceApplied Builtin.Slice.sliceFields
  refine wpAny_bind (wpAny_bind (wpAny_field hos hds (x := vl) rfl (wpAny_bind (wpAny_field hos hds (x := vu) rfl (wpAny_bind (wpAny_field hos hds (x := vs) rfl (wpAny_pure ?_)))))))
  refine wpAny_bind (HT.slicePart_ ps ?_)
  show wpAny _ _ (if (k == 0) = true then _ else _) _ _ s
  rw [if_neg (by simp; omega)]
  refine wpAny_bind (HT.slicePart_ pl (wpAny_bind (HT.slicePart_ pu (wpAny_bind (wpAny_pure ?_)))))
  have e : Builtin.Slice.sliceAdjust lo none k (n : Int) = (min (lo.getD 0) (n : Int), (n : Int)) := by
    unfold Builtin.Slice.sliceAdjust
    have nk : ¬ (k < 0) := by omega
    cases lo with
    | none =>
      simp only [nk, if_false, Option.getD_none]
      rw [Int.min_eq_left (by omega)]
    | some v =>
      have h0 : 0 ≤ v := h0
      have nv : ¬ (v < 0) := by omega
      simp only [nk, nv, if_false, Option.getD_some]
  show wpAny _ _ (pure ((Builtin.Slice.sliceAdjust lo none k (n : Int)).1, k, Builtin.Slice.slicePlaces (Builtin.Slice.sliceAdjust lo none k (n : Int)).1 (Builtin.Slice.sliceAdjust lo none k (n : Int)).2 k)) _ _ s
  rw [e]
  exact wpAny_pure h
theorem pick_step (xs : Array Value) (i k : Int) (h0 : 0 ≤ i) (h2 : 2 ≤ k) : ((List.range (Builtin.Slice.slicePlaces (min i (xs.size : Int)) xs.size k)).filterMap fun (m : Nat) => xs[(min i (xs.size : Int) + (m : Int) * k).toNat]?).toArray = (stepL xs.toList i.toNat k.toNat).toArray := by
  congr 1
  unfold stepL Builtin.Slice.slicePlaces
  have hk : k > 0 := by omega
  rw [if_pos hk, Array.length_toList]
  by_cases h : i < (xs.size : Int)
  · rw [Int.min_eq_left (by omega), if_pos h, if_pos (by omega)]
    have e : (((xs.size : Int) - i - 1) / k + 1).toNat = (xs.size - i.toNat - 1) / k.toNat + 1 := by
      have e1 : ((xs.size : Int) - i - 1) = ((xs.size - i.toNat - 1 : Nat) : Int) := by omega
      have e2 : k = ((k.toNat : Nat) : Int) := by omega
      have e3 : ((xs.size - i.toNat - 1 : Nat) : Int) / ((k.toNat : Nat) : Int) = ((((xs.size - i.toNat - 1) / k.toNat : Nat)) : Int) := (Int.natCast_ediv _ _).symm
      rw [e1]
      conv => lhs; rw [e2]
      rw [e3]
      generalize (xs.size - i.toNat - 1) / k.toNat = z
      omega
    rw [e]
    congr 1
    funext m
    have e3 : (i + (m : Int) * k).toNat = i.toNat + m * k.toNat := by
      have e4 : (m : Int) * k = ((m * k.toNat : Nat) : Int) := by rw [Int.natCast_mul]; congr 1; omega
      rw [e4]; omega
    rw [e3, Array.getElem?_toList]
  · rw [Int.min_eq_right (by omega), if_neg (by omega), if_neg (by omega)]
    rfl
theorem step_count {n i k : Nat} (hk : 1 ≤ k) (h : i < n) : (((n : Int) - i + k - 1) / k).toNat = (n - i - 1) / k + 1 := by
  have e : (n : Int) - i + k - 1 = ((n - i - 1 + k : Nat) : Int) := by omega
  rw [e, ← Int.natCast_ediv, Int.toNat_natCast, Nat.add_div_right _ (by omega)]
theorem pick_list (items : Array Value) (lo : Option Int) (k : Int) (h0 : 0 ≤ lo.getD 0) (h2 : 2 ≤ k) : slicePick items lo none (some k) = (stepL items.toList (lo.getD 0).toNat k.toNat).toArray := by
  unfold slicePick
  congr 1
  have eb : sliceBounds lo none (some k) items.size = (min (lo.getD 0) (items.size : Int), (items.size : Int), k) := by
    unfold sliceBounds
    have kp : k > 0 := by omega
    cases lo with
    | none =>
      simp only [Option.getD_some, kp, if_true, Option.getD_none]
      rw [Int.min_eq_left (by omega)]
    | some v =>
      have h0 : 0 ≤ v := h0
      have nv : ¬ (v < 0) := by omega
      simp only [Option.getD_some, kp, if_true, nv, if_false]
      rw [Int.max_eq_right (by omega)]
  rw [eb]
  show (sliceRange (min (lo.getD 0) (items.size : Int)) (items.size : Int) k).filterMap (items[·]?) = _
  generalize lo.getD 0 = i at h0 ⊢
  unfold sliceRange stepL
  have kp : k > 0 := by omega
  simp only [kp, if_true]
  rw [Array.length_toList, List.filterMap_map]
  by_cases h : i < (items.size : Int)
  · rw [Int.min_eq_left (by omega)]
    simp only [h, if_true]
    rw [if_pos (show i.toNat < items.size by omega)]
    have := step_count (n := items.size) (i := i.toNat) (k := k.toNat) (by omega) (by omega)
    rw [show ((i.toNat : Nat) : Int) = i from by omega, show ((k.toNat : Nat) : Int) = k from by omega] at this
    rw [this]
    congr 1
    funext m
    have e3 : (i + k * (m : Int)).toNat = i.toNat + m * k.toNat := by
      have e4 : k * (m : Int) = ((m * k.toNat : Nat) : Int) := by rw [Int.natCast_mul, Int.mul_comm]; congr 1; omega
      rw [e4]; omega
    show items[(i + k * (m : Int)).toNat]? = _
    rw [e3, Array.getElem?_toList]
  · rw [Int.min_eq_right (by omega), if_neg (show ¬ i.toNat < items.size by omega)]
    simp
theorem getItem_step {t sl : Addr} {items : Array Value} {vl vu vs : Value} {lo : Option Int} {k : Int} {Q : Value → Shared → Prop} (ht : IsTup s.heap t items) (hs : s.heap.IsSliceOf sl vl vu vs) (pl : IsPart vl lo) (pu : IsPart vu none) (ps : IsPart vs (some k)) (h2 : 2 ≤ k) (h0 : 0 ≤ lo.getD 0)
    (h : Q (.ref s.heap.objs.size) { s with heap := s.heap.push { cls := .type "tuple", data := .seq (stepL items.toList (lo.getD 0).toNat k.toNat).toArray } })
    (hsz : items.size ≤ sizeLine) : wpAny (model prog w) A (getItem (.ref t) (.ref sl)) Q E s := by
  have hfit : sizeOk (.seq (stepL items.toList (lo.getD 0).toNat k.toNat).toArray) := by
    show (stepL items.toList (lo.getD 0).toNat k.toNat).toArray.size ≤ sizeLine
    have := stepL_len items.toList (lo.getD 0).toNat k.toNat (by omega)
    rw [Array.length_toList] at this
    exact Nat.le_trans (by simpa using this) hsz
  obtain ⟨os, hos, hcs, hds⟩ := id hs
  have hTs : s.TypeIs (.ref sl) "slice" := ⟨os, hos, hcs⟩
  unfold getItem
  try with_reducible refine wpAny_holding ?_
  first | refine wpAny_bind (wpAny_pure ?_) | skip
  refine wpAny_bind (wpAny_sequenceKey ht.typeIs (by decide) ?_)
  refine wpAny_bind (wpAny_callSpecial?_slot (name := Str.ofString "__getitem__") ht.typeIs PyProof.Rows.slot_tuple_getitem
    (wpAny_call_entry PyProof.Rows.slot_tuple_getitem ht.typeIs entry_tuple_getitem ?_ (args_tuple_getitem _ _)))
  show wpAny _ _ (Builtin.Tuple.tupleItemsOf (.ref t) >>= _) _ _ s
  refine wpAny_bind (tupleItemsOf_ ht ?_)
  refine wpAny_bind (wpAny_typeOf hTs ?_)
  rw [if_pos (by decide)]
  refine wpAny_bind (applied_step (n := items.size) hs pl pu ps h2 h0 ?_)
  have hno : ¬ ((min (lo.getD 0) (items.size : Int) == 0 && k == 1 && Builtin.Slice.slicePlaces (min (lo.getD 0) (items.size : Int)) items.size k == items.size) = true) := by
    intro q
    rw [Bool.and_eq_true, Bool.and_eq_true] at q
    have := beq_iff_eq.mp q.1.2
    omega
  show wpAny _ _ (if (min (lo.getD 0) (items.size : Int) == 0 && k == 1 && Builtin.Slice.slicePlaces (min (lo.getD 0) (items.size : Int)) items.size k == items.size) = true then _ else _) _ _ s
  rw [if_neg hno, pick_step _ _ _ h0 h2]
  first
    | exact wpAny_bind (m := Builtin.Tuple.tupleExact _) (wpAny_newObj_type (wpAny_pure ⟨_, rfl, wpAny_pure h⟩) hfit)
    | exact wpAny_bind (m := Builtin.Tuple.tupleExact _) (wpAny_newObj_type (wpAny_bind (wpAny_pure (wpAny_pure ⟨_, rfl, wpAny_pure h⟩))) hfit)
    | exact wpAny_bind (wpAny_bind (m := Builtin.Tuple.tupleExact _) (wpAny_newObj_type (wpAny_pure (wpAny_pure ⟨_, rfl, wpAny_pure h⟩)) hfit))
    | exact wpAny_bind (wpAny_bind (m := Builtin.Tuple.tupleExact _) (wpAny_newObj_type (wpAny_pure ⟨_, rfl, wpAny_pure h⟩) hfit))
end
theorem vals_pick {us : List Value} {xs : List V} (r : Vals xs us) : ∀ (is : List Nat), Vals (is.filterMap fun i => xs[i]?) (is.filterMap fun i => us[i]?)
  | [] => .nil
  | i :: is => by
    have ih := vals_pick r is
    have hl := r.length
    rw [List.filterMap_cons, List.filterMap_cons]
    by_cases h : i < xs.length
    · have hu : i < us.length := by omega
      obtain ⟨u, eu, ru⟩ := r.get (i := i) (x := xs[i]) (List.getElem?_eq_getElem h)
      rw [List.getElem?_eq_getElem h, eu]
      exact .cons ru ih
    · rw [List.getElem?_eq_none (by omega), List.getElem?_eq_none (by omega)]
      exact ih
theorem stepL_pick {α : Type} (xs : List α) (i k : Nat) : stepL xs i k = ((List.range (if i < xs.length then (xs.length - i - 1) / k + 1 else 0)).map fun m => i + m * k).filterMap fun j => xs[j]? := by
  unfold stepL
  rw [List.filterMap_map]; rfl
theorem repL_pick {B : Bs} {H : Hp} {O : Ad} {ds : List D} {vs : List V} (r : RepL B H O ds vs) : ∀ (is : List Nat), RepL B H O (is.filterMap fun i => ds[i]?) (is.filterMap fun i => vs[i]?)
  | [] => rfl
  | i :: is => by
    have ih := repL_pick r is
    have hl := r.length
    rw [List.filterMap_cons, List.filterMap_cons]
    by_cases h : i < ds.length
    · obtain ⟨v, ev, rv⟩ := r.get (i := i) (d := ds[i]) (List.getElem?_eq_getElem h)
      rw [List.getElem?_eq_getElem h, ev]
      exact ⟨v, _, rfl, rv, ih⟩
    · rw [List.getElem?_eq_none (by omega), List.getElem?_eq_none (by omega)]
      exact ih
section
variable {X : Cx} {W : WX} {c : Fr} {ρ : List Sl} {e st : Expr} {lo : Option Expr} {m : R D} {ml : Option (R D)} {te : TE} {tl ts : TO} {K : Int} {p3 pos : Pos}
def tStep (Kf : PySem.W.Frag) (K : Int) (te : TE) (tl ts : TO) : TE := fun σ H Q => te σ H fun x H1 => tl σ H1 fun l H2 => ts σ H2 fun o H3 => ∃ a xs, x = .ref a ∧ o = some K ∧ 0 ≤ l.getD 0 ∧ ((SqT Kf H3 a xs ∧ NewT H3 (stepL xs (l.getD 0).toNat K.toNat) Q) ∨ (SqL Kf H3 a xs ∧ ∀ p, H3 p = none → Q (.ref p) (L2.upd H3 p (.lst (stepL xs (l.getD 0).toNat K.toNat)))))
theorem pe_step (h2 : 2 ≤ K) (he : PE X e te) (hl : PO X lo tl) (hst : PO X (some st) ts) : PE X (.Subscript e (.Slice lo none (some st) p3) pos) (tStep X.K K te tl ts) := by
  refine ⟨fun pins s σ H Q I h => ?_⟩
  refine Subscript_ (thn (he.run pins s σ H _ I h) fun v s1 ⟨x, H1, I1, r1, q1⟩ => ?_)
  refine wpAny_Slice (thn (hl.run pins s1 σ H1 _ I1 q1) fun vl s2 ⟨l, H2, I2, pl, q2⟩ => ?_)
  refine thn (po_none.run pins s2 σ H2 (fun o H3 => o = none ∧ H3 = H2) I2 ⟨rfl, rfl⟩) fun vu s3 ⟨u, H3, I3, pu, eu, e3⟩ => ?_
  subst eu e3
  refine thn (hst.run pins s3 σ H3 _ I3 q2) fun vs s4 ⟨o, H4, I4, ps, a, xs, ex, eo, h0, hq⟩ => ?_
  subst eo ex
  cases r1
  have I5 : Inv X pins σ H4 { s4 with heap := s4.heap.push { cls := .type "slice", data := .fields #[vl, vu, vs] } } := I4.kept (t' := s4.toks) fun b ob q => Heap.get?_push_of_some _ q
  show wpAny (model X.prog X.w) X.A (subscriptTail e (.Slice lo none (some st) p3) (.ref a) (.ref s4.heap.objs.size)) (EP X pins σ Q) X.xe { s4 with heap := s4.heap.push { cls := .type "slice", data := .fields #[vl, vu, vs] } }
  rcases hq with ⟨hx, nt⟩ | ⟨hx, nt⟩
  · obtain ⟨its, r, ht, hz⟩ := I5.tuple hx
    have hlen := r.length
    refine tail_any (ops := [.ref a, .ref s4.heap.objs.size]) ht.typeIs (PyProof.Rows.slot_tuple_getitem.lookup) ?_ (by with_unfolding_all rfl)
    refine getItem_step ht (Heap.IsSliceOf.new _ vl vu vs) pl pu ps h2 h0 ?_ (by rw [List.size_toArray]; omega)
    have rv : Vals (stepL xs (l.getD 0).toNat K.toNat) (stepL its (l.getD 0).toNat K.toNat) := by
      rw [stepL_pick, stepL_pick, ← hlen]
      exact vals_pick r _
    exact laidT I5 rv (Nat.le_trans (stepL_len xs _ _ (by omega)) hz) nt
  · obtain ⟨its, r, ht, hz⟩ := I5.list hx
    have hlen := r.length
    refine tail_any (ops := [.ref a, .ref s4.heap.objs.size]) ht.isList.typeIs (PySem.slot_list_getitem.lookup) ?_ (by with_unfolding_all rfl)
    refine wpAny_getItem_list_slice ht.isList (Heap.IsSliceOf.new _ vl vu vs) pl pu ps (by simp; omega) ?_ (by rw [List.size_toArray]; omega)
    rw [pick_list _ _ _ h0 h2]
    have rv : Vals (stepL xs (l.getD 0).toNat K.toNat) (stepL its (l.getD 0).toNat K.toNat) := by
      rw [stepL_pick, stepL_pick, ← hlen]
      exact vals_pick r _
    refine ⟨.ref _, _, I5.laid (t' := s4.toks) (o := .lst (stepL xs (l.getD 0).toNat K.toNat)) (fun b ob q => Heap.get?_push_of_some _ q) (Nat.le_refl _) ?_, rfl, nt _ (I5.hok.fresh (Nat.le_refl _))⟩
    exact ⟨Nat.le_trans (stepL_len xs _ _ (by omega)) hz, _, 0, rv, Heap.get?_push_size _ rfl⟩
theorem e_step (K : Nat) (he : JE X W c ρ .bo e m) (hl : PO X lo (tPo X W c ρ ml)) (hs : JE X W c ρ .bo st (.ok (.int (K : Int)))) (h2 : 2 ≤ K := by decide) : JE X W c ρ .ra (.Subscript e (.Slice lo none (some st) p3) pos) (stepR K m ml) :=
  PE.imp (pe_step (K := (K : Int)) (by omega) he hl (p_some hs)) fun σ H Q q => by
    refine Wd.mono (Wd.bind q) fun d H1 g1 q1 x rx => ?_
    refine Wd.mono (Wd.bind q1) fun l H2 g2 q2 => ?_
    refine ⟨q2.1, fun H3 g3 => ?_⟩
    obtain ⟨r, er, k⟩ := q2.val (stepD_calm K d l)
    unfold stepD at er
    split at er
    · obtain ⟨h0, er⟩ := if_ok er
      cases er
      obtain ⟨a, vs, rfl, t1, h1, r1⟩ := bo_tup (RepX.pg (g2.trans g3) q1.1.hdO q.1.hth rx)
      refine ⟨a, vs, rfl, rfl, h0, .inl ⟨h1, fun p ob hp d0 => k _ (g3.trans (Gr.laid hp).pg) _ (RepX.back (fun _ => q.1.none (g1.trans (g2.trans g3))) (ra_tup d0 hp (q2.1.pg g3).there ?_))⟩⟩
      rw [stepL_pick, stepL_pick, r1.length]
      exact repL_pick r1 _
    · obtain ⟨h0, er⟩ := if_ok er
      cases er
      obtain ⟨a, vs, rfl, h1, r1⟩ := bo_lst (RepX.pg (g2.trans g3) q1.1.hdO q.1.hth rx)
      refine ⟨a, vs, rfl, rfl, h0, .inr ⟨.of h1, fun p hp => k _ (g3.trans (Gr.laid hp).pg) _ (RepX.back (fun _ => q.1.none (g1.trans (g2.trans g3))) (ra_lst hp (Gr.refl _) ?_))⟩⟩
      rw [stepL_pick, stepL_pick, r1.length]
      exact repL_pick r1 _
    · cases er
end
end Ev


set_option Elab.async false
set_option linter.all false
set_option maxRecDepth 100000
set_option maxHeartbeats 2000000
/-! Ev, part Y: the def law, its head, its end. -/
namespace Ev
open PySem PySem.Spec PyProof.Rows L2

/-- the promise of a def that is called with no hand around -/
def spL (K : PySem.W.Frag) (mg : Str → Option Value) (T : List (Addr × Str)) (n : Nat) (fl : Fl) (F : List D → R D) : Sp := fun vs H Q E => ∃ (O : Ad) (ds : List D), ds.length = n ∧ (∀ a, O a → Thr H a) ∧ LamX.Tabs T H ∧ RepL ⟨K, mg⟩ H O ds vs ∧
  (F ds).sat (fun d => ∀ v H', Pg T (fun _ => False) H H' → RepX ⟨K, mg⟩ (fun _ => False) H H' O fl d v → Q v H') fun cl fs => ∀ x dd H', Pg T (fun _ => False) H H' → ExcV ⟨K, mg⟩ H' cl fs x dd → E x dd H'
theorem fdL_of {P : Program} {w : World} {K : PySem.W.Frag} {mg : Str → Option Value} {base : Heap} {g : Bool} {k : Nat} {f : Addr} {x qual : Str} {pa : Arguments} {body : List Stmt} {scope : Scope} {fd : FuncData} {N ps : List Str} {n : Nat} {fl : Fl} {F : List D → R D} {T : List (Addr × Str)}
    (Fn : FunD K x qual pa body scope [] [] f fd) (S : FnScope N ps scope) (hps : ps.length = n)
    (hb : ∀ (cdv : Value) (A : Around) (outer : List Env) (s : Shared) (H : Hp) (E : XK) (c : Fr) (ds : List D), fd.code = cdv → c.T = T → (∀ a, ¬ c.hd a) → ds.length = n → Rm g k (A.deeper (envOfC qual scope s.heap.objs.size f cdv)) → Takes (bx P w K mg base N qual scope f cdv A outer s H E) (WF E) →
      PassesOwn (model P w) (bx P w K mg base N qual scope f cdv A outer s H E).A (bx P w K mg base N qual scope f cdv A outer s H E).env (bx P w K mg base N qual scope f cdv A outer s H E).xe → BodyOk (bx P w K mg base N qual scope f cdv A outer s H E) E c (startS false N.length ds) body fl (F ds)) :
    Fd P w K mg base g (k + 1) f fd ps (spL K mg T n fl F) := by
  refine fd_of Fn S (fun vs H Q E q => ?_) fun cdv A outer s H vs Q E hcd hr q => ?_
  · obtain ⟨O, ds, hn, _, _, r, _⟩ := q
    rw [r.length, hn, hps]
  obtain ⟨O, ds, hn, hO, htb, r, sat⟩ := q
  have hN : ps.length ≤ N.length := by
    have := congrArg List.length S.pre
    rw [List.length_take] at this
    omega
  let X := bx P w K mg base N qual scope f cdv A outer s H E
  obtain ⟨t, ht, hq⟩ := hb cdv A outer s H E ⟨O, fun _ => False, H, T, fun _ _ => False⟩ ds hcd rfl (fun _ z => z) hn hr (takes_of rfl rfl rfl rfl) (passes_of rfl)
  refine ⟨t, ht, hq Q _ H ?_ (R.sat_mono sat (fun _ z => z) fun cl fs z x dd σ' H' g ev => z x dd H' g ev)⟩
  have hlen := r.length
  have nohand : ∀ a, ¬ inHand (startS false N.length ds) (start N vs) a := by
    rintro a ⟨i, d, e1, _⟩
    unfold startS at e1
    have := List.mem_of_getElem? e1
    simp only [List.mem_append, List.mem_map, List.mem_replicate] at this
    rcases this with (z | ⟨_, _, z⟩) | ⟨_, z⟩
    · simp at z
    · cases z
    · cases z
  have hOA : ∀ a, OA ⟨O, fun _ => False, H, T, fun _ _ => False⟩ (startS false N.length ds) (start N vs) a → O a := fun a z => z.elim id fun z => (nohand a z).elim
  have sl : ∀ {i : Nat} {s : Sl}, (startS false N.length ds)[i]? = some s → s = Sl.no ∨ ∃ d v, s = Sl.sh d ∧ (start N vs)[i]? = some (some v) ∧ Rep ⟨K, mg⟩ H O d v := fun {i s} e => by
    have e : (ds.map Sl.sh ++ List.replicate (N.length - ((if false = true then 1 else 0) + ds.length)) Sl.no)[i]? = some s := by simpa [startS] using e
    have put : ∀ {j : Nat} {v : V}, vs[j]? = some v → (start N vs)[j]? = some (some v) := fun {j v} e => by
      obtain ⟨hj, _⟩ := List.getElem?_eq_some_iff.mp e
      unfold L2.start
      rw [List.getElem?_append_left (by simpa using hj), List.getElem?_map, e]; rfl
    by_cases hj : i < ds.length
    · rw [List.getElem?_append_left (by simpa using hj), List.getElem?_map, List.getElem?_eq_getElem hj] at e
      obtain ⟨v, e2, rr⟩ := r.get (List.getElem?_eq_getElem hj)
      exact .inr ⟨_, v, (Option.some.inj e).symm, put e2, rr⟩
    · rw [List.getElem?_append_right (by simpa using hj)] at e
      exact .inl (List.eq_of_mem_replicate (List.mem_of_getElem? e))
  refine ⟨?_, fun i d e => ?_, fun i d e => ?_, fun i e => ?_, fun i u e => ?_, fun i j d e a e1 _ _ _ => ?_, hO, fun a z => z.elim, fun a z => z.elim, Pg.refl _ _ _, fun a z => z.elim, htb, fun _ _ z => z.elim, fun _ _ z => z.elim, fun _ _ z => z.elim, fun _ _ z => z.elim⟩
  · unfold startS L2.start
    simp at hps hlen ⊢
    omega
  · rcases sl e with z | ⟨d', v, z, e2, rr⟩
    · cases z
    · cases z
      exact ⟨v, e2, rr.less hOA⟩
  · rcases sl e with z | ⟨d', v, z, e2, rr⟩ <;> cases z
  · rcases sl e with z | ⟨d', v, z, e2, rr⟩ <;> cases z
  · rcases sl e with z | ⟨d', v, z, e2, rr⟩ <;> cases z
  · rcases sl e1 with z | ⟨d', v, z, e2, rr⟩ <;> cases z

/-- no slot is a list of one's own, none the hand -/
def noOwB (ρ : List Sl) : Bool := ρ.all fun s => match s with
  | .ow _ => false
  | .hd => false
  | _ => true
theorem noOwB_ow {ρ : List Sl} (h : noOwB ρ = true) (j : Nat) (d : D) : ρ[j]? ≠ some (.ow d) := fun e => by
  have := List.all_eq_true.mp h _ (List.mem_of_getElem? e)
  cases this
theorem noOwB_hd {ρ : List Sl} (h : noOwB ρ = true) (j : Nat) : ρ[j]? ≠ some .hd := fun e => by
  have := List.all_eq_true.mp h _ (List.mem_of_getElem? e)
  cases this
section
variable {X : Cx} {W : WX} {c : Fr} {ρ : List Sl} {e : Expr} {m m2 : R D} {rest : List Stmt} {i : Nat} {x : Str}
/-- hand = .. -/
theorem s_setH {p pos : Pos} {Tt : List (Addr × Str)} (hN : X.N.Nodup) (he : JE X W c ρ .ra e m) (no : ∀ a, ¬ c.hd a) (hT : c.T = Tt) (hr : ∀ c' : Fr, c'.T = Tt → JX X W c' (ρ.set i .hd) rest m2 (KD X c' .sh)) (nw : noOwB ρ = true := by rfl) (hi : i < ρ.length := by exact Nat.le_of_ble_eq_true rfl) (hn : X.N[i]? = some x := by rfl) (hx : Loc X.env.scope x := by first | exact Or.inl rfl | exact Or.inr rfl)
    (hs : swapsWith e (some (.Name x p)) pos.line X.env = pure false := by rfl) (hf : X.fn x = true ∨ X.env.scope.names.lookup x = some .local := by first | exact .inl rfl | exact .inr rfl) : JX X W c ρ (.Assign [.Name x p] e pos :: rest) (m.bind fun d => sealR d m2) (KD X c .sh) :=
  s_hand (ps_set hN hn hx he hs hf) (fun _ _ _ q => q) hi no (noOwB_ow nw) (noOwB_hd nw) hT hr
end

/-! ### the head's facts -/
section
variable {K : PySem.W.Frag} {mg : Str → Option Value} {h : Heap}
def excCB (K : PySem.W.Frag) (D : Addr) : Bool := He.eqO (PySem.W.findIn K (.ref D) "__getattribute__") (some (some (.builtin "BaseException.__getattribute__"))) && (He.eqO (PySem.W.findIn K (.ref D) "__getattr__") (some none) && (decide (PySem.W.subIn K (.ref D) (.type "BaseException") = some true) && (PySem.W.hasDictIn K D &&
  (He.eqO (PySem.W.findIn K (.ref D) "__class__") (some (some (.builtin "object.__class__"))) && (He.eqO (PySem.W.specialIn K (.builtin "object.__class__") "__get__") (some (some (.builtin "getset_descriptor.__get__"))) && (decide (PySem.W.takesIn K (.builtin "object.__class__") = some true) && decide (PySem.W.mroIn K D (.type "object") = some true)))))))
theorem excCB_ok {D : Addr} (h : excCB K D = true) : ExcC K D := by
  obtain ⟨h1, h⟩ := He.ba h
  obtain ⟨h2, h⟩ := He.ba h
  obtain ⟨h3, h⟩ := He.ba h
  obtain ⟨h4, h⟩ := He.ba h
  obtain ⟨h5, h⟩ := He.ba h
  obtain ⟨h6, h⟩ := He.ba h
  obtain ⟨h7, h8⟩ := He.ba h
  exact ⟨He.eqO_ok h1, He.eqO_ok h2, of_decide_eq_true h3, h4, He.eqO_ok h5, He.eqO_ok h6, of_decide_eq_true h7, of_decide_eq_true h8⟩
/-- the program's own exceptions, as they are asked -/
def excsB (K : PySem.W.Frag) (xs : List String) : Bool := xs.all fun x => He.Fa.ok K (.glo (Str.ofString x)) && (excCB K (He.ga K (Str.ofString x)) && (decide (PySem.W.kitOne K (.ref (He.ga K (Str.ofString x))) (.type "ValueError") = some true) && (decide (PySem.W.exmOne K (.ref (He.ga K (Str.ofString x))) (.ref (He.ga K "PostFault")) = some true) &&
  xs.all fun y => decide (PySem.W.kitOne K (.ref (He.ga K (Str.ofString x))) (.ref (He.ga K (Str.ofString y))) = some (isSub x y)))))
section
variable {xs : List String} {cl y : String} {C D : Addr}
theorem excsB_at (X : K.In h) (G : h.Ns mainGlobals mg) (q : excsB K xs = true) (m : xs.contains cl = true) (e : mg (Str.ofString cl) = some (.ref C)) : C = He.ga K (Str.ofString cl) ∧ excCB K C = true ∧ PySem.W.kitOne K (.ref C) (.type "ValueError") = some true ∧ PySem.W.exmOne K (.ref C) (.ref (He.ga K "PostFault")) = some true ∧
    xs.all (fun y => decide (PySem.W.kitOne K (.ref C) (.ref (He.ga K (Str.ofString y))) = some (isSub cl y))) = true := by
  have z := List.all_eq_true.mp q cl (List.contains_iff_mem.mp m)
  obtain ⟨z1, z⟩ := He.ba z
  obtain ⟨z2, z⟩ := He.ba z
  obtain ⟨z3, z⟩ := He.ba z
  obtain ⟨z4, z5⟩ := He.ba z
  have e1 := He.glo_ok X G z1
  rw [e] at e1
  cases e1
  exact ⟨rfl, z2, of_decide_eq_true z3, of_decide_eq_true z4, z5⟩
theorem excsB_exc (X : K.In h) (G : h.Ns mainGlobals mg) (q : excsB K xs = true) (m : xs.contains cl = true) (e : mg (Str.ofString cl) = some (.ref C)) : ExcC K C := excCB_ok (excsB_at X G q m e).2.1
theorem excsB_ve (X : K.In h) (G : h.Ns mainGlobals mg) (q : excsB K xs = true) (m : xs.contains cl = true) (e : mg (Str.ofString cl) = some (.ref C)) : PySem.W.kitOne K (.ref C) (.type "ValueError") = some true := (excsB_at X G q m e).2.2.1
theorem excsB_exm (X : K.In h) (G : h.Ns mainGlobals mg) (q : excsB K xs = true) (m : xs.contains cl = true) (m2 : xs.contains "PostFault" = true) (e : mg (Str.ofString cl) = some (.ref C)) (e2 : mg "PostFault" = some (.ref D)) : PySem.W.exmOne K (.ref C) (.ref D) = some true := by
  obtain ⟨rfl, _⟩ := excsB_at X G q m2 e2
  exact (excsB_at X G q m e).2.2.2.1
theorem excsB_all (X : K.In h) (G : h.Ns mainGlobals mg) (q : excsB K xs = true) (m : xs.contains cl = true) (m2 : xs.contains y = true) (e : mg (Str.ofString cl) = some (.ref C)) (e2 : mg (Str.ofString y) = some (.ref D)) : PySem.W.kitOne K (.ref C) (.ref D) = some (isSub cl y) := by
  obtain ⟨rfl, _⟩ := excsB_at X G q m2 e2
  exact of_decide_eq_true (List.all_eq_true.mp (excsB_at X G q m e).2.2.2.2 y (List.contains_iff_mem.mp m2))
end
theorem exF_of (X : K.In h) (G : h.Ns mainGlobals mg) {x : Str} (c1 : (He.Fa.glo x).ok K = true) (c : (He.Fa.exc x).ok K = true) : ExF K mg x := by
  obtain ⟨a, b, d, e⟩ := He.exc_ok c
  exact ⟨He.ga K x, a, He.glo_ok X G c1, b, d, e⟩
/-- the name of a lambda's code in the def x -/
abbrev lamQ (x : Str) : Str := x ++ ".<locals>." ++ "<lambda>"
/-- the defs of tf have tables of their own -/
def apartB (K : PySem.W.Frag) (tf : List He.Defn) : Bool := tf.all fun p => tf.all fun q => decide (p = q) || !decide ((He.cT K p).2 = (He.cT K q).2)
def tabsT (K : PySem.W.Frag) (tf : List He.Defn) : List (Addr × Str) := tf.map fun p => ((He.cT K p).2, lamQ p.1)
theorem tx_of {base : Heap} {tf : List He.Defn} {x : Str} {pa : Arguments} {body : List Stmt} {sc : Scope} {a : Addr} {fd : FuncData} (ha : apartB K tf = true) (m : (x, none) ∈ tf) (hm : mg x = some (.ref (He.ga K x))) (TB : ∀ p ∈ tf.map (He.cT K), LamX.TabB base mg p.1 p.2) (Fn : FunD K x x pa body sc [] [] a fd) (hma : mg x = some (.ref a)) :
    ∃ cA P, fd.code = .ref cA ∧ LamX.TabB base mg cA P ∧ (P, lamQ x) ∈ tabsT K tf ∧ ∀ p ∈ tabsT K tf, p.1 = P → p.2 = lamQ x := by
  rw [hm] at hma
  cases hma
  obtain ⟨oc, od, dV, kV, doc, pm, an, cdv, ct, osl, rfl, lk, hcd, _⟩ := Fn.ex
  obtain ⟨c, rfl⟩ := He.codeIn_ref hcd
  have e : He.codeOf K (x, none) = c := He.codeOf_eq (p := (x, none)) lk rfl
  refine ⟨c, (He.cT K (x, none)).2, rfl, ?_, List.mem_map.mpr ⟨_, m, rfl⟩, fun p hp hq => ?_⟩
  · have := TB _ (List.mem_map.mpr ⟨_, m, rfl⟩)
    rw [show (He.cT K (x, none)).1 = c from e] at this
    exact this
  · obtain ⟨q, hq1, rfl⟩ := List.mem_map.mp hp
    have z := List.all_eq_true.mp (List.all_eq_true.mp ha _ hq1) _ m
    rcases Bool.or_eq_true_iff.mp z with z | z
    · rw [of_decide_eq_true z]
    · exact absurd hq (by simpa using z)
end

/-! ### the end -/
theorem repL_ints {B : Bs} {H : Hp} {O : Ad} : ∀ ns : List Int, RepL B H O (ns.map D.int) (ns.map V.int)
  | [] => rfl
  | n :: ns => ⟨_, _, rfl, rfl, repL_ints ns⟩
theorem rep_src {K : PySem.W.Frag} {mg : Str → Option Value} {H : Hp} {a : Addr} {ns : List Int} (h : SqL K H a (ns.map V.int)) : Rep ⟨K, mg⟩ H (fun _ => False) (.src (ns.map D.int)) (.ref a) := by
  refine ⟨a, ns.map V.int, rfl, ?_, repL_ints ns⟩
  rcases h with h | h
  · exact .inl ⟨h, fun z => z⟩
  · exact .inr h
theorem law_end {l : PySem.W.OpenLaw} {k : Nat} {q : Program} {loose : List Str} {XP : (Str → Option Value) → Heap → Prop} {d : DefRec} {fa : List He.Fa} {fn : List He.DefD} {tf : List He.Defn} {ex : PySem.W.Frag → Bool} {F : List D → R D} (hn : l.most = some 63) (hdf : d.params.defaults = []) (hdn : d.name = ("law" : Str)) (hr : Room k callerA)
    (ok : ∀ (w : World) (K : PySem.W.Frag) (mg : Str → Option Value) (h : Heap), K.In h → h.Ns mainGlobals mg → He.SaysX fa fn [] tf ex w h K → ∃ fd : FuncData, (∀ (s : Shared) (u : Value), BindsTo s fd ⟨[u], []⟩ [("script", u)]) ∧ mg ("law" : Str) = some (.ref (He.ga K "law")) ∧
      ∀ base : Heap, K.In base → base.Ns mainGlobals mg → (∀ p ∈ tf.map (He.cT K), LamX.TabB base mg p.1 p.2) → Fd l.prog w K mg base true k (He.ga K "law") fd ["script"] (spL K mg (tabsT K tf) 1 .sh F))
    (plain : ∀ ns : List Int, ns.length ≤ 63 → (F [.src (ns.map .int)]).sat (fun d => d = .bl true) fun _ _ => False) : PySem.W.WalkO q loose XP (He.hookX 4 fa fn [] tf ex).says l.row.toRowW d [] (fun f vs => PySem.call f vs) := by
  refine walk_end (x := "script") hn (by decide) hdf hr fun w mg fA h Y G hm => ?_
  obtain ⟨K, KX, c⟩ := Y
  obtain ⟨fd, hb, hm2, hF⟩ := ok w K mg h KX G c
  rw [hdn, hm2] at hm
  cases hm
  refine ⟨K, fd, tf.map (He.cT K), _, KX, fun p hp => ?_, fun p hp => ?_, fun p hp => ?_, hb, fun H a ns hl _ hH hS => ?_, hF⟩
  · obtain ⟨p, hq, rfl⟩ := List.mem_map.mp hp
    exact c.empty p hq
  · obtain ⟨p, hq, rfl⟩ := List.mem_map.mp hp
    exact c.out p hq
  · obtain ⟨p, hq, rfl⟩ := List.mem_map.mp hp
    exact PySem.W.codeHd_of_K KX (c.hd p hq)
  · refine ⟨fun _ => False, [.src (ns.map .int)], rfl, fun _ z => z.elim, fun p hp => ?_, ⟨_, _, rfl, rep_src hS, rfl⟩, R.sat_mono (plain ns hl) (fun d z v H' _ r => ?_) fun _ _ z => z.elim⟩
    · obtain ⟨p, hq, rfl⟩ := List.mem_map.mp hp
      exact LamX.TabS.nil (hH _ (List.mem_map.mpr ⟨p, hq, rfl⟩))
    · subst z
      exact r
end Ev


set_option Elab.async false
set_option linter.all false
/-! Ev, part Z: for the plain laws. -/
namespace Ev
/-! ### steps that the kernel takes one by one -/
section
variable {α β : Type}
theorem z_bok (a : α) (f : α → R β) : (R.ok a).bind f = f a := (rfl)
theorem z_bexc (c : String) (fs : List (String × D)) (f : α → R β) : (R.exc c fs : R α).bind f = .exc c fs := (rfl)
theorem z_map (a : α) (f : α → β) : (R.ok a).map f = .ok (f a) := (rfl)
theorem z_mapexc (c : String) (fs : List (String × D)) (f : α → β) : (R.exc c fs : R α).map f = .exc c fs := (rfl)
theorem z_tkt (xs : List D) (k : List D → R α) : tk true (.lst xs) k = k xs := (rfl)
theorem z_tkf (d : D) (k : D → R α) : tk false d k = k d := (rfl)
theorem z_own (xs : List D) : ownL (.lst xs) = .ok xs := (rfl)
theorem z_l1 (f : D → R D) (a : D) : l1 f (.ok a) = f a := (rfl)
theorem z_l1e (f : D → R D) (c : String) (fs : List (String × D)) : l1 f (.exc c fs) = .exc c fs := (rfl)
theorem z_l2 (f : D → D → R D) (a b : D) : l2 f (.ok a) (.ok b) = f a b := (rfl)
theorem z_l2e (f : D → D → R D) (c : String) (fs : List (String × D)) (m : R D) : l2 f (.exc c fs) m = .exc c fs := (rfl)
theorem z_l3 (f : D → D → D → R D) (a b c : D) : l3 f (.ok a) (.ok b) (.ok c) = f a b c := (rfl)
theorem z_l4 (f : D → D → D → D → R D) (a b c d : D) : l4 f (.ok a) (.ok b) (.ok c) (.ok d) = f a b c d := (rfl)
theorem z_l5 (f : D → D → D → D → D → R D) (a b c d e : D) : l5 f (.ok a) (.ok b) (.ok c) (.ok d) (.ok e) = f a b c d e := (rfl)
theorem z_l6 (f : D → D → D → D → D → D → R D) (a b c d e g : D) : l6 f (.ok a) (.ok b) (.ok c) (.ok d) (.ok e) (.ok g) = f a b c d e g := (rfl)
theorem z_a0 : args [] = .ok [] := (rfl)
theorem z_ac (d : D) (ms : List (R D)) : args (.ok d :: ms) = (args ms).bind fun ds => .ok (d :: ds) := (rfl)
theorem z_acG (m : R D) (ms : List (R D)) : args (m :: ms) = m.bind fun d => (args ms).bind fun ds => .ok (d :: ds) := (rfl)
theorem z_ace (c : String) (fs : List (String × D)) (ms : List (R D)) : args (.exc c fs :: ms) = .exc c fs := (rfl)
theorem z_lst (ms : List (R D)) : lstR ms = (args ms).map .lst := (rfl)
theorem z_tup (ms : List (R D)) : tupR ms = (args ms).map .tup := (rfl)
theorem z_add (a b : Int) : addD (.int a) (.int b) = .ok (.int (a + b)) := (rfl)
theorem z_sub (a b : Int) : subD (.int a) (.int b) = .ok (.int (a - b)) := (rfl)
theorem z_neg (a : Int) : negD (.int a) = .ok (.int (-a)) := (rfl)
theorem z_abs (a : Int) : absD (.int a) = .ok (.int (if a < 0 then -a else a)) := (rfl)
theorem z_int (a : Int) : intD (.int a) = .ok (.int a) := (rfl)
theorem z_min (a b : Int) : min2D (.int a) (.int b) = .ok (.int (if b < a then b else a)) := (rfl)
theorem z_max (a b : Int) : max2D (.int a) (.int b) = .ok (.int (if b > a then b else a)) := (rfl)
theorem z_len (xs : List D) : lenD (.lst xs) = .ok (.int xs.length) := (rfl)
theorem z_lenT (xs : List D) : lenD (.tup xs) = .ok (.int xs.length) := (rfl)
theorem z_tst (d : D) : tst (.ok d) = truthy d := (rfl)
theorem z_tste (c : String) (fs : List (String × D)) : tst (.exc c fs) = .exc c fs := (rfl)
theorem z_tr (b : Bool) : truthy (.bl b) = .ok b := (rfl)
theorem z_ifT (a b : R α) : ifR (.ok true) a b = a := (rfl)
theorem z_ifF (a b : R α) : ifR (.ok false) a b = b := (rfl)
theorem z_ife (c : String) (fs : List (String × D)) (a b : R α) : ifR (.exc c fs) a b = .exc c fs := (rfl)
theorem z_anT (b : R Bool) : andB (.ok true) b = b := (rfl)
theorem z_anF (b : R Bool) : andB (.ok false) b = .ok false := (rfl)
theorem z_orT (b : R Bool) : orB (.ok true) b = .ok true := (rfl)
theorem z_orF (b : R Bool) : orB (.ok false) b = b := (rfl)
theorem z_no (b : Bool) : notB (.ok b) = .ok (!b) := (rfl)
theorem z_avT (b : R D) : andV (.ok (.bl true)) b = b := (rfl)
theorem z_avF (b : R D) : andV (.ok (.bl false)) b = .ok (.bl false) := (rfl)
theorem z_ovT (b : R D) : orV (.ok (.bl true)) b = .ok (.bl true) := (rfl)
theorem z_ovF (b : R D) : orV (.ok (.bl false)) b = b := (rfl)
theorem z_nv (b : Bool) : notV (.ok (.bl b)) = .ok (.bl (!b)) := (rfl)
theorem z_lt (a b : Int) : ltD (.int a) (.int b) = .ok (.bl (decide (a < b))) := (rfl)
theorem z_le (a b : Int) : leD (.int a) (.int b) = .ok (.bl (decide (a ≤ b))) := (rfl)
theorem z_gt (a b : Int) : gtD (.int a) (.int b) = .ok (.bl (decide (b < a))) := (rfl)
theorem z_ge (a b : Int) : geD (.int a) (.int b) = .ok (.bl (decide (b ≤ a))) := (rfl)
theorem z_ch (x y z : Int) : chD leD leD (.ok (.int x)) (.ok (.int y)) (.ok (.int z)) = .ok (.bl (decide (x ≤ y) && decide (y ≤ z))) := by
  have : chD leD leD (.ok (.int x)) (.ok (.int y)) (.ok (.int z)) = (R.ok (D.bl (decide (x ≤ y)))).bind fun q => match q with
    | .bl true => (R.ok (D.int z)).bind fun w => leD (.int y) w
    | .bl false => .ok (.bl false)
    | _ => .stuck := (rfl)
  rw [this]
  cases decide (x ≤ y) <;> rfl
theorem z_tupT (xs : List D) : tupleD (.tup xs) = .ok (.tup xs) := (rfl)
theorem z_tupL (xs : List D) : tupleD (.lst xs) = .ok (.tup xs) := (rfl)
theorem z_lsL (xs : List D) : listD (.lst xs) = .ok (.lst xs) := (rfl)
theorem z_it (xs : List D) : itR (.ok (.lst xs)) = .ok xs := (rfl)
theorem z_itT (xs : List D) : itR (.ok (.tup xs)) = .ok xs := (rfl)
theorem z_thG {S : Type} (s : S) (r : D → R α) (k : S → R α) : thenC (.ok (.go s)) r k = k s := (rfl)
theorem z_thR {S : Type} (d : D) (r : D → R α) (k : S → R α) : thenC (.ok (.ret d : Ct S)) r k = r d := (rfl)
theorem z_u2 (a b : D) (k : D → D → R α) : unp2 (.tup [a, b]) k = k a b := (rfl)
theorem z_u3 (a b c : D) (k : D → D → D → R α) : unp3 (.tup [a, b, c]) k = k a b c := (rfl)
end
/-! ### results -/
/-- each end: a value with P, an exception with E (a structure: never unfolded) -/
structure Sat {α : Type} (m : R α) (P : α → Prop) (E : String → List (String × D) → Prop) : Prop where
  s : m.sat P E
section
variable {α β S : Type} {P : α → Prop} {E : String → List (String × D) → Prop}
theorem sat_ok {a : α} (h : P a) : Sat (.ok a) P E := ⟨h⟩
theorem sat_exc {c : String} {fs : List (String × D)} (h : E c fs) : Sat (.exc c fs : R α) P E := ⟨h⟩
theorem sat_of {m : R α} {a : α} (e : m = .ok a) (h : P a) : Sat m P E := by rw [e]; exact ⟨h⟩
theorem sat_mono {P' : α → Prop} {m : R α} (h : Sat m P E) (i : ∀ a, P a → P' a) : Sat m P' E := ⟨R.sat_mono h.s i fun _ _ z => z⟩
theorem sat_bnd {m : R α} {f : α → R β} {Q : β → Prop} (h : Sat m (fun a => Sat (f a) Q E) E) : Sat (m.bind f) Q E := ⟨R.sat_bind.mpr (R.sat_mono h.s (fun _ z => z.s) fun _ _ z => z)⟩
theorem sat_bok {m : R α} {a : α} {f : α → R β} {Q : β → Prop} (e : m = .ok a) (h : Sat (f a) Q E) : Sat (m.bind f) Q E := by rw [e]; exact h
theorem sat_b {m : R α} {f : α → R β} {Q : β → Prop} (e : Sat m P E) (h : ∀ a, P a → Sat (f a) Q E) : Sat (m.bind f) Q E := sat_bnd (sat_mono e h)
theorem sat_map {m : R α} {f : α → β} {Q : β → Prop} (h : Sat m (fun a => Q (f a)) E) : Sat (m.map f) Q E := sat_bnd (sat_mono h fun _ z => sat_ok z)
theorem ifR_f {c : R Bool} {a b : R α} (e : c = .ok false) : ifR c a b = b := by rw [e]; rfl
theorem ifR_t {c : R Bool} {a b : R α} (e : c = .ok true) : ifR c a b = a := by rw [e]; rfl
theorem sat_ifR {c : R Bool} {a b : R α} (h : Sat c (fun k => if k = true then Sat a P E else Sat b P E) E) : Sat (ifR c a b) P E := by
  refine sat_bnd (sat_mono h fun k z => ?_)
  cases k <;> exact z
theorem sat_ifF {c : R Bool} {a b : R α} (e : c = .ok false) (h : Sat b P E) : Sat (ifR c a b) P E := by rw [e]; exact h
theorem sat_ifT {c : R Bool} {a b : R α} (e : c = .ok true) (h : Sat a P E) : Sat (ifR c a b) P E := by rw [e]; exact h
/-- a test that is known to be false whatever is drawn -/
theorem sat_ifSF {c : R Bool} {a b : R α} (e : Sat c (fun k => k = false) E) (h : Sat b P E) : Sat (ifR c a b) P E := sat_ifR (sat_mono e fun k z => by subst z; exact h)
theorem sat_tst {m : R D} {b : Bool} (h : Sat m (fun d => d = .bl b) E) : Sat (tst m) (fun k => k = b) E := sat_bnd (sat_mono h fun d z => by subst z; exact ⟨rfl⟩)
theorem sat_not {m : R Bool} {b : Bool} (h : Sat m (fun d => d = b) E) : Sat (notB m) (fun k => k = !b) E := sat_map (sat_mono h fun d z => by rw [z])
theorem sat_orFF {a b : R Bool} (h1 : Sat a (fun k => k = false) E) (h2 : Sat b (fun k => k = false) E) : Sat (orB a b) (fun k => k = false) E := sat_ifSF h1 h2
end
section
variable {E : String → List (String × D) → Prop}
/-- a digit -/
theorem draw_sat {n : Int} {P : D → Prop} (h0 : 0 < n) (h1 : n < 1073741824) (h : ∀ i : Int, 0 ≤ i → i < n → P (.int i)) : Sat (drawD (.int n)) P E := by
  have e : drawD (.int n) = .draw n.toNat fun i => .ok (.int i) := by
    show (if 0 < n ∧ n < 1073741824 then _ else _) = _
    exact if_pos ⟨h0, h1⟩
  rw [e]
  exact ⟨fun i hi => h i (by omega) (by omega)⟩
theorem sat_seal {α : Type} {d : D} {m : R α} {P : α → Prop} (hb : handB d = true) (h : Sat m P E) : Sat (sealR d m) P E := by unfold sealR; rw [if_pos hb]; exact h
/-! ### tests -/
theorem tst_bl (b : Bool) : tst (.ok (.bl b)) = .ok b := rfl
theorem tst_of {m : R D} {b : Bool} (e : m = .ok (.bl b)) : tst m = .ok b := by rw [e]; rfl
/-- both sides tell the same -/
theorem repr_ne {m1 m2 : R D} {d : D} (e1 : m1 = .ok d) (e2 : m2 = .ok d) (t : tellable d) : tst (l2 neD (l1 reprD m1) (l1 reprD m2)) = .ok false := by
  rw [e1, e2, l1_ok, reprD_of t, l2_ok, neD_str, tst_bl]; simp
theorem repr_eq {m1 m2 : R D} {d : D} (e1 : m1 = .ok d) (e2 : m2 = .ok d) (t : tellable d) : l2 eqD (l1 reprD m1) (l1 reprD m2) = .ok (.bl true) := by
  rw [e1, e2, l1_ok, reprD_of t, l2_ok, eqD_str]; simp
/-- what can be told: small lists of small numbers -/
theorem tell_ints {xs : List Int} (hl : xs.length ≤ 50000) (h : ∀ x ∈ xs, x.natAbs < 10 ^ 40) : tellable (.lst (xs.map .int)) := by
  refine ⟨?_, ?_⟩
  · rw [flat_lst]
    refine flatL_all fun x hx => ?_
    obtain ⟨i, _, rfl⟩ := List.mem_map.mp hx
    exact flat_int _ _
  · have := wtL_le (M := 140) (xs := xs.map D.int) fun x hx => by
      obtain ⟨i, hi, rfl⟩ := List.mem_map.mp hx
      rw [wt, if_pos (h i hi)]; exact Nat.le_refl _
    rw [List.length_map] at this
    rw [wt]
    omega
theorem tell_tints {xs : List Int} (hl : xs.length ≤ 50000) (h : ∀ x ∈ xs, x.natAbs < 10 ^ 40) : tellable (.tup (xs.map .int)) := by
  refine ⟨?_, ?_⟩
  · rw [flat_tup]
    refine flatL_all fun x hx => ?_
    obtain ⟨i, _, rfl⟩ := List.mem_map.mp hx
    exact flat_int _ _
  · have := wtL_le (M := 140) (xs := xs.map D.int) fun x hx => by
      obtain ⟨i, hi, rfl⟩ := List.mem_map.mp hx
      rw [wt, if_pos (h i hi)]; exact Nat.le_refl _
    rw [List.length_map] at this
    rw [wt]
    omega
/-! ### ranges, loops -/
theorem rngD_ok {a b : Int} (h1 : -(2 ^ 62) ≤ a) (h2 : a < 2 ^ 62) (h3 : -(2 ^ 62) ≤ b) (h4 : b < 2 ^ 62) (h5 : (b - a).toNat ≤ SZ) : rngD (.int a) (.int b) = .ok (rngL a (b - a).toNat) := by
  unfold rngD
  exact if_pos ⟨⟨h1, h2, h3, h4⟩, h5⟩
theorem rng1_ok {b : Int} (h : b ≤ 1000000) (h0 : -1000000 ≤ b) : rng1 (.ok (.int b)) = .ok (rngL 0 b.toNat) := by
  have := rngD_ok (a := 0) (b := b) (by omega) (by omega) (by omega) (by omega) (sz_ok (by omega))
  rw [Int.sub_zero] at this
  exact this
theorem rng2_ok {a b : Int} (h : b ≤ 1000000) (h0 : -1000000 ≤ b) (h2 : a ≤ 1000000) (h3 : 0 ≤ a) : rng2 (.ok (.int a)) (.ok (.int b)) = .ok (rngL a (b - a).toNat) :=
  rngD_ok (by omega) (by omega) (by omega) (by omega) (sz_ok (by omega))
theorem rngL_map (a : Int) (n : Nat) : rngL a n = ((List.range n).map fun i => a + (i : Nat)).map D.int := by rw [List.map_map]; rfl
theorem forR_app {S : Type} {f : S → D → R S} : ∀ {xs ys : List D} {s : S}, forR f s (xs ++ ys) = (forR f s xs).bind fun s => forR f s ys
  | [], _, _ => rfl
  | x :: xs, ys, s => by
    rw [List.cons_append, forR, forR, R.bind_assoc]
    congr 1; funext s
    exact forR_app
/-- a for over a range, its state known at each turn -/
theorem forR_rng {S : Type} {f : S → D → R S} {a : Int} {n : Nat} (g : Nat → S) (h : ∀ i, i < n → f (g i) (.int (a + (i : Nat))) = .ok (g (i + 1))) : forR f (g 0) (rngL a n) = .ok (g n) := by
  induction n with
  | zero => rfl
  | succ n ih =>
    have : rngL a (n + 1) = rngL a n ++ [.int (a + (n : Nat))] := by simp [rngL, List.range_succ]
    rw [this, forR_app, ih fun i hi => h i (by omega), R.bind_ok]
    show ((f (g n) (.int (a + (n : Nat)))).bind fun s => forR f s []) = _
    rw [h n (by omega)]; rfl
theorem forR_sat {S : Type} {f : S → D → R S} (I : S → Prop) : ∀ {xs : List D} {s : S}, I s → (∀ s x, x ∈ xs → I s → Sat (f s x) I E) → Sat (forR f s xs) I E
  | [], _, h0, _ => sat_ok h0
  | x :: xs, s, h0, h => sat_b (h s x List.mem_cons_self h0) fun s' hs => forR_sat I hs fun s y hy => h s y (List.mem_cons_of_mem _ hy)
/-- a for that goes on to its end -/
theorem forC_sat {S : Type} {f : S → D → R (Ct S)} (I : S → Prop) : ∀ {xs : List D} {s : S}, I s → (∀ s x, x ∈ xs → I s → Sat (f s x) (fun c => ∃ s', c = .go s' ∧ I s') E) → Sat (forC f s xs) (fun c => ∃ s', c = .go s' ∧ I s') E
  | [], s, h0, _ => sat_ok ⟨s, rfl, h0⟩
  | x :: xs, s, h0, h => sat_b (h s x List.mem_cons_self h0) fun c ⟨s', e, hs⟩ => by
    subst e
    exact forC_sat I hs fun s y hy => h s y (List.mem_cons_of_mem _ hy)
theorem thenC_go {S α : Type} {m : R (Ct S)} {r : D → R α} {k : S → R α} {P : α → Prop} (I : S → Prop) (h : Sat m (fun c => ∃ s, c = .go s ∧ I s) E) (hk : ∀ s, I s → Sat (k s) P E) : Sat (thenC m r k) P E :=
  sat_b h fun c ⟨s, e, hs⟩ => by
    subst e
    exact hk s hs
/-- a while, its state known at each turn -/
theorem whR_ok {S : Type} {c : S → R Bool} {f : S → R S} {n fuel : Nat} (g : Nat → S) (hc : ∀ i, i < n → c (g i) = .ok true) (hf : ∀ i, i < n → f (g i) = .ok (g (i + 1))) (he : c (g n) = .ok false) (hn : n < fuel) : whR c f fuel (g 0) = .ok (g n) := by
  have key : ∀ (k i fuel : Nat), i + k = n → k < fuel → whR c f fuel (g i) = .ok (g n) := by
    intro k
    induction k with
    | zero =>
      intro i fuel e hk
      obtain ⟨m, rfl⟩ := Nat.exists_eq_succ_of_ne_zero (Nat.ne_of_gt hk)
      have e : i = n := by omega
      subst e
      rw [whR, he]; rfl
    | succ k ih =>
      intro i fuel e hk
      obtain ⟨m, rfl⟩ := Nat.exists_eq_succ_of_ne_zero (show fuel ≠ 0 by omega)
      rw [whR, hc i (by omega), ifR_true, hf i (by omega), R.bind_ok]
      exact ih (i + 1) m (by omega) (by omega)
  exact key n 0 fuel (by omega) hn
/-! ### comprehensions -/
theorem lcR_map {α : Type} {xs : List α} {h g : α → D} {f : D → R D} (e : ∀ x ∈ xs, f (h x) = .ok (g x)) : lcR (.ok (xs.map h)) f = .ok (.lst (xs.map g)) := by
  have : mapR (fun x => nx (f x)) (xs.map h) = .ok (xs.map g) := by
    induction xs with
    | nil => rfl
    | cons x xs ih => rw [List.map_cons, mapR, e x List.mem_cons_self, nx_ok, R.bind_ok, ih fun y hy => e y (List.mem_cons_of_mem _ hy)]; rfl
  unfold lcR
  rw [R.bind_ok, this]; rfl
theorem lfR_map {α : Type} {xs : List α} {h g : α → D} {p : α → Bool} {f : D → R (Option D)} (e : ∀ x ∈ xs, f (h x) = .ok (if p x = true then some (g x) else none)) : lfR (.ok (xs.map h)) f = .ok (.lst ((xs.filter p).map g)) := by
  have : filR (fun x => nx (f x)) (xs.map h) = .ok ((xs.filter p).map g) := by
    induction xs with
    | nil => rfl
    | cons x xs ih =>
      rw [List.map_cons, filR, e x List.mem_cons_self, nx_ok, R.bind_ok, ih fun y hy => e y (List.mem_cons_of_mem _ hy), List.filter_cons]
      cases p x <;> rfl
  unfold lfR
  rw [R.bind_ok, this]; rfl
theorem keep_ok {b : Bool} {d : D} : keep (.ok b) (.ok d) = .ok (if b = true then some d else none) := by cases b <;> rfl
theorem keep_of {c : R Bool} {b : Bool} {e : R D} {d : D} (h1 : c = .ok b) (h2 : e = .ok d) : keep c e = .ok (if b = true then some d else none) := by rw [h1, h2, keep_ok]
/-! ### lists -/
theorem appL_ok {xs : List D} {d : D} (h : xs.length < 1000000) : appL xs d = .ok (xs ++ [d]) := if_pos (Nat.lt_of_lt_of_le h (sz_ok (Nat.le_refl _)))
theorem idx_lst {xs : List D} {i : Nat} {d : D} (h : xs[i]? = some d) : idxD (.lst xs) (.int (i : Int)) = .ok d := by
  show ofO (getAt xs (i : Int)) = _
  rw [getAt_nat h]; rfl
theorem idx_tup {xs : List D} {i : Nat} {d : D} (h : xs[i]? = some d) : idxD (.tup xs) (.int (i : Int)) = .ok d := by
  show ofO (getAt xs (i : Int)) = _
  rw [getAt_nat h]; rfl
theorem idx_int {xs : List D} {i : Int} {d : D} (h0 : 0 ≤ i) (h : xs[i.toNat]? = some d) : idxD (.lst xs) (.int i) = .ok d := by
  have := idx_lst h
  rwa [Int.toNat_of_nonneg h0] at this
theorem idx_last {xs : List D} {d : D} : idxD (.lst (xs ++ [d])) (.int (-1)) = .ok d := by
  show ofO (getAt (xs ++ [d]) (-1)) = _
  rw [getAt_last]; rfl
theorem cut_to {α : Type} (xs : List α) (n : Nat) : cut xs none (some (n : Int)) = xs.take n := by
  have e1 : clip xs.length 0 none = 0 := rfl
  have e2 : clip xs.length xs.length (some (n : Int)) = min n xs.length := by
    unfold clip
    show (if ((n : Int) < 0) then _ else _) = _
    rw [if_neg (by omega)]; simp
  unfold cut
  rw [e1, e2]
  simp [List.take_eq_take_iff]
theorem mul_ok {a b : Int} (h : a.natAbs < 2 ^ 64) : mulD (.int a) (.int b) = .ok (.int (a * b)) := mulD_int (by unfold mulOk; rw [decide_eq_true h]; rfl)
theorem mul_ok' {a b : Int} (h : b.natAbs < 2 ^ 64) : mulD (.int a) (.int b) = .ok (.int (a * b)) := mulD_int (by unfold mulOk; rw [decide_eq_true h, Bool.or_true])
end
/-! ### more -/
section
variable {E : String → List (String × D) → Prop}
theorem z_uT {A γ : Type} {n : Nat} {us : (γ : Type) → List D → (A → R γ) → R γ} {xs : List D} {f : A → R γ} (h : xs.length = n) : uT n us γ (.tup xs) f = us γ xs f := if_pos h
theorem z_uC {A B γ : Type} {u : (γ : Type) → D → (A → R γ) → R γ} {us : (γ : Type) → List D → (B → R γ) → R γ} {x : D} {r : List D} {f : A × B → R γ} : uCons u us γ (x :: r) f = u γ x fun a => us γ r fun b => f (a, b) := (rfl)
theorem z_uN {γ : Type} {f : Unit → R γ} : uNil γ [] f = f () := (rfl)
theorem z_enum (xs : List D) : enumD (.ok (.tup xs)) = .ok (enumL xs) := (rfl)
theorem z_enumL (xs : List D) : enumD (.ok (.lst xs)) = .ok (enumL xs) := (rfl)
theorem enumL_map {α : Type} (xs : List α) (h : α → D) : enumL (xs.map h) = xs.zipIdx.map fun p => .tup [.int (p.2 : Nat), h p.1] := by
  unfold enumL
  rw [List.zipIdx_map, List.map_map]; rfl
theorem ch_ok {x y z : Int} : chD leD leD (.ok (.int x)) (.ok (.int y)) (.ok (.int z)) = .ok (.bl (decide (x ≤ y) && decide (y ≤ z))) := z_ch x y z
/-- a for that is left at the first of its kind -/
theorem forC_first {α : Type} {xs : List α} {h : α → D} {q : α → Bool} {r : α → D} {f : Unit → D → R (Ct Unit)} (e : ∀ x ∈ xs, f () (h x) = .ok (if q x = true then .ret (r x) else .go ())) : forC f () (xs.map h) = .ok (match xs.find? q with
    | some x => .ret (r x)
    | none => .go ()) := by
  induction xs with
  | nil => rfl
  | cons x xs ih =>
    rw [List.map_cons, forC, e x List.mem_cons_self, z_bok, List.find?_cons]
    cases q x with
    | true => rfl
    | false => exact ih fun y hy => e y (List.mem_cons_of_mem _ hy)
theorem filter_head {α : Type} (xs : List α) (q : α → Bool) : (xs.filter q)[0]? = xs.find? q := by
  rw [← List.head?_eq_getElem?, List.head?_filter]
/-- the first, None -/
def hdN : List D → D
  | [] => .non
  | x :: _ => x
/-- x[0] if len(x) > 0 else None -/
theorem head_non {xs : List D} : ifR (tst (l2 gtD (l1 lenD (.ok (.lst xs))) (.ok (.int 0)))) (l2 idxD (.ok (.lst xs)) (.ok (.int 0))) (.ok .non) = .ok (hdN xs) := by
  cases xs with
  | nil => rfl
  | cons x xs =>
    rw [z_l1, z_len, z_l2, z_gt, z_tst, z_tr, decide_eq_true (by simp only [List.length_cons]; omega), z_ifT, z_l2]
    exact idx_lst (i := 0) rfl
theorem l2R_map {α β : Type} {xs : List α} {h : α → D} {ys : α → List β} {h2 : α → β → D} {m2 : D → R (List D)} {F : D → D → R D} {g : α → β → D} (e1 : ∀ x ∈ xs, m2 (h x) = .ok ((ys x).map (h2 x))) (e2 : ∀ x ∈ xs, ∀ y ∈ ys x, F (h x) (h2 x y) = .ok (g x y)) (hl : (xs.flatMap fun x => (ys x).map (g x)).length < 1000000) :
    l2R (.ok (xs.map h)) U1 (fun _ => .ok true) m2 U1 (fun _ _ => .ok true) F = .ok (.lst (xs.flatMap fun x => (ys x).map (g x))) := by
  have inner : ∀ (x : α) (zs : List β) (acc : List D), (∀ y ∈ zs, F (h x) (h2 x y) = .ok (g x y)) → acc.length + zs.length < 1000000 →
      forR (fun acc y => (F (h x) y).bind fun d => appL acc d) acc (zs.map (h2 x)) = .ok (acc ++ zs.map (g x)) := by
    intro x zs
    induction zs with
    | nil => intro acc _ _; rw [List.map_nil, List.map_nil, List.append_nil]; rfl
    | cons y zs ih =>
      intro acc he hl
      rw [List.length_cons] at hl
      rw [List.map_cons, forR, he y List.mem_cons_self, z_bok, appL_ok (by omega), z_bok, ih _ (fun z hz => he z (List.mem_cons_of_mem _ hz)) (by rw [List.length_append, List.length_singleton]; omega), List.map_cons, List.append_assoc]; rfl
  have outer : ∀ (zs : List α) (acc : List D), (∀ x ∈ zs, m2 (h x) = .ok ((ys x).map (h2 x))) → (∀ x ∈ zs, ∀ y ∈ ys x, F (h x) (h2 x y) = .ok (g x y)) → acc.length + (zs.flatMap fun x => (ys x).map (g x)).length < 1000000 →
      forR (fun acc x => nx ((m2 x).bind fun ys => forR (fun acc y => (F x y).bind fun d => appL acc d) acc ys)) acc (zs.map h) = .ok (acc ++ zs.flatMap fun x => (ys x).map (g x)) := by
    intro zs
    induction zs with
    | nil => intro acc _ _ _; rw [List.map_nil, List.flatMap_nil, List.append_nil]; rfl
    | cons x zs ih =>
      intro acc he1 he2 hl
      rw [List.flatMap_cons, List.length_append, List.length_map] at hl
      rw [List.map_cons, forR, he1 x List.mem_cons_self, z_bok, inner x (ys x) acc (he2 x List.mem_cons_self) (by omega), nx_ok, z_bok]
      have := ih (acc ++ (ys x).map (g x)) (fun z hz => he1 z (List.mem_cons_of_mem _ hz)) (fun z hz => he2 z (List.mem_cons_of_mem _ hz)) (by rw [List.length_append, List.length_map]; omega)
      rw [this, List.flatMap_cons, List.append_assoc]
  unfold l2R
  simp only [U1, z_ifT]
  rw [z_bok, outer xs [] e1 e2 (by simpa using hl), List.nil_append]; rfl
end
section
variable {E : String → List (String × D) → Prop}
theorem args_nil_sat {Q : List D → Prop} (h : Q []) : Sat (args []) Q E := ⟨h⟩
theorem args_cons_sat {m : R D} {ms : List (R D)} {P : D → Prop} {Q : List D → Prop} (h : Sat m P E) (h2 : ∀ d, P d → Sat (args ms) (fun ds => Q (d :: ds)) E) : Sat (args (m :: ms)) Q E := by
  rw [z_acG]
  exact sat_b h fun d hd => sat_b (h2 d hd) fun ds q => sat_ok q
theorem tup_sat {ms : List (R D)} {P : D → Prop} (h : Sat (args ms) (fun ds => P (.tup ds)) E) : Sat (tupR ms) P E := sat_map h
theorem lst_sat {ms : List (R D)} {P : D → Prop} (h : Sat (args ms) (fun ds => P (.lst ds)) E) : Sat (lstR ms) P E := sat_map h
theorem forR_satI {S : Type} {f : S → D → R S} (I : Nat → S → Prop) (N : Nat) : ∀ {xs : List D} {k : Nat} {s : S}, k + xs.length ≤ N → I k s → (∀ i s x, i < N → x ∈ xs → I i s → Sat (f s x) (I (i + 1)) E) → Sat (forR f s xs) (I (k + xs.length)) E
  | [], k, _, _, h0, _ => sat_ok h0
  | x :: xs, k, s, hN, h0, h => by
    rw [List.length_cons] at hN ⊢
    refine sat_b (h k s x (by omega) List.mem_cons_self h0) fun s' hs => ?_
    have := forR_satI I N (xs := xs) (k := k + 1) (by omega) hs fun i s y hi hy => h i s y hi (List.mem_cons_of_mem _ hy)
    rw [show k + (xs.length + 1) = k + 1 + xs.length from by omega]
    exact this
theorem ne_same {m1 m2 : R D} {d : D} (e1 : m1 = .ok d) (e2 : m2 = .ok d) (f : flat 64 d = true) : tst (l2 neD m1 m2) = .ok false := by
  rw [e1, e2, z_l2, neD_of f f, eqv_refl f]; rfl
theorem flat_ints (xs : List Int) : flat 64 (.tup (xs.map .int)) = true := by
  rw [flat_tup]
  refine flatL_all fun x hx => ?_
  obtain ⟨i, _, rfl⟩ := List.mem_map.mp hx
  exact flat_int _ _
theorem fmod_wrap {x m : Int} (h0 : 0 ≤ x) (hm : 0 < m) (h : x < 2 * m) : x.fmod m = if x < m then x else x - m := by
  rw [Int.fmod_eq_emod_of_nonneg x (by omega)]
  split
  · exact Int.emod_eq_of_lt h0 (by assumption)
  · have e : x % m = (x - m) % m := by rw [Int.sub_emod_right]
    rw [e]
    exact Int.emod_eq_of_lt (by omega) (by omega)
theorem nxok {α : Type} (a : α) : nx (.ok a) = .ok a := (rfl)
theorem forR_n {S : Type} (f : S → D → R S) (s : S) : forR f s [] = .ok s := (rfl)
theorem forR_c {S : Type} (f : S → D → R S) (s : S) (x : D) (xs : List D) : forR f s (x :: xs) = (f s x).bind fun s => forR f s xs := (rfl)
/-- one of a list -/
theorem any_of {A : D → R D} (hA : ∀ x, A x = l2 idxD (.ok x) (l1 drawD (l1 lenD (.ok x)))) {xs : List D} (h0 : 0 < xs.length) (h1 : xs.length < 1000000) : Sat (A (.lst xs)) (fun d => d ∈ xs) E := by
  rw [hA]
  unfold l2
  rw [z_bok, z_l1, z_len, z_l1]
  refine sat_b (P := fun d => ∃ i : Nat, d = .int (i : Int) ∧ i < xs.length) (draw_sat (by omega) (by omega) fun i a b => ⟨i.toNat, by rw [Int.toNat_of_nonneg a], by omega⟩) fun d ⟨i, e, hi⟩ => ?_
  subst e
  exact sat_of (idx_lst (List.getElem?_eq_getElem hi)) (List.getElem_mem hi)
theorem any_sat {A : D → R D} (hA : ∀ x, A x = l2 idxD (.ok x) (l1 drawD (l1 lenD (.ok x)))) {ms : List (R D)} {P : D → Prop} (h0 : 0 < ms.length) (h1 : ms.length < 1000000) (h : ∀ m ∈ ms, Sat m P E) : Sat (l1 A (lstR ms)) P E := by
  have key : ∀ ms : List (R D), (∀ m ∈ ms, Sat m P E) → Sat (args ms) (fun ds => ds.length = ms.length ∧ ∀ d ∈ ds, P d) E := by
    intro ms
    induction ms with
    | nil => intro _; exact args_nil_sat ⟨rfl, fun d hd => by cases hd⟩
    | cons m ms ih =>
      intro h
      refine args_cons_sat (h m List.mem_cons_self) fun d hd => sat_mono (ih fun m hm => h m (List.mem_cons_of_mem _ hm)) fun ds ⟨hl, hds⟩ => ⟨by rw [List.length_cons, List.length_cons, hl], fun x hx => ?_⟩
      rcases List.mem_cons.mp hx with rfl | hx
      · exact hd
      · exact hds x hx
  unfold l1
  refine sat_b (lst_sat (P := fun d => ∃ xs, d = .lst xs ∧ xs.length = ms.length ∧ ∀ y ∈ xs, P y) (sat_mono (key ms h) fun ds q => ⟨ds, rfl, q⟩)) fun d ⟨xs, e, hl, hp⟩ => ?_
  subst e
  exact sat_mono (any_of hA (by omega) (by omega)) hp
end
/-! ### again more -/
section
variable {E : String → List (String × D) → Prop}
theorem all_true {α : Type} {xs : List α} {h : α → D} {F : D → R D} (e : ∀ x ∈ xs, F (h x) = .ok (.bl true)) : l1 allD (lcR (.ok (xs.map h)) F) = .ok (.bl true) := by
  rw [lcR_map (g := fun _ => .bl true) e, z_l1]
  have := allD_lst (xs.map fun _ => true)
  rw [List.map_map] at this
  rw [show (xs.map fun _ => D.bl true) = xs.map (D.bl ∘ fun _ => true) from rfl, this]
  simp
theorem forR_fun {S : Type} {f : S → D → R S} {n : Nat} (h : Nat → D) (g : Nat → S) (e : ∀ i, i < n → f (g i) (h i) = .ok (g (i + 1))) : forR f (g 0) ((List.range n).map h) = .ok (g n) := by
  induction n with
  | zero => rfl
  | succ n ih =>
    rw [List.range_succ, List.map_append, forR_app, ih fun i hi => e i (by omega), z_bok]
    show ((f (g n) (h n)).bind fun s => forR f s []) = _
    rw [e n (by omega)]; rfl
theorem lfR_b (it : R (List D)) (f : D → R (Option D)) : lfR it f = it.bind fun xs => lfR (.ok xs) f := (rfl)
theorem nx_sat' {α : Type} {m : R α} {P : α → Prop} (h : Sat m P fun _ _ => False) : Sat (nx m) P E := by
  have key : ∀ m : R α, m.sat P (fun _ _ => False) → (nx m).sat P E := by
    intro m
    induction m with
    | ok a => exact fun h => h
    | exc c fs => exact fun h => h.elim
    | stuck => exact fun h => h.elim
    | draw n k ih => exact fun h i hi => ih i (h i hi)
  exact ⟨key m h.s⟩
/-- a comprehension whose test is drawn -/
theorem lfR_sub {α : Type} {h : α → D} {f : D → R (Option D)} {xs : List α} (e : ∀ x ∈ xs, Sat (f (h x)) (fun o => o = none ∨ o = some (h x)) fun _ _ => False) : Sat (lfR (.ok (xs.map h)) f) (fun d => ∃ ys : List α, d = .lst (ys.map h) ∧ ys.Sublist xs) E := by
  have key : Sat (filR (fun x => nx (f x)) (xs.map h)) (fun ds => ∃ ys : List α, ds = ys.map h ∧ ys.Sublist xs) E := by
    induction xs with
    | nil => exact sat_ok ⟨[], rfl, List.Sublist.slnil⟩
    | cons x xs ih =>
      rw [List.map_cons, filR]
      refine sat_b (nx_sat' (e x List.mem_cons_self)) fun o ho => ?_
      refine sat_map (sat_mono (ih fun y hy => e y (List.mem_cons_of_mem _ hy)) fun ds ⟨ys, e1, s1⟩ => ?_)
      subst e1
      rcases ho with rfl | rfl
      · exact ⟨ys, rfl, s1.cons x⟩
      · exact ⟨x :: ys, rfl, s1.cons_cons x⟩
  unfold lfR
  rw [z_bok]
  refine sat_map (sat_mono key fun ds ⟨ys, e1, s1⟩ => ⟨ys, by rw [e1], s1⟩)
theorem cut_1 {α : Type} (xs : List α) : cut xs (some 1) none = xs.drop 1 := by
  have e1 : clip xs.length 0 (some 1) = min 1 xs.length := rfl
  have e2 : clip xs.length xs.length none = xs.length := rfl
  unfold cut
  rw [e1, e2]
  cases xs with
  | nil => rfl
  | cons x xs =>
    rw [Nat.min_eq_left (by simp)]
    exact List.take_of_length_le (by simp)
theorem zip_next {α : Type} {r : α → α → Prop} : ∀ {xs : List α}, xs.Pairwise r → ∀ p ∈ xs.zip (xs.drop 1), r p.1 p.2
  | [], _, p, h => by simp at h
  | [x], _, p, h => by simp at h
  | x :: y :: xs, h, p, hp => by
    obtain ⟨h1, h2⟩ := List.pairwise_cons.mp h
    rw [List.drop_succ_cons, List.drop_zero, List.zip_cons_cons] at hp
    rcases List.mem_cons.mp hp with rfl | hp
    · exact h1 y List.mem_cons_self
    · exact zip_next h2 p (by rw [List.drop_succ_cons, List.drop_zero]; exact hp)
theorem zipL_map {α β : Type} (xs : List α) (ys : List β) (h : α → D) (k : β → D) : zipL (xs.map h) (ys.map k) = (xs.zip ys).map fun p => .tup [h p.1, k p.2] := by
  unfold zipL
  rw [List.zip_map, List.map_map]; rfl
end
/-- the first of its kind -/
theorem least {P : Nat → Prop} (dec : ∀ n, Decidable (P n)) : ∀ n, P n → ∃ m, m ≤ n ∧ P m ∧ ∀ i, i < m → ¬ P i
  | 0, h => ⟨0, Nat.le_refl _, h, fun i hi => by omega⟩
  | n + 1, h => by
    by_cases q : ∃ m, m ≤ n ∧ P m
    · obtain ⟨m, hm, pm⟩ := q
      have key : ∀ n m, m ≤ n → P m → ∃ k, k ≤ n ∧ P k ∧ ∀ i, i < k → ¬ P i := by
        intro n
        induction n with
        | zero => exact fun m hm pm => ⟨0, Nat.le_refl _, by rw [show m = 0 by omega] at pm; exact pm, fun i hi => by omega⟩
        | succ n ih =>
          intro m hm pm
          by_cases q : ∃ j, j ≤ n ∧ P j
          · obtain ⟨j, hj, pj⟩ := q
            obtain ⟨k, a, b⟩ := ih j hj pj
            exact ⟨k, by omega, b⟩
          · have : m = n + 1 := Nat.le_antisymm hm (Nat.lt_of_not_le fun z => q ⟨m, z, pm⟩)
            subst this
            exact ⟨n + 1, Nat.le_refl _, pm, fun i hi z => q ⟨i, by omega, z⟩⟩
      obtain ⟨k, a, b⟩ := key n m hm pm
      exact ⟨k, by omega, b⟩
    · exact ⟨n + 1, Nat.le_refl _, h, fun i hi z => q ⟨i, by omega, z⟩⟩
/-! ### the hand -/
theorem handB_of {cs : List Int} {i j k l : Int} (h : handC cs i j k l = true) : handB (handD cs i j k l) = true := by
  unfold handB handD
  simp only [ints?_map]
  exact h
theorem hand_cells {f : D → R D} {ns : List Int} (g : Int → Int) (h : ∀ n ∈ ns.take 63, f (.int n) = .ok (.int (g n))) : lcR (itR (sliceR (.ok (.src (ns.map .int))) none (some (.ok (.int 63))))) f = .ok (.lst (((ns.take 63).map g).map .int)) := by
  have e : itR (sliceR (.ok (.src (ns.map .int))) none (some (.ok (.int 63)))) = .ok ((ns.take 63).map .int) := by
    show itD (.lst (cut (ns.map D.int) none (some ((63 : Nat) : Int)))) = _
    rw [cut_to, List.map_take]; rfl
  rw [e, lcR_map (g := fun n => .int (g n)) h, List.map_map]; rfl
end Ev
/-! ### what is drawn, step by step -/
namespace Ev
section
variable {E : String → List (String × D) → Prop}
theorem sat_l1 {f : D → R D} {a : R D} {P T : D → Prop} (ha : Sat a P E) (k : ∀ x, P x → Sat (f x) T E) : Sat (l1 f a) T E := sat_b ha k
theorem sat_l2 {f : D → D → R D} {a b : R D} {P Q T : D → Prop} (ha : Sat a P E) (hb : Sat b Q E) (k : ∀ x y, P x → Q y → Sat (f x y) T E) : Sat (l2 f a b) T E := sat_b ha fun x hx => sat_b hb fun y hy => k x y hx hy
/-- one of a tuple -/
theorem any_ofT {A : D → R D} (hA : ∀ x, A x = l2 idxD (.ok x) (l1 drawD (l1 lenD (.ok x)))) {xs : List D} (h0 : 0 < xs.length) (h1 : xs.length < 1000000) : Sat (A (.tup xs)) (fun d => d ∈ xs) E := by
  rw [hA]
  unfold l2
  rw [z_bok, z_l1, z_lenT, z_l1]
  refine sat_b (P := fun d => ∃ i : Nat, d = .int (i : Int) ∧ i < xs.length) (draw_sat (by omega) (by omega) fun i a b => ⟨i.toNat, by rw [Int.toNat_of_nonneg a], by omega⟩) fun d ⟨i, e, hi⟩ => ?_
  subst e
  exact sat_of (idx_tup (List.getElem?_eq_getElem hi)) (List.getElem_mem hi)
/-- a comprehension whose elements are drawn -/
theorem lcR_sat {F : D → R D} {P : D → Prop} {xs : List D} (h : ∀ x ∈ xs, Sat (F x) P fun _ _ => False) : Sat (lcR (.ok xs) F) (fun d => ∃ ds, d = .lst ds ∧ ds.length = xs.length ∧ ∀ y ∈ ds, P y) E := by
  have key : Sat (mapR (fun x => nx (F x)) xs) (fun ds => ds.length = xs.length ∧ ∀ y ∈ ds, P y) E := by
    induction xs with
    | nil => exact sat_ok ⟨rfl, fun y hy => by cases hy⟩
    | cons x xs ih =>
      rw [mapR]
      refine sat_b (nx_sat' (h x List.mem_cons_self)) fun y hy => ?_
      refine sat_map (sat_mono (ih fun z hz => h z (List.mem_cons_of_mem _ hz)) fun ds ⟨hl, hp⟩ => ⟨by rw [List.length_cons, List.length_cons, hl], fun z hz => ?_⟩)
      rcases List.mem_cons.mp hz with rfl | hz
      · exact hy
      · exact hp z hz
  unfold lcR
  rw [z_bok]
  exact sat_map (sat_mono key fun ds ⟨hl, hp⟩ => ⟨ds, rfl, hl, hp⟩)
theorem ints_of {P : Int → Prop} : ∀ {ds : List D}, (∀ y ∈ ds, ∃ i : Int, y = .int i ∧ P i) → ∃ ns : List Int, ds = ns.map D.int ∧ ∀ n ∈ ns, P n
  | [], _ => ⟨[], rfl, fun n hn => by cases hn⟩
  | d :: ds, h => by
    obtain ⟨i, e, hi⟩ := h d List.mem_cons_self
    obtain ⟨ns, e2, hn⟩ := ints_of fun y hy => h y (List.mem_cons_of_mem _ hy)
    refine ⟨i :: ns, by rw [e, e2]; rfl, fun n hn' => ?_⟩
    rcases List.mem_cons.mp hn' with rfl | q
    · exact hi
    · exact hn n q
end
end Ev


set_option Elab.async false
set_option linter.all false
set_option maxRecDepth 100000
set_option maxHeartbeats 0
namespace LW
open PySem PySem.Spec PyProof.Rows L2 Ev
def top (i : Nat) : Stmt := PySem.Challenge.pw_postshire_k15_whole_hours_open.main.body.getD i (.Pass ⟨0, 0, 0, 0⟩)
def isEx (c : String) : Bool := ["PostFault", "BadOpen", "NoMoment", "NotBehind"].contains c
structure Fx (K : PySem.W.Frag) (mg : PySem.Str → Option Value) : Prop where
  f_is_integer : ∃ a fd, FunD K "is_integer" "is_integer" (defArgs (top 1)) (defBody (top 1)) (defScope (top 1)) [] [] a fd ∧ mg "is_integer" = some (.ref a)
  f_is_within : ∃ a fd, FunD K "is_within" "is_within" (defArgs (top 2)) (defBody (top 2)) (defScope (top 2)) [] [] a fd ∧ mg "is_within" = some (.ref a)
  f_is_stretch : ∃ a fd, FunD K "is_stretch" "is_stretch" (defArgs (top 13)) (defBody (top 13)) (defScope (top 13)) [] [] a fd ∧ mg "is_stretch" = some (.ref a)
  f_is_day : ∃ a fd, FunD K "is_day" "is_day" (defArgs (top 14)) (defBody (top 14)) (defScope (top 14)) [] [] a fd ∧ mg "is_day" = some (.ref a)
  f_check_open : ∃ a fd, FunD K "check_open" "check_open" (defArgs (top 15)) (defBody (top 15)) (defScope (top 15)) [] [] a fd ∧ mg "check_open" = some (.ref a)
  f_is_moment : ∃ a fd, FunD K "is_moment" "is_moment" (defArgs (top 16)) (defBody (top 16)) (defScope (top 16)) [] [] a fd ∧ mg "is_moment" = some (.ref a)
  f_check_moment : ∃ a fd, FunD K "check_moment" "check_moment" (defArgs (top 17)) (defBody (top 17)) (defScope (top 17)) [] [] a fd ∧ mg "check_moment" = some (.ref a)
  f_opens : ∃ a fd, FunD K "opens" "opens" (defArgs (top 18)) (defBody (top 18)) (defScope (top 18)) [] [] a fd ∧ mg "opens" = some (.ref a)
  f_is_open : ∃ a fd, FunD K "is_open" "is_open" (defArgs (top 19)) (defBody (top 19)) (defScope (top 19)) [] [] a fd ∧ mg "is_open" = some (.ref a)
  f_next_open : ∃ a fd, FunD K "next_open" "next_open" (defArgs (top 20)) (defBody (top 20)) (defScope (top 20)) [] [] a fd ∧ mg "next_open" = some (.ref a)
  f_minutes_on : ∃ a fd, FunD K "minutes_on" "minutes_on" (defArgs (top 21)) (defBody (top 21)) (defScope (top 21)) [] [] a fd ∧ mg "minutes_on" = some (.ref a)
  f_open_minutes : ∃ a fd, FunD K "open_minutes" "open_minutes" (defArgs (top 22)) (defBody (top 22)) (defScope (top 22)) [] [] a fd ∧ mg "open_minutes" = some (.ref a)
  f_told_up_to : ∃ a fd, FunD K "told_up_to" "told_up_to" (defArgs (top 23)) (defBody (top 23)) (defScope (top 23)) [] [] a fd ∧ mg "told_up_to" = some (.ref a)
  f_shut_spans : ∃ a fd, FunD K "shut_spans" "shut_spans" (defArgs (top 24)) (defBody (top 24)) (defScope (top 24)) [] [] a fd ∧ mg "shut_spans" = some (.ref a)
  f_longest_shut : ∃ a fd, FunD K "longest_shut" "longest_shut" (defArgs (top 25)) (defBody (top 25)) (defScope (top 25)) [] [] a fd ∧ mg "longest_shut" = some (.ref a)
  f_common_stretches : ∃ a fd, FunD K "common_stretches" "common_stretches" (defArgs (top 26)) (defBody (top 26)) (defScope (top 26)) [] [] a fd ∧ mg "common_stretches" = some (.ref a)
  f_at_once : ∃ a fd, FunD K "at_once" "at_once" (defArgs (top 27)) (defBody (top 27)) (defScope (top 27)) [] [] a fd ∧ mg "at_once" = some (.ref a)
  f_days_open : ∃ a fd, FunD K "days_open" "days_open" (defArgs (top 28)) (defBody (top 28)) (defScope (top 28)) [] [] a fd ∧ mg "days_open" = some (.ref a)
  f__law_bag : ∃ a fd, FunD K "_law_bag" "_law_bag" (defArgs (top 30)) (defBody (top 30)) (defScope (top 30)) [] [] a fd ∧ mg "_law_bag" = some (.ref a)
  f__law_pick : ∃ a fd, FunD K "_law_pick" "_law_pick" (defArgs (top 31)) (defBody (top 31)) (defScope (top 31)) [] [] a fd ∧ mg "_law_pick" = some (.ref a)
  f__law_some : ∃ a fd, FunD K "_law_some" "_law_some" (defArgs (top 32)) (defBody (top 32)) (defScope (top 32)) [] [] a fd ∧ mg "_law_some" = some (.ref a)
  f__law_day : ∃ a fd, FunD K "_law_day" "_law_day" (defArgs (top 33)) (defBody (top 33)) (defScope (top 33)) [] [] a fd ∧ mg "_law_day" = some (.ref a)
  f__law_hours : ∃ a fd, FunD K "_law_hours" "_law_hours" (defArgs (top 34)) (defBody (top 34)) (defScope (top 34)) [] [] a fd ∧ mg "_law_hours" = some (.ref a)
  f__law_stretches : ∃ a fd, FunD K "_law_stretches" "_law_stretches" (defArgs (top 35)) (defBody (top 35)) (defScope (top 35)) [] [] a fd ∧ mg "_law_stretches" = some (.ref a)
  f__law_minutes : ∃ a fd, FunD K "_law_minutes" "_law_minutes" (defArgs (top 36)) (defBody (top 36)) (defScope (top 36)) [] [] a fd ∧ mg "_law_minutes" = some (.ref a)
  f__law_next : ∃ a fd, FunD K "_law_next" "_law_next" (defArgs (top 37)) (defBody (top 37)) (defScope (top 37)) [] [] a fd ∧ mg "_law_next" = some (.ref a)
  f__law_longest : ∃ a fd, FunD K "_law_longest" "_law_longest" (defArgs (top 38)) (defBody (top 38)) (defScope (top 38)) [] [] a fd ∧ mg "_law_longest" = some (.ref a)
  f__law_both : ∃ a fd, FunD K "_law_both" "_law_both" (defArgs (top 39)) (defBody (top 39)) (defScope (top 39)) [] [] a fd ∧ mg "_law_both" = some (.ref a)
  f__law_moment : ∃ a fd, FunD K "_law_moment" "_law_moment" (defArgs (top 40)) (defBody (top 40)) (defScope (top 40)) [] [] a fd ∧ mg "_law_moment" = some (.ref a)
  f__law_deep : ∃ a fd, FunD K "_law_deep" "_law_deep" (defArgs (top 41)) (defBody (top 41)) (defScope (top 41)) [] [] a fd ∧ mg "_law_deep" = some (.ref a)
  f__law_word : ∃ a fd, FunD K "_law_word" "_law_word" (defArgs (top 42)) (defBody (top 42)) (defScope (top 42)) [] [] a fd ∧ mg "_law_word" = some (.ref a)
  f__law_of_two : ∃ a fd, FunD K "_law_of_two" "_law_of_two" (defArgs (top 43)) (defBody (top 43)) (defScope (top 43)) [] [] a fd ∧ mg "_law_of_two" = some (.ref a)
  f__law_of_three : ∃ a fd, FunD K "_law_of_three" "_law_of_three" (defArgs (top 44)) (defBody (top 44)) (defScope (top 44)) [] [] a fd ∧ mg "_law_of_three" = some (.ref a)
  f__law_of_one : ∃ a fd, FunD K "_law_of_one" "_law_of_one" (defArgs (top 45)) (defBody (top 45)) (defScope (top 45)) [] [] a fd ∧ mg "_law_of_one" = some (.ref a)
  f__law_are_refused : ∃ a fd, FunD K "_law_are_refused" "_law_are_refused" (defArgs (top 46)) (defBody (top 46)) (defScope (top 46)) [] [] a fd ∧ mg "_law_are_refused" = some (.ref a)
  f__law_is_right : ∃ a fd, FunD K "_law_is_right" "_law_is_right" (defArgs (top 47)) (defBody (top 47)) (defScope (top 47)) [] [] a fd ∧ mg "_law_is_right" = some (.ref a)
  f_law : ∃ a fd, FunD K "law" "law" (defArgs (top 48)) (defBody (top 48)) (defScope (top 48)) [] [] a fd ∧ mg "law" = some (.ref a)
  b_ValueError : mg "ValueError" = none
  b_abs : mg "abs" = none
  b_all : mg "all" = none
  b_any : mg "any" = none
  b_bool : mg "bool" = none
  b_enumerate : mg "enumerate" = none
  b_int : mg "int" = none
  b_isinstance : mg "isinstance" = none
  b_len : mg "len" = none
  b_list : mg "list" = none
  b_max : mg "max" = none
  b_min : mg "min" = none
  b_range : mg "range" = none
  b_repr : mg "repr" = none
  b_sorted : mg "sorted" = none
  b_sum : mg "sum" = none
  b_tuple : mg "tuple" = none
  b_zip : mg "zip" = none
  i_DAYS : ∃ t, mg "DAYS" = some (.int 7 t)
  i_MINUTES : ∃ t, mg "MINUTES" = some (.int 1440 t)
  i_MOST_PAIRS : ∃ t, mg "MOST_PAIRS" = some (.int 3 t)
  x_PostFault : ExF K mg "PostFault"
  x_BadOpen : ExF K mg "BadOpen"
  x_NoMoment : ExF K mg "NoMoment"
  x_NotBehind : ExF K mg "NotBehind"
  e_exm : ∀ cl C D, isEx cl = true → mg (Str.ofString cl) = some (.ref C) → mg "PostFault" = some (.ref D) → PySem.W.exmOne K (.ref C) (.ref D) = some true
  e_exc : ∀ cl C, isEx cl = true → mg (Str.ofString cl) = some (.ref C) → ExcC K C
  k_ve : ∀ cl C, isEx cl = true → mg (Str.ofString cl) = some (.ref C) → PySem.W.kitOne K (.ref C) (.type "ValueError") = some true
  k_all : ∀ cl y C D, isEx cl = true → isEx y = true → mg (Str.ofString cl) = some (.ref C) → mg (Str.ofString y) = some (.ref D) → PySem.W.kitOne K (.ref C) (.ref D) = some (isSub cl y)
structure Tx (K : PySem.W.Frag) (mg : PySem.Str → Option Value) (base : Heap) (T : List (Addr × PySem.Str)) : Prop where
  triv : True
  l__law_of_two : ∀ a fd, FunD K "_law_of_two" "_law_of_two" (defArgs (top 43)) (defBody (top 43)) (defScope (top 43)) [] [] a fd → mg "_law_of_two" = some (.ref a) → ∃ cA P, fd.code = .ref cA ∧ LamX.TabB base mg cA P ∧ (P, lamQ "_law_of_two") ∈ T ∧ ∀ p ∈ T, p.1 = P → p.2 = lamQ "_law_of_two"
  l__law_of_three : ∀ a fd, FunD K "_law_of_three" "_law_of_three" (defArgs (top 44)) (defBody (top 44)) (defScope (top 44)) [] [] a fd → mg "_law_of_three" = some (.ref a) → ∃ cA P, fd.code = .ref cA ∧ LamX.TabB base mg cA P ∧ (P, lamQ "_law_of_three") ∈ T ∧ ∀ p ∈ T, p.1 = P → p.2 = lamQ "_law_of_three"
  l__law_of_one : ∀ a fd, FunD K "_law_of_one" "_law_of_one" (defArgs (top 45)) (defBody (top 45)) (defScope (top 45)) [] [] a fd → mg "_law_of_one" = some (.ref a) → ∃ cA P, fd.code = .ref cA ∧ LamX.TabB base mg cA P ∧ (P, lamQ "_law_of_one") ∈ T ∧ ∀ p ∈ T, p.1 = P → p.2 = lamQ "_law_of_one"
def m_is_integer (v_thing : D) : R D := (andV (l1 (isiD "int") (R.ok v_thing)) (notV (l1 (isiD "bool") (R.ok v_thing))))
def m_is_within (v_thing v_low v_high : D) : R D := (andV (l1 m_is_integer (R.ok v_thing)) (chD leD leD (R.ok v_low) (R.ok v_thing) (R.ok v_high)))
def m_is_stretch (v_thing : D) : R D := (ifR (orB (notB (tst (l1 (isiD "tuple") (R.ok v_thing)))) (tst (l2 neD (l1 lenD (R.ok v_thing)) (R.ok (D.int 2))))) (R.ok (D.bl false)) (andV (l1 allD (lcR (itR (R.ok v_thing)) fun d => U1 _ d fun (v_t0 : D) => (l3 m_is_within (R.ok v_t0) (R.ok (D.int 0)) (R.ok (D.int 1440))))) (l2 ltD (l2 idxD (R.ok v_thing) (R.ok (D.int 0))) (l2 idxD (R.ok v_thing) (R.ok (D.int 1))))))
def m_is_day (v_thing : D) : R D := (ifR (orB (notB (tst (l1 (isiD "tuple") (R.ok v_thing)))) (orB (tst (l2 gtD (l1 lenD (R.ok v_thing)) (R.ok (D.int 3)))) (notB (tst (l1 allD (lcR (itR (R.ok v_thing)) fun d => U1 _ d fun (v_t0 : D) => (l1 m_is_stretch (R.ok v_t0)))))))) (R.ok (D.bl false)) (l1 allD (lcR (zipD (R.ok v_thing) (sliceR (R.ok v_thing) (some (R.ok (D.int 1))) none)) fun d => U2 _ d fun (v_t1 : D × D) => (l2 ltD (l2 idxD (R.ok v_t1.1) (R.ok (D.int 1))) (l2 idxD (R.ok v_t1.2) (R.ok (D.int 0)))))))
def m_check_open (v_open_hours : D) : R D := (((ifR (orB (notB (tst (l1 (isiD "tuple") (R.ok v_open_hours)))) (orB (tst (l2 neD (l1 lenD (R.ok v_open_hours)) (R.ok (D.int 7)))) (notB (tst (l1 allD (lcR (itR (R.ok v_open_hours)) fun d => U1 _ d fun (v_t0 : D) => (l1 m_is_day (R.ok v_t0)))))))) (R.exc "BadOpen" []) (R.ok ()) : R (Unit)).bind fun v_s1 => (R.ok ())) : R Unit).map fun _ => D.non
def m_is_moment (v_thing : D) : R D := (ifR (orB (notB (tst (l1 (isiD "tuple") (R.ok v_thing)))) (orB (tst (l2 neD (l1 lenD (R.ok v_thing)) (R.ok (D.int 2)))) (orB (notB (tst (l1 m_is_integer (l2 idxD (R.ok v_thing) (R.ok (D.int 0)))))) (tst (l2 ltD (l2 idxD (R.ok v_thing) (R.ok (D.int 0))) (R.ok (D.int 0))))))) (R.ok (D.bl false)) (l3 m_is_within (l2 idxD (R.ok v_thing) (R.ok (D.int 1))) (R.ok (D.int 0)) (l2 subD (R.ok (D.int 1440)) (R.ok (D.int 1)))))
def m_check_moment (v_moment : D) : R D := (((ifR (notB (tst (l1 m_is_moment (R.ok v_moment)))) (R.exc "NoMoment" []) (R.ok ()) : R (Unit)).bind fun v_s0 => (R.ok ())) : R Unit).map fun _ => D.non
def m_opens (v_open_hours v_moment : D) : R D := (l1 anyD (lcR (itR (l2 idxD (R.ok v_open_hours) (l2 modD (l2 idxD (R.ok v_moment) (R.ok (D.int 0))) (R.ok (D.int 7))))) fun d => U2 _ d fun (v_t0 : D × D) => (chD leD ltD (R.ok v_t0.1) (l2 idxD (R.ok v_moment) (R.ok (D.int 1))) (R.ok v_t0.2))))
def m_is_open (v_open_hours v_moment : D) : R D := ((l1 m_check_open (R.ok v_open_hours)).bind fun _ => ((l1 m_check_moment (R.ok v_moment)).bind fun _ => (l2 m_opens (R.ok v_open_hours) (R.ok v_moment))))
def m_next_open (v_open_hours v_moment : D) : R D := ((l1 m_check_open (R.ok v_open_hours)).bind fun _ => ((l1 m_check_moment (R.ok v_moment)).bind fun _ => (thenC ((rng1 (l2 addD (R.ok (D.int 7)) (R.ok (D.int 1)))).bind fun xs => forC (fun (v_s0 : Unit) d => U1 _ d fun (v_t1 : D) => ((tupR [(l2 addD (l2 idxD (R.ok v_moment) (R.ok (D.int 0))) (R.ok v_t1)), (ifR (tst (l2 eqD (R.ok v_t1) (R.ok (D.int 0)))) (l2 idxD (R.ok v_moment) (R.ok (D.int 1))) (R.ok (D.int 0)))]).bind fun v_d2 => U2 _ v_d2 fun (v_t3 : D × D) => ((lfR (itR (l2 idxD (R.ok v_open_hours) (l2 modD (R.ok v_t3.1) (R.ok (D.int 7))))) fun d => U2 _ d fun (v_t4 : D × D) => keep (tst (l2 gtD (R.ok v_t4.2) (R.ok v_t3.2))) (l2 max2D (R.ok v_t4.1) (R.ok v_t3.2))).bind fun v_some5 => (ifR (tst (l2 neD (R.ok v_some5) (lstR []))) ((tupR [(R.ok v_t3.1), (l2 idxD (R.ok v_some5) (R.ok (D.int 0)))]).map Ct.ret) (R.ok (Ct.go ())))))) () xs) (fun d => R.ok (id d)) fun v_s6 => (R.ok D.non))))
def m_minutes_on (v_day v_begin v_end : D) : R D := (l1 sumD (lcR (itR (R.ok v_day)) fun d => U2 _ d fun (v_t0 : D × D) => (l2 max2D (R.ok (D.int 0)) (l2 subD (l2 min2D (R.ok v_t0.2) (R.ok v_end)) (l2 max2D (R.ok v_t0.1) (R.ok v_begin))))))
def m_told_up_to (v_open_hours v_week v_moment : D) : R D := ((l2 fdivD (l2 idxD (R.ok v_moment) (R.ok (D.int 0))) (R.ok (D.int 7))).bind fun v_d0 => tk false v_d0 fun (v_weeks2 : D) => ((l2 modD (l2 idxD (R.ok v_moment) (R.ok (D.int 0))) (R.ok (D.int 7))).bind fun v_d1 => tk false v_d1 fun (v_rest3 : D) => ((l2 addD (l2 mulD (R.ok v_weeks2) (R.ok v_week)) (l1 sumD (lcR (itR (sliceR (R.ok v_open_hours) none (some (R.ok v_rest3)))) fun d => U1 _ d fun (v_t4 : D) => (l3 m_minutes_on (R.ok v_t4) (R.ok (D.int 0)) (R.ok (D.int 1440)))))).bind fun v_number5 => (l2 addD (R.ok v_number5) (l3 m_minutes_on (l2 idxD (R.ok v_open_hours) (R.ok v_rest3)) (R.ok (D.int 0)) (l2 idxD (R.ok v_moment) (R.ok (D.int 1))))))))
def m_open_minutes (v_open_hours v_first v_last : D) : R D := ((l1 m_check_open (R.ok v_open_hours)).bind fun _ => ((l1 m_check_moment (R.ok v_first)).bind fun _ => ((l1 m_check_moment (R.ok v_last)).bind fun _ => (ifR (tst (l2 ltD (R.ok v_last) (R.ok v_first))) (R.exc "NotBehind" []) ((l1 sumD (lcR (itR (R.ok v_open_hours)) fun d => U1 _ d fun (v_t0 : D) => (l3 m_minutes_on (R.ok v_t0) (R.ok (D.int 0)) (R.ok (D.int 1440))))).bind fun v_week1 => (l2 subD (l3 m_told_up_to (R.ok v_open_hours) (R.ok v_week1) (R.ok v_last)) (l3 m_told_up_to (R.ok v_open_hours) (R.ok v_week1) (R.ok v_first))))))))
def m_shut_spans (v_open_hours : D) : R D := ((lstR []).bind fun v_d0 => (ownL v_d0).bind fun v_spans1 => (((enumD (R.ok v_open_hours)).bind fun xs => forR (fun (v_s2 : List D) d => U2 _ d fun (v_t3 : D × D) => ((lcR (itR (R.ok v_t3.2)) fun d => U2 _ d fun (v_t4 : D × D) => (tupR [(l2 addD (l2 mulD (R.ok v_t3.1) (R.ok (D.int 1440))) (R.ok v_t4.1)), (l2 addD (l2 mulD (R.ok v_t3.1) (R.ok (D.int 1440))) (R.ok v_t4.2))])).bind fun v_d5 => (extL v_s2 v_d5).bind fun v_spans6 => (R.ok v_spans6))) v_spans1 xs).bind fun v_s7 => ((ifR (tst (l2 neD (R.ok (D.lst v_s7)) (lstR []))) (l2 addD (sliceR (R.ok (D.lst v_s7)) (some (R.ok (D.int 1))) none) (lstR [(tupR [(l2 addD (l2 idxD (l2 idxD (R.ok (D.lst v_s7)) (R.ok (D.int 0))) (R.ok (D.int 0))) (l2 mulD (R.ok (D.int 7)) (R.ok (D.int 1440)))), (R.ok (D.int 0))])])) (lstR [])).bind fun v_behind8 => (lcR (zipD (R.ok (D.lst v_s7)) (R.ok v_behind8)) fun d => U2 _ d fun (v_t9 : D × D) => (l2 subD (l2 idxD (R.ok v_t9.2) (R.ok (D.int 0))) (l2 idxD (R.ok v_t9.1) (R.ok (D.int 1))))))))
def m_longest_shut (v_open_hours : D) : R D := ((l1 m_check_open (R.ok v_open_hours)).bind fun _ => ((l1 m_shut_spans (R.ok v_open_hours)).bind fun v_spans0 => (ifR (tst (l2 neD (R.ok v_spans0) (lstR []))) (l1 maxLD (R.ok v_spans0)) (R.ok D.non))))
def m_common_stretches (v_one v_other : D) : R D := ((l2R (itR (R.ok v_one)) U1 (fun (_ : D) => R.ok true) (fun (v_t0 : D) => (itR (R.ok v_other))) U1 (fun (_ : D) (_ : D) => R.ok true) (fun (v_t0 : D) (v_u1 : D) => (tupR [(l2 max2D (l2 idxD (R.ok v_t0) (R.ok (D.int 0))) (l2 idxD (R.ok v_u1) (R.ok (D.int 0)))), (l2 min2D (l2 idxD (R.ok v_t0) (R.ok (D.int 1))) (l2 idxD (R.ok v_u1) (R.ok (D.int 1))))]))).bind fun v_pairs2 => (l1 tupleD (l1 sortQD (lfR (itR (R.ok v_pairs2)) fun d => U1 _ d fun (v_t3 : D) => keep (tst (l2 ltD (l2 idxD (R.ok v_t3) (R.ok (D.int 0))) (l2 idxD (R.ok v_t3) (R.ok (D.int 1))))) (R.ok v_t3)))))
def m_at_once (v_open_hours v_others : D) : R D := ((l1 m_check_open (R.ok v_open_hours)).bind fun _ => ((l1 m_check_open (R.ok v_others)).bind fun _ => (l1 tupleD (lcR (zipD (R.ok v_open_hours) (R.ok v_others)) fun d => U2 _ d fun (v_t0 : D × D) => (l2 m_common_stretches (R.ok v_t0.1) (R.ok v_t0.2))))))
def m_days_open (v_open_hours : D) : R D := ((l1 m_check_open (R.ok v_open_hours)).bind fun _ => (l1 tupleD (lfR (enumD (R.ok v_open_hours)) fun d => U2 _ d fun (v_t0 : D × D) => keep (tst (l2 neD (R.ok v_t0.2) (tupR []))) (R.ok v_t0.1))))
def m_law_bag (v_script : D) : R D := ((lcR (itR (sliceR (R.ok v_script) none (some (R.ok (D.int 63))))) fun d => U1 _ d fun (v_t0 : D) => (l1 absD (l1 intD (R.ok v_t0)))).bind fun v_cells1 => (lstR [(R.ok v_cells1), (R.ok (D.int 0)), (R.ok (D.int 0)), (l2 addD (R.ok (D.int 4165)) (l2 mulD (R.ok (D.int 5)) (l1 lenD (R.ok v_cells1)))), (R.ok (D.int 0))]))
def m_law_pick : D → R D := drawD
def m_law_some (v_things : D) : R D := (l2 idxD (R.ok v_things) (l1 m_law_pick (l1 lenD (R.ok v_things))))
def m_law_day : R D := ((l1 sortQD (lcR (rng1 (R.ok (D.int 6))) fun d => U1 _ d fun (v_t0 : D) => (l1 m_law_some (lstR [(R.ok (D.int 0)), (R.ok (D.int 1440)), (l1 m_law_pick (R.ok (D.int 1441))), (l1 m_law_pick (R.ok (D.int 1441)))])))).bind fun v_marks1 => ((lstR []).bind fun v_d2 => tk true v_d2 fun (v_found4 : List D) => ((l1 negD (R.ok (D.int 1))).bind fun v_d3 => tk false v_d3 fun (v_last5 : D) => (((zipD (stepR 2 (R.ok v_marks1) none) (stepR 2 (R.ok v_marks1) (some (R.ok (D.int 1))))).bind fun xs => forR (fun (v_s6 : D × List D) d => U2 _ d fun (v_t7 : D × D) => ((ifR (andB (tst (l2 gtD (R.ok v_t7.1) (R.ok v_s6.1))) (andB (tst (l2 ltD (R.ok v_t7.1) (R.ok v_t7.2))) (tst (l2 gtD (l1 m_law_pick (R.ok (D.int 3))) (R.ok (D.int 0)))))) ((tupR [(R.ok v_t7.1), (R.ok v_t7.2)]).bind fun v_d8 => (appL v_s6.2 v_d8).bind fun v_found9 => ((R.ok v_t7.2).bind fun v_last10 => (R.ok (v_last10, v_found9)))) (R.ok (v_s6.1, v_s6.2)) : R (D × List D)).bind fun v_s11 => (R.ok (v_s11.1, v_s11.2)))) (v_last5, v_found4) xs).bind fun v_s12 => (l1 tupleD (R.ok (D.lst v_s12.2)))))))
def m_law_hours : R D := ((lcR (rng1 (R.ok (D.int 7))) fun d => U1 _ d fun (v_t0 : D) => m_law_day).bind fun v_some1 => ((l1 m_law_pick (R.ok (D.int 6))).bind fun v_kind2 => ((ifR (tst (l2 eqD (R.ok v_kind2) (R.ok (D.int 0)))) ((lcR (itR (R.ok v_some1)) fun d => U1 _ d fun (v_t3 : D) => (ifR (tst (l2 eqD (l1 m_law_pick (R.ok (D.int 5))) (R.ok (D.int 0)))) (R.ok v_t3) (tupR []))).bind fun v_some4 => (R.ok v_some4)) ((ifR (tst (l2 eqD (R.ok v_kind2) (R.ok (D.int 1)))) ((l2 mulD (lstR [(tupR [(tupR [(R.ok (D.int 0)), (R.ok (D.int 1440))])])]) (R.ok (D.int 7))).bind fun v_some5 => (R.ok v_some5)) ((ifR (tst (l2 eqD (R.ok v_kind2) (R.ok (D.int 2)))) ((l2 mulD (lstR [(tupR [])]) (R.ok (D.int 7))).bind fun v_some6 => (R.ok v_some6)) (R.ok v_some1) : R (D)).bind fun v_s7 => (R.ok v_s7)) : R (D)).bind fun v_s8 => (R.ok v_s8)) : R (D)).bind fun v_s9 => (l1 tupleD (R.ok v_s9)))))
def m_law_stretches (v_hours : D) : R D := ((lstR []).bind fun v_d0 => (ownL v_d0).bind fun v_found1 => (((enumD (R.ok v_hours)).bind fun xs => forR (fun (v_s2 : List D) d => U2 _ d fun (v_t3 : D × D) => (((itR (R.ok v_t3.2)).bind fun xs => forR (fun (v_s4 : List D) d => U2 _ d fun (v_t5 : D × D) => ((ifR (andB (tst (l2 gtD (l1 lenD (R.ok (D.lst v_s4))) (R.ok (D.int 0)))) (tst (l2 eqD (l2 idxD (l2 idxD (R.ok (D.lst v_s4)) (l1 negD (R.ok (D.int 1)))) (R.ok (D.int 1))) (l2 addD (l2 mulD (R.ok (D.int 1440)) (R.ok v_t3.1)) (R.ok v_t5.1))))) ((tupR [(l2 idxD (l2 idxD (R.ok (D.lst v_s4)) (l1 negD (R.ok (D.int 1)))) (R.ok (D.int 0))), (l2 addD (l2 mulD (R.ok (D.int 1440)) (R.ok v_t3.1)) (R.ok v_t5.2))]).bind fun v_d6 => (l1 negD (R.ok (D.int 1))).bind fun v_j7 => (setL v_s4 v_j7 v_d6).bind fun v_found8 => (R.ok v_found8)) ((tupR [(l2 addD (l2 mulD (R.ok (D.int 1440)) (R.ok v_t3.1)) (R.ok v_t5.1)), (l2 addD (l2 mulD (R.ok (D.int 1440)) (R.ok v_t3.1)) (R.ok v_t5.2))]).bind fun v_d9 => (appL v_s4 v_d9).bind fun v_found10 => (R.ok v_found10)) : R (List D)).bind fun v_s11 => (R.ok v_s11))) v_s2 xs).bind fun v_s12 => (R.ok v_s12))) v_found1 xs).bind fun v_s13 => (R.ok (D.lst v_s13))))
def m_law_minutes (v_hours v_minute : D) : R D := ((l2 fdivD (R.ok v_minute) (R.ok (D.int 10080))).bind fun v_weeks0 => ((l2 subD (R.ok v_minute) (l2 mulD (R.ok (D.int 10080)) (R.ok v_weeks0))).bind fun v_rest1 => ((l1 sumD (lcR (itR (l1 m_law_stretches (R.ok v_hours))) fun d => U2 _ d fun (v_t2 : D × D) => (l2 subD (R.ok v_t2.2) (R.ok v_t2.1)))).bind fun v_whole3 => ((l1 sumD (lcR (itR (l1 m_law_stretches (R.ok v_hours))) fun d => U2 _ d fun (v_t4 : D × D) => (l2 max2D (R.ok (D.int 0)) (l2 subD (l2 min2D (R.ok v_t4.2) (R.ok v_rest1)) (R.ok v_t4.1))))).bind fun v_part5 => (l2 addD (l2 mulD (R.ok v_weeks0) (R.ok v_whole3)) (R.ok v_part5))))))
def m_law_next (v_hours v_minute : D) : R D := ((l2 fdivD (R.ok v_minute) (R.ok (D.int 10080))).bind fun v_weeks0 => (thenC ((itR (tupR [(R.ok v_weeks0), (l2 addD (R.ok v_weeks0) (R.ok (D.int 1)))])).bind fun xs => forC (fun (v_s1 : Unit) d => U1 _ d fun (v_t2 : D) => (thenC ((itR (l1 m_law_stretches (R.ok v_hours))).bind fun xs => forC (fun (v_s3 : Unit) d => U2 _ d fun (v_t4 : D × D) => (ifR (tst (l2 ltD (R.ok v_minute) (l2 addD (l2 mulD (R.ok (D.int 10080)) (R.ok v_t2)) (R.ok v_t4.2)))) ((l2 max2D (R.ok v_minute) (l2 addD (l2 mulD (R.ok (D.int 10080)) (R.ok v_t2)) (R.ok v_t4.1))).map Ct.ret) (R.ok (Ct.go ())))) () xs) (fun d => R.ok (Ct.ret d)) fun v_s5 => (R.ok (Ct.go ())))) () xs) (fun d => R.ok (id d)) fun v_s6 => (R.ok D.non)))
def m_law_longest (v_hours : D) : R D := ((l1 m_law_stretches (R.ok v_hours)).bind fun v_rows0 => (ifR (tst (l2 eqD (l1 lenD (R.ok v_rows0)) (R.ok (D.int 0)))) (R.ok D.non) ((lcR (zipD (R.ok v_rows0) (sliceR (R.ok v_rows0) (some (R.ok (D.int 1))) none)) fun d => U2 _ d fun (v_t1 : D × D) => (l2 subD (l2 idxD (R.ok v_t1.2) (R.ok (D.int 0))) (l2 idxD (R.ok v_t1.1) (R.ok (D.int 1))))).bind fun v_gaps2 => (l1 maxLD (l2 addD (R.ok v_gaps2) (lstR [(l2 subD (l2 addD (l2 idxD (l2 idxD (R.ok v_rows0) (R.ok (D.int 0))) (R.ok (D.int 0))) (R.ok (D.int 10080))) (l2 idxD (l2 idxD (R.ok v_rows0) (l1 negD (R.ok (D.int 1)))) (R.ok (D.int 1))))]))))))
def m_law_both (v_one v_other : D) : R D := ((lstR []).bind fun v_d0 => (ownL v_d0).bind fun v_found1 => (((itR (R.ok v_one)).bind fun xs => forR (fun (v_s2 : List D) d => U2 _ d fun (v_t3 : D × D) => (((itR (R.ok v_other)).bind fun xs => forR (fun (v_s4 : List D) d => U2 _ d fun (v_t5 : D × D) => ((ifR (tst (l2 ltD (l2 max2D (R.ok v_t3.1) (R.ok v_t5.1)) (l2 min2D (R.ok v_t3.2) (R.ok v_t5.2)))) ((tupR [(l2 max2D (R.ok v_t3.1) (R.ok v_t5.1)), (l2 min2D (R.ok v_t3.2) (R.ok v_t5.2))]).bind fun v_d6 => (appL v_s4 v_d6).bind fun v_found7 => (R.ok v_found7)) (R.ok v_s4) : R (List D)).bind fun v_s8 => (R.ok v_s8))) v_s2 xs).bind fun v_s9 => (R.ok v_s9))) v_found1 xs).bind fun v_s10 => (l1 tupleD (l1 sortQD (R.ok (D.lst v_s10))))))
def m_law_moment (v_minute : D) : R D := (tupR [(l2 fdivD (R.ok v_minute) (R.ok (D.int 1440))), (l2 subD (R.ok v_minute) (l2 mulD (R.ok (D.int 1440)) (l2 fdivD (R.ok v_minute) (R.ok (D.int 1440)))))])
def m_law_deep : R D := ((l1 m_law_some (lstR [(R.ok D.non), (R.ok (D.str [63])), (R.ok (D.bl true))])).bind fun v_found0 => (((rng1 (l2 addD (R.ok (D.int 1)) (l1 m_law_pick (R.ok (D.int 28))))).bind fun xs => forR (fun (v_s1 : D) d => U1 _ d fun (v_t2 : D) => ((l2 idxD (lstR [(tupR [(R.ok v_s1)]), (lstR [(R.ok v_s1)]), ((R.ok v_s1).map fun d => D.dct [D.int 0] [d])]) (l1 m_law_pick (R.ok (D.int 3)))).bind fun v_found3 => (R.ok v_found3))) v_found0 xs).bind fun v_s4 => (R.ok v_s4)))
def m_law_word (call : R D) : R D := tryX isEx call (fun cl => ((lstR [(R.ok (D.bl (isSub cl "BadOpen"))), (R.ok (D.bl (isSub cl "NoMoment"))), (R.ok (D.bl (isSub cl "NotBehind")))]).bind fun v_flags0 => (ifR (orB (tst (l2 neD (mthL countD (R.ok v_flags0) (R.ok (D.bl true))) (R.ok (D.int 1)))) (notB (tst (R.ok (D.bl true))))) (R.ok (D.str [111, 116, 104, 101, 114])) (l2 idxD (lstR [(R.ok (D.str [104, 111, 117, 114, 115])), (R.ok (D.str [109, 111, 109, 101, 110, 116])), (R.ok (D.str [98, 101, 104, 105, 110, 100]))]) (mthL indexD (R.ok v_flags0) (R.ok (D.bl true))))))) fun _ => (R.ok (D.str [115, 97, 105, 100]))
def tbl2 : List (String × (List D → R D)) := [("is_open", un2 m_is_open), ("next_open", un2 m_next_open), ("at_once", un2 m_at_once)]
def m_law_of_two (v_teller v_hours v_thing : D) : R D := (nx (m_law_word (disp tbl2 v_teller fun F => (args [(R.ok v_hours), (R.ok v_thing)]).bind F)))
def m_law_of_three (v_hours v_first v_last : D) : R D := (nx (m_law_word (l3 m_open_minutes (R.ok v_hours) (R.ok v_first) (R.ok v_last))))
def tbl1 : List (String × (List D → R D)) := [("longest_shut", un1 m_longest_shut), ("days_open", un1 m_days_open)]
def m_law_of_one (v_teller v_hours : D) : R D := (nx (m_law_word (disp tbl1 v_teller fun F => (args [(R.ok v_hours)]).bind F)))
def m_law_are_refused (v_hours : D) : R D := ((lstR [(tupR [(R.ok (D.int 5)), (R.ok (D.int 5))]), (tupR [(R.ok (D.int 9)), (R.ok (D.int 5))]), (tupR [(l1 negD (R.ok (D.int 1))), (R.ok (D.int 5))]), (tupR [(R.ok (D.int 5)), (R.ok (D.int 1441))]), (tupR [(R.ok (D.int 5))]), (tupR [(R.ok (D.int 1)), (R.ok (D.int 2)), (R.ok (D.int 3))]), (lstR [(R.ok (D.int 1)), (R.ok (D.int 5))]), (R.ok D.non), (R.ok (D.int 5)), (tupR [(R.ok (D.bl true)), (R.ok (D.int 5))]), (tupR [(R.ok (D.int 1)), (R.ok D.non)])]).bind fun v_some0 => ((tupR [(tupR [(R.ok (D.int 1)), (R.ok (D.int 2))]), (tupR [(R.ok (D.int 4)), (R.ok (D.int 5))]), (tupR [(R.ok (D.int 7)), (R.ok (D.int 8))]), (tupR [(R.ok (D.int 10)), (R.ok (D.int 11))])]).bind fun v_four1 => ((l1 m_law_some (lstR [(tupR [(l1 m_law_some (R.ok v_some0))]), (tupR [(tupR [(R.ok (D.int 1)), (R.ok (D.int 5))]), (tupR [(R.ok (D.int 4)), (R.ok (D.int 9))])]), (R.ok v_four1), (lstR [(tupR [(R.ok (D.int 1)), (R.ok (D.int 5))])]), (R.ok D.non)])).bind fun v_day2 => ((l1 m_law_some (lstR [(R.ok v_day2), (R.ok v_day2), (tupR [(tupR [(R.ok (D.int 6)), (R.ok (D.int 9))]), (tupR [(R.ok (D.int 1)), (R.ok (D.int 2))])]), (tupR [(tupR [(R.ok (D.int 1)), (R.ok (D.int 5))]), (tupR [(R.ok (D.int 5)), (R.ok (D.int 9))])]), (R.ok (D.int 0)), (R.ok (D.str [100, 97, 121])), m_law_deep])).bind fun v_day3 => ((l1 m_law_some (lstR [(l2 addD (sliceR (R.ok v_hours) none (some (R.ok (D.int 6)))) (tupR [(R.ok v_day3)])), (l2 addD (R.ok v_hours) (tupR [(tupR [])])), (sliceR (R.ok v_hours) (some (R.ok (D.int 1))) none), (l1 listD (R.ok v_hours)), (R.ok D.non), (R.ok (D.int 0)), (R.ok (D.dct [] [])), (tupR []), m_law_deep])).bind fun v_bad4 => ((l1 m_law_some (lstR [(tupR [(l1 negD (R.ok (D.int 1))), (R.ok (D.int 5))]), (tupR [(R.ok (D.int 0)), (R.ok (D.int 1440))]), (tupR [(R.ok (D.int 0)), (l1 negD (R.ok (D.int 1)))]), (tupR [(R.ok (D.int 0))]), (tupR [(R.ok (D.int 0)), (R.ok (D.int 0)), (R.ok (D.int 0))]), (lstR [(R.ok (D.int 0)), (R.ok (D.int 0))]), (R.ok D.non), (R.ok (D.int 5)), (tupR [(R.ok (D.bl true)), (R.ok (D.int 0))]), (tupR [(R.ok (D.int 0)), (R.ok D.non)])])).bind fun v_odd5 => ((l1 m_law_some (lstR [(R.ok v_odd5), (R.ok v_odd5), (R.ok (D.dct [] [])), (R.ok (D.str [48, 48])), m_law_deep])).bind fun v_odd6 => ((lstR []).bind fun v_words7 => (((itR (tupR [(R.ok (D.fn "is_open")), (R.ok (D.fn "next_open"))])).bind fun xs => forR (fun (v_s8 : D) d => U1 _ d fun (v_t9 : D) => ((l2 addD (R.ok v_s8) (lstR [(l3 m_law_of_two (R.ok v_t9) (R.ok v_bad4) (R.ok v_odd6)), (l3 m_law_of_two (R.ok v_t9) (R.ok v_hours) (R.ok v_odd6))])).bind fun v_words10 => (R.ok v_words10))) v_words7 xs).bind fun v_s11 => ((l2 addD (R.ok v_s11) (lstR [(l3 m_law_of_three (R.ok v_bad4) (R.ok v_odd6) (R.ok v_odd6)), (l3 m_law_of_three (R.ok v_hours) (R.ok v_odd6) (R.ok v_odd6)), (l3 m_law_of_three (R.ok v_hours) (tupR [(R.ok (D.int 1)), (R.ok (D.int 1))]) (R.ok v_odd6))])).bind fun v_words12 => ((l2 addD (R.ok v_words12) (lstR [(l3 m_law_of_three (R.ok v_hours) (tupR [(R.ok (D.int 1)), (R.ok (D.int 1))]) (tupR [(R.ok (D.int 1)), (R.ok (D.int 0))])), (l2 m_law_of_one (R.ok (D.fn "longest_shut")) (R.ok v_bad4)), (l2 m_law_of_one (R.ok (D.fn "days_open")) (R.ok v_bad4))])).bind fun v_words13 => ((l2 addD (R.ok v_words13) (lstR [(l3 m_law_of_two (R.ok (D.fn "at_once")) (R.ok v_bad4) (R.ok v_bad4)), (l3 m_law_of_two (R.ok (D.fn "at_once")) (R.ok v_hours) (R.ok v_bad4))])).bind fun v_words14 => (l2 eqD (R.ok v_words14) (l2 addD (l2 addD (l2 mulD (lstR [(R.ok (D.str [104, 111, 117, 114, 115])), (R.ok (D.str [109, 111, 109, 101, 110, 116]))]) (R.ok (D.int 2))) (lstR [(R.ok (D.str [104, 111, 117, 114, 115])), (R.ok (D.str [109, 111, 109, 101, 110, 116])), (R.ok (D.str [109, 111, 109, 101, 110, 116])), (R.ok (D.str [98, 101, 104, 105, 110, 100]))])) (l2 mulD (lstR [(R.ok (D.str [104, 111, 117, 114, 115]))]) (R.ok (D.int 4)))))))))))))))))
def m_law_is_right (v_hours v_others : D) : R D := ((l1 reprD (tupR [(R.ok v_hours), (R.ok v_others)])).bind fun v_d0 => tk false v_d0 fun (v_before2 : D) => ((l1 m_law_stretches (R.ok v_hours)).bind fun v_d1 => tk false v_d1 fun (v_rows3 : D) => ((l2 addD (lstR [(R.ok (D.int 0)), (R.ok (D.int 10079))]) (lcR (itR (sliceR (R.ok v_rows3) none (some (R.ok (D.int 6))))) fun d => U2 _ d fun (v_t4 : D × D) => (l1 m_law_some (lstR [(R.ok v_t4.1), (l2 subD (R.ok v_t4.2) (R.ok (D.int 1))), (R.ok v_t4.2)])))).bind fun v_ends_here5 => ((R.ok D.non).bind fun v_first6 => (thenC ((itR (l2 addD (R.ok v_ends_here5) (lcR (rng1 (R.ok (D.int 4))) fun d => U1 _ d fun (v_t7 : D) => (l1 m_law_pick (R.ok (D.int 10080)))))).bind fun xs => forC (fun (v_s8 : D) d => U1 _ d fun (v_t9 : D) => ((l2 addD (R.ok v_t9) (l2 mulD (R.ok (D.int 10080)) (l1 m_law_some (lstR [(R.ok (D.int 0)), (R.ok (D.int 0)), (R.ok (D.int 1)), (l1 m_law_pick (l2 powD (R.ok (D.int 10)) (R.ok (D.int 6))))])))).bind fun v_minute10 => ((tupR [(l1 m_law_moment (R.ok v_minute10)), (l2 subD (R.ok v_minute10) (l2 mulD (R.ok (D.int 10080)) (l2 fdivD (R.ok v_minute10) (R.ok (D.int 10080)))))]).bind fun v_d11 => U2 _ v_d11 fun (v_t12 : D × D) => ((l1 anyD (lcR (itR (R.ok v_rows3)) fun d => U2 _ d fun (v_t13 : D × D) => (chD leD ltD (R.ok v_t13.1) (R.ok v_t12.2) (R.ok v_t13.2)))).bind fun v_flag14 => (ifR (tst (l2 neD (l1 reprD (l2 m_is_open (R.ok v_hours) (R.ok v_t12.1))) (l1 reprD (R.ok v_flag14)))) ((R.ok (D.bl false)).map Ct.ret) ((l2 m_law_next (R.ok v_hours) (R.ok v_minute10)).bind fun v_later15 => (ifR (tst (l2 neD (l1 reprD (l2 m_next_open (R.ok v_hours) (R.ok v_t12.1))) (l1 reprD (ifR (tst (l2 isD (R.ok v_later15) (R.ok D.non))) (R.ok D.non) (l1 m_law_moment (R.ok v_later15)))))) ((R.ok (D.bl false)).map Ct.ret) (thenC (ifR (tst (l2 isnD (R.ok v_s8) (R.ok D.non))) ((l2 min2D (R.ok v_s8) (R.ok v_minute10)).bind fun v_d16 => tk false v_d16 fun (v_low18 : D) => ((l2 max2D (R.ok v_s8) (R.ok v_minute10)).bind fun v_d17 => tk false v_d17 fun (v_high19 : D) => ((l2 subD (l2 m_law_minutes (R.ok v_hours) (R.ok v_high19)) (l2 m_law_minutes (R.ok v_hours) (R.ok v_low18))).bind fun v_due20 => (ifR (tst (l2 neD (l1 reprD (l3 m_open_minutes (R.ok v_hours) (l1 m_law_moment (R.ok v_low18)) (l1 m_law_moment (R.ok v_high19)))) (l1 reprD (R.ok v_due20)))) ((R.ok (D.bl false)).map Ct.ret) (R.ok (Ct.go ())))))) (R.ok (Ct.go ())) : R (Ct (Unit))) (fun d => R.ok (Ct.ret d)) fun v_s21 => ((R.ok v_minute10).bind fun v_first22 => (R.ok (Ct.go v_first22))))))))))) v_first6 xs) (fun d => R.ok (id d)) fun v_s23 => (ifR (tst (l2 neD (l1 reprD (l1 m_longest_shut (R.ok v_hours))) (l1 reprD (l1 m_law_longest (R.ok v_hours))))) (R.ok (D.bl false)) (ifR (tst (l2 neD (l1 reprD (l1 m_days_open (R.ok v_hours))) (l1 reprD (l1 tupleD (lfR (rng1 (R.ok (D.int 7))) fun d => U1 _ d fun (v_t24 : D) => keep (tst (l2 gtD (l1 lenD (l2 idxD (R.ok v_hours) (R.ok v_t24))) (R.ok (D.int 0)))) (R.ok v_t24)))))) (R.ok (D.bl false)) ((l1 tupleD (lcR (zipD (R.ok v_hours) (R.ok v_others)) fun d => U2 _ d fun (v_t25 : D × D) => (l2 m_law_both (R.ok v_t25.1) (R.ok v_t25.2)))).bind fun v_both26 => (ifR (orB (tst (l2 neD (l1 reprD (l2 m_at_once (R.ok v_hours) (R.ok v_others))) (l1 reprD (R.ok v_both26)))) (tst (l2 neD (l2 m_at_once (R.ok v_others) (R.ok v_hours)) (R.ok v_both26)))) (R.ok (D.bl false)) (andV (l2 eqD (l1 reprD (tupR [(R.ok v_hours), (R.ok v_others)])) (R.ok v_before2)) (l1 m_law_are_refused (R.ok v_hours))))))))))))
def m_law (v_script : D) : R D := ((l1 m_law_bag (R.ok v_script)).bind fun v_d0 => sealR v_d0 ((tupR [(tupR [(tupR [(R.ok (D.int 60)), (R.ok (D.int 120))])]), (tupR []), (tupR [(tupR [(R.ok (D.int 0)), (R.ok (D.int 30))]), (tupR [(R.ok (D.int 1000)), (R.ok (D.int 1440))])]), (tupR [(tupR [(R.ok (D.int 0)), (R.ok (D.int 10))])]), (tupR []), (tupR []), (tupR [])]).bind fun v_week1 => (ifR (orB (tst (l2 isnD (l2 m_is_open (R.ok v_week1) (tupR [(R.ok (D.int 0)), (R.ok (D.int 119))])) (R.ok (D.bl true)))) (orB (tst (l2 isnD (l2 m_is_open (R.ok v_week1) (tupR [(R.ok (D.int 7)), (R.ok (D.int 120))])) (R.ok (D.bl false)))) (tst (l2 neD (l1 m_days_open (R.ok v_week1)) (tupR [(R.ok (D.int 0)), (R.ok (D.int 2)), (R.ok (D.int 3))]))))) (R.ok (D.bl false)) (ifR (orB (tst (l2 neD (l2 m_next_open (R.ok v_week1) (tupR [(R.ok (D.int 3)), (R.ok (D.int 10))])) (tupR [(R.ok (D.int 7)), (R.ok (D.int 60))]))) (tst (l2 isnD (l2 m_next_open (l2 mulD (tupR [(tupR [])]) (R.ok (D.int 7))) (tupR [(R.ok (D.int 0)), (R.ok (D.int 0))])) (R.ok D.non)))) (R.ok (D.bl false)) (ifR (tst (l2 isnD (l1 m_longest_shut (l2 mulD (tupR [(tupR [])]) (R.ok (D.int 7)))) (R.ok D.non))) (R.ok (D.bl false)) (ifR (orB (tst (l2 neD (l3 m_open_minutes (R.ok v_week1) (tupR [(R.ok (D.int 0)), (R.ok (D.int 0))]) (tupR [(R.ok (D.int 3)), (R.ok (D.int 5))])) (R.ok (D.int 535)))) (tst (l2 neD (l1 m_longest_shut (l2 mulD (tupR [(tupR [(tupR [(R.ok (D.int 0)), (R.ok (D.int 1440))])])]) (R.ok (D.int 7)))) (R.ok (D.int 0))))) (R.ok (D.bl false)) (l1 allD (lcR (rng1 (R.ok (D.int 5))) fun d => U1 _ d fun (v_t2 : D) => (l2 m_law_is_right m_law_hours m_law_hours)))))))))
section
variable {P : Program} {w : World} {K : PySem.W.Frag} {mg : PySem.Str → Option Value} {base : Heap} {T : List (Addr × PySem.Str)}
theorem sc_is_integer : FnScope ["thing"] ["thing"] (defScope (top 1)) := ⟨rfl, rfl, rfl, by decide +kernel, rfl, by decide +kernel, by decide +kernel⟩
theorem ok_is_integer (F : Fx K mg) (B : Tx K mg base T) : FnM P w K mg base T false 1 "is_integer" false 1 .sh (un1 m_is_integer) := by
  obtain ⟨a, fd, Fn, hm⟩ := F.f_is_integer
  refine fnM_of (N := ["thing"]) Fn sc_is_integer rfl hm (Fn.bindsN fun _ _ _ _ _ _ us hl => match us, hl with | [_], _ => rfl) fun cdv A outer s H E c ds hcd hT hn hr tk hp => ?_
  match ds, hn with
  | [v_thing], _ =>
  show BodyOk _ _ c _ _ .sh (m_is_integer v_thing)
  unfold m_is_integer
  exact body_D (s_ret (v_and (JE.sh (e_isi (T := "int") (hm := F.b_isinstance) (h2 := F.b_int) (hv2 := bb_int) (ha := (JE.bo (e_var 0))))) (v_one (v_not (JE.rb (e_isi (T := "bool") (hm := F.b_isinstance) (h2 := F.b_bool) (hv2 := bb_bool) (ha := (JE.bo (e_var 0)))))))))
theorem sc_is_within : FnScope ["thing", "low", "high"] ["thing", "low", "high"] (defScope (top 2)) := ⟨rfl, rfl, rfl, by decide +kernel, rfl, by decide +kernel, by decide +kernel⟩
theorem ok_is_within (F : Fx K mg) (B : Tx K mg base T) : FnM P w K mg base T false 2 "is_within" false 3 .sh (un3 m_is_within) := by
  obtain ⟨a, fd, Fn, hm⟩ := F.f_is_within
  refine fnM_of (N := ["thing", "low", "high"]) Fn sc_is_within rfl hm (Fn.bindsN fun _ _ _ _ _ _ us hl => match us, hl with | [_, _, _], _ => rfl) fun cdv A outer s H E c ds hcd hT hn hr tk hp => ?_
  match ds, hn with
  | [v_thing, v_low, v_high], _ =>
  show BodyOk _ _ c _ _ .sh (m_is_within v_thing v_low v_high)
  unfold m_is_within
  exact body_D (s_ret (v_and (JE.eq (e_call hT (ok_is_integer F B) hr.on tk (s_cons (e_var 0) s_nil)) (ap_un1 _ _)) (v_one (JE.sh (e_chain (o_le hr.u64) (o_le hr.u64) ordD_calm ordD_bl ordD_calm (JE.bo (e_var 1)) (JE.bo (e_var 0)) (JE.bo (e_var 2)))))))
theorem sc_is_stretch : FnScope ["thing", "minute"] ["thing"] (defScope (top 13)) := ⟨rfl, rfl, rfl, by decide +kernel, rfl, by decide +kernel, by decide +kernel⟩
theorem ok_is_stretch (F : Fx K mg) (B : Tx K mg base T) : FnM P w K mg base T false 3 "is_stretch" false 1 .sh (un1 m_is_stretch) := by
  obtain ⟨a, fd, Fn, hm⟩ := F.f_is_stretch
  refine fnM_of (N := ["thing", "minute"]) Fn sc_is_stretch rfl hm (Fn.bindsN fun _ _ _ _ _ _ us hl => match us, hl with | [_], _ => rfl) fun cdv A outer s H E c ds hcd hT hn hr tk hp => ?_
  match ds, hn with
  | [v_thing], _ =>
  show BodyOk _ _ c _ _ .sh (m_is_stretch v_thing)
  unfold m_is_stretch
  exact body_D (s_ifD (t_w (w_or (t_not (t_val (JE.rb (e_isi (T := "tuple") (hm := F.b_isinstance) (h2 := F.b_tuple) (hv2 := bb_tuple) (ha := (JE.bo (e_var 0))))))) (w_or1 (t_cmp (o_ne hr.u64) neD_calm neD_bl (JE.rb (e_bi1 c_len lenD_calm F.b_len bb_len (JE.bo (e_var 0)))) (JE.bo e_int))))) (s_ret e_bl) (s_ret (v_and (JE.sh (e_bi1 (c_all rfl) allD_calm F.b_all bb_all (JE.rb (e_lc hT rfl sc_is_stretch.nd (i_seq (e_var 0)) (own := [("minute", 1)]) (blkOk_by rfl) (fun _ _ _ _ _ => tg1 (i := 1) sc_is_stretch.nd) (fun _ _ _ _ _ => rfl) rfl rfl (fun _ _ _ _ _ c hT v_t0 => (JE.eq (e_call hT (ok_is_within F B) hr.on L2.takes0 (s_cons (e_var 1) (s_cons e_int (s_cons (e_cInt (hm := F.i_MINUTES)) s_nil)))) (ap_un3 _ _ _ _))))))) (v_one (JE.sh (e_cmp (o_lt hr.u64) ordD_calm (JE.bo (e_idx (JE.bo (e_var 0)) (JE.bo e_int))) (JE.bo (e_idx (JE.bo (e_var 0)) (JE.bo e_int)))))))))
theorem sc_is_day : FnScope ["thing", "one", "other", "pair"] ["thing"] (defScope (top 14)) := ⟨rfl, rfl, rfl, by decide +kernel, rfl, by decide +kernel, by decide +kernel⟩
theorem ok_is_day (F : Fx K mg) (B : Tx K mg base T) : FnM P w K mg base T false 4 "is_day" false 1 .sh (un1 m_is_day) := by
  obtain ⟨a, fd, Fn, hm⟩ := F.f_is_day
  refine fnM_of (N := ["thing", "one", "other", "pair"]) Fn sc_is_day rfl hm (Fn.bindsN fun _ _ _ _ _ _ us hl => match us, hl with | [_], _ => rfl) fun cdv A outer s H E c ds hcd hT hn hr tk hp => ?_
  match ds, hn with
  | [v_thing], _ =>
  show BodyOk _ _ c _ _ .sh (m_is_day v_thing)
  unfold m_is_day
  exact body_D (s_ifD (t_w (w_or (t_not (t_val (JE.rb (e_isi (T := "tuple") (hm := F.b_isinstance) (h2 := F.b_tuple) (hv2 := bb_tuple) (ha := (JE.bo (e_var 0))))))) (w_or (t_cmp (o_gt hr.u64) ordD_calm ordD_bl (JE.rb (e_bi1 c_len lenD_calm F.b_len bb_len (JE.bo (e_var 0)))) (JE.bo (e_cInt (hm := F.i_MOST_PAIRS)))) (w_or1 (t_not (t_val (JE.rb (e_bi1 (c_all rfl) allD_calm F.b_all bb_all (JE.rb (e_lc hT rfl sc_is_day.nd (i_seq (e_var 0)) (own := [("pair", 3)]) (blkOk_by rfl) (fun _ _ _ _ _ => tg1 (i := 3) sc_is_day.nd) (fun _ _ _ _ _ => rfl) rfl rfl (fun _ _ _ _ _ c hT v_t0 => (JE.eq (e_call hT (ok_is_stretch F B) hr.on L2.takes0 (s_cons (e_var 3) s_nil)) (ap_un1 _ _))))))))))))) (s_ret e_bl) (s_ret (JE.sh (e_bi1 (c_all rfl) allD_calm F.b_all bb_all (JE.rb (e_lc hT rfl sc_is_day.nd (i_zip (e_var 0) (JE.sh (e_slice (JE.bo (e_var 0)) (p_some (JE.bo e_int)) p_none)) F.b_zip) (own := [("one", 1), ("other", 2)]) (blkOk_by rfl) (fun _ _ _ _ _ => tg2 (i := 1) (j := 2) rfl sc_is_day.nd) (fun _ _ _ _ _ => rfl) rfl rfl (fun _ _ _ _ _ c hT v_t1 => (JE.sh (e_cmp (o_lt hr.u64) ordD_calm (JE.bo (e_idx (JE.bo (e_var 1)) (JE.bo e_int))) (JE.bo (e_idx (JE.bo (e_var 2)) (JE.bo e_int))))))))))))
theorem sc_check_open : FnScope ["open_hours", "day"] ["open_hours"] (defScope (top 15)) := ⟨rfl, rfl, rfl, by decide +kernel, rfl, by decide +kernel, by decide +kernel⟩
theorem ok_check_open (F : Fx K mg) (B : Tx K mg base T) : FnM P w K mg base T false 5 "check_open" false 1 .sh (un1 m_check_open) := by
  obtain ⟨a, fd, Fn, hm⟩ := F.f_check_open
  refine fnM_of (N := ["open_hours", "day"]) Fn sc_check_open rfl hm (Fn.bindsN fun _ _ _ _ _ _ us hl => match us, hl with | [_], _ => rfl) fun cdv A outer s H E c ds hcd hT hn hr tk hp => ?_
  match ds, hn with
  | [v_open_hours], _ =>
  show BodyOk _ _ c _ _ .sh (m_check_open v_open_hours)
  unfold m_check_open
  exact body_S (k := fun _ : Unit => List.replicate 2 Sl.no) (s_if (k := (fun (s : Unit) => ([.sh v_open_hours, .no] : List Sl))) (t_w (w_or (t_not (t_val (JE.rb (e_isi (T := "tuple") (hm := F.b_isinstance) (h2 := F.b_tuple) (hv2 := bb_tuple) (ha := (JE.bo (e_var 0))))))) (w_or (t_cmp (o_ne hr.u64) neD_calm neD_bl (JE.rb (e_bi1 c_len lenD_calm F.b_len bb_len (JE.bo (e_var 0)))) (JE.bo (e_cInt (hm := F.i_DAYS)))) (w_or1 (t_not (t_val (JE.rb (e_bi1 (c_all rfl) allD_calm F.b_all bb_all (JE.rb (e_lc hT rfl sc_check_open.nd (i_seq (e_var 0)) (own := [("day", 1)]) (blkOk_by rfl) (fun _ _ _ _ _ => tg1 (i := 1) sc_check_open.nd) (fun _ _ _ _ _ => rfl) rfl rfl (fun _ _ _ _ _ c hT v_t0 => (JE.eq (e_call hT (ok_is_day F B) hr.on L2.takes0 (s_cons (e_var 1) s_nil)) (ap_un1 _ _))))))))))))) (s_raiseF "BadOpen" rfl tk F.x_BadOpen) (s_nil' () ⟨.inl rfl, .inl rfl, True.intro⟩) (fun v_s1 => (s_nil' () ⟨.inr rfl, .inl rfl, True.intro⟩)))
theorem sc_is_moment : FnScope ["thing"] ["thing"] (defScope (top 16)) := ⟨rfl, rfl, rfl, by decide +kernel, rfl, by decide +kernel, by decide +kernel⟩
theorem ok_is_moment (F : Fx K mg) (B : Tx K mg base T) : FnM P w K mg base T false 3 "is_moment" false 1 .sh (un1 m_is_moment) := by
  obtain ⟨a, fd, Fn, hm⟩ := F.f_is_moment
  refine fnM_of (N := ["thing"]) Fn sc_is_moment rfl hm (Fn.bindsN fun _ _ _ _ _ _ us hl => match us, hl with | [_], _ => rfl) fun cdv A outer s H E c ds hcd hT hn hr tk hp => ?_
  match ds, hn with
  | [v_thing], _ =>
  show BodyOk _ _ c _ _ .sh (m_is_moment v_thing)
  unfold m_is_moment
  exact body_D (s_ifD (t_w (w_or (t_not (t_val (JE.rb (e_isi (T := "tuple") (hm := F.b_isinstance) (h2 := F.b_tuple) (hv2 := bb_tuple) (ha := (JE.bo (e_var 0))))))) (w_or (t_cmp (o_ne hr.u64) neD_calm neD_bl (JE.rb (e_bi1 c_len lenD_calm F.b_len bb_len (JE.bo (e_var 0)))) (JE.bo e_int)) (w_or (t_not (t_val (JE.bo (JE.eq (e_call hT (ok_is_integer F B) hr.on tk (s_cons (e_idx (JE.bo (e_var 0)) (JE.bo e_int)) s_nil)) (ap_un1 _ _))))) (w_or1 (t_cmp (o_lt hr.u64) ordD_calm ordD_bl (JE.bo (e_idx (JE.bo (e_var 0)) (JE.bo e_int))) (JE.bo e_int))))))) (s_ret e_bl) (s_ret (JE.eq (e_call hT (ok_is_within F B) hr.on tk (s_cons (e_idx (JE.bo (e_var 0)) (JE.bo e_int)) (s_cons e_int (s_cons (JE.sh (e_op o_sub subD_calm (JE.bo (e_cInt (hm := F.i_MINUTES))) (JE.bo e_int))) s_nil)))) (ap_un3 _ _ _ _))))
theorem sc_check_moment : FnScope ["moment"] ["moment"] (defScope (top 17)) := ⟨rfl, rfl, rfl, by decide +kernel, rfl, by decide +kernel, by decide +kernel⟩
theorem ok_check_moment (F : Fx K mg) (B : Tx K mg base T) : FnM P w K mg base T false 4 "check_moment" false 1 .sh (un1 m_check_moment) := by
  obtain ⟨a, fd, Fn, hm⟩ := F.f_check_moment
  refine fnM_of (N := ["moment"]) Fn sc_check_moment rfl hm (Fn.bindsN fun _ _ _ _ _ _ us hl => match us, hl with | [_], _ => rfl) fun cdv A outer s H E c ds hcd hT hn hr tk hp => ?_
  match ds, hn with
  | [v_moment], _ =>
  show BodyOk _ _ c _ _ .sh (m_check_moment v_moment)
  unfold m_check_moment
  exact body_S (k := fun _ : Unit => List.replicate 1 Sl.no) (s_if (k := (fun (s : Unit) => ([.sh v_moment] : List Sl))) (t_not (t_val (JE.bo (JE.eq (e_call hT (ok_is_moment F B) hr.on tk (s_cons (e_var 0) s_nil)) (ap_un1 _ _))))) (s_raiseF "NoMoment" rfl tk F.x_NoMoment) (s_nil' () ⟨.inl rfl, True.intro⟩) (fun v_s0 => (s_nil' () ⟨.inr rfl, True.intro⟩)))
theorem sc_opens : FnScope ["open_hours", "moment", "begin", "end"] ["open_hours", "moment"] (defScope (top 18)) := ⟨rfl, rfl, rfl, by decide +kernel, rfl, by decide +kernel, by decide +kernel⟩
theorem ok_opens (F : Fx K mg) (B : Tx K mg base T) : FnM P w K mg base T false 1 "opens" false 2 .ra (un2 m_opens) := by
  obtain ⟨a, fd, Fn, hm⟩ := F.f_opens
  refine fnM_of (N := ["open_hours", "moment", "begin", "end"]) Fn sc_opens rfl hm (Fn.bindsN fun _ _ _ _ _ _ us hl => match us, hl with | [_, _], _ => rfl) fun cdv A outer s H E c ds hcd hT hn hr tk hp => ?_
  match ds, hn with
  | [v_open_hours, v_moment], _ =>
  show BodyOk _ _ c _ _ .ra (m_opens v_open_hours v_moment)
  unfold m_opens
  exact body_D (s_ret (e_bi1 (c_any rfl) anyD_calm F.b_any bb_any (JE.rb (e_lc hT rfl sc_opens.nd (i_seq (e_idx (JE.bo (e_var 0)) (JE.rb (e_op o_mod modD_calm (JE.bo (e_idx (JE.bo (e_var 1)) (JE.bo e_int))) (JE.bo (e_cInt (hm := F.i_DAYS))))))) (own := [("begin", 2), ("end", 3)]) (blkOk_by rfl) (fun _ _ _ _ _ => tg2 (i := 2) (j := 3) rfl sc_opens.nd) (fun _ _ _ _ _ => rfl) rfl rfl (fun _ _ _ _ _ c hT v_t0 => (JE.sh (e_chain (o_le hr.u64) (o_lt hr.u64) ordD_calm ordD_bl ordD_calm (JE.bo (e_var 2)) (JE.bo (e_idx (JE.bo (e_var 1)) (JE.bo e_int))) (JE.bo (e_var 3)))))))))
theorem sc_is_open : FnScope ["open_hours", "moment"] ["open_hours", "moment"] (defScope (top 19)) := ⟨rfl, rfl, rfl, by decide +kernel, rfl, by decide +kernel, by decide +kernel⟩
theorem ok_is_open (F : Fx K mg) (B : Tx K mg base T) : FnM P w K mg base T false 6 "is_open" false 2 .ra (un2 m_is_open) := by
  obtain ⟨a, fd, Fn, hm⟩ := F.f_is_open
  refine fnM_of (N := ["open_hours", "moment"]) Fn sc_is_open rfl hm (Fn.bindsN fun _ _ _ _ _ _ us hl => match us, hl with | [_, _], _ => rfl) fun cdv A outer s H E c ds hcd hT hn hr tk hp => ?_
  match ds, hn with
  | [v_open_hours, v_moment], _ =>
  show BodyOk _ _ c _ _ .ra (m_is_open v_open_hours v_moment)
  unfold m_is_open
  exact body_D (s_expr (JE.eq (e_call hT (ok_check_open F B) hr.on tk (s_cons (e_var 0) s_nil)) (ap_un1 _ _)) (s_expr (JE.eq (e_call hT (ok_check_moment F B) hr.on tk (s_cons (e_var 1) s_nil)) (ap_un1 _ _)) (s_ret (JE.eq (e_call hT (ok_opens F B) hr.on tk (s_cons (e_var 0) (s_cons (e_var 1) s_nil))) (ap_un2 _ _ _)))))
theorem sc_next_open : FnScope ["open_hours", "moment", "more", "day", "least", "some", "begin", "end"] ["open_hours", "moment"] (defScope (top 20)) := ⟨rfl, rfl, rfl, by decide +kernel, rfl, by decide +kernel, by decide +kernel⟩
theorem ok_next_open (F : Fx K mg) (B : Tx K mg base T) : FnM P w K mg base T false 6 "next_open" false 2 .sh (un2 m_next_open) := by
  obtain ⟨a, fd, Fn, hm⟩ := F.f_next_open
  refine fnM_of (N := ["open_hours", "moment", "more", "day", "least", "some", "begin", "end"]) Fn sc_next_open rfl hm (Fn.bindsN fun _ _ _ _ _ _ us hl => match us, hl with | [_, _], _ => rfl) fun cdv A outer s H E c ds hcd hT hn hr tk hp => ?_
  match ds, hn with
  | [v_open_hours, v_moment], _ =>
  show BodyOk _ _ c _ _ .sh (m_next_open v_open_hours v_moment)
  unfold m_next_open
  exact body_D (s_expr (JE.eq (e_call hT (ok_check_open F B) hr.on tk (s_cons (e_var 0) s_nil)) (ap_un1 _ _)) (s_expr (JE.eq (e_call hT (ok_check_moment F B) hr.on tk (s_cons (e_var 1) s_nil)) (ap_un1 _ _)) (s_forC (k := (fun (s : Unit) => ([.sh v_open_hours, .sh v_moment, .no, .no, .no, .no, .no, .no] : List Sl))) () id rD hp rfl (i_rng1 (JE.rb (e_op o_add addD_calm (JE.bo (e_cInt (hm := F.i_DAYS))) (JE.bo e_int))) F.b_range) (tg1 (i := 2) sc_next_open.nd) ⟨.inl rfl, .inl rfl, .inl rfl, .inl rfl, .inl rfl, .inl rfl, .inl rfl, .inl rfl, True.intro⟩ (fun _ => rfl) hT (fun c hT v_s0 v_t1 => (s_tgt (e_tup (s_cons (JE.sh (e_op o_add addD_calm (JE.bo (e_idx (JE.bo (e_var 1)) (JE.bo e_int))) (JE.bo (e_var 2)))) (s_cons (e_if (t_cmp (o_eq hr.u64) eqD_calm eqD_bl (JE.bo (e_var 2)) (JE.bo e_int)) (e_idx (JE.bo (e_var 1)) (JE.bo e_int)) e_int) s_nil))) (tg2 (i := 3) (j := 4) rfl sc_next_open.nd) (fun v_t3 => (s_setLf (i := 5) hT rfl sc_next_open.nd (i_seq (e_idx (JE.bo (e_var 0)) (JE.rb (e_op o_mod modD_calm (JE.bo (e_var 3)) (JE.bo (e_cInt (hm := F.i_DAYS))))))) (own := [("begin", 6), ("end", 7)]) (blkOk_by rfl) (fun _ _ _ _ _ => tg2 (i := 6) (j := 7) rfl sc_next_open.nd) (fun _ _ _ _ _ => rfl) rfl rfl (fun _ _ _ _ _ c hT v_t4 => (t_cmp (o_gt hr.u64) ordD_calm ordD_bl (JE.bo (e_var 7)) (JE.bo (e_var 4)))) (fun _ _ _ _ _ c hT v_t4 => (JE.sh (e_bi2 (c_max2 rfl hr.u65) max2D_calm F.b_max bb_max (JE.bo (e_var 6)) (JE.bo (e_var 4))))) (Nat.le_of_ble_eq_true rfl) rfl rfl (sw_true rfl rfl rfl rfl) (fun v_some5 => (s_ifR Ct.ret rC (t_cmp (o_ne hr.u64) neD_calm neD_bl (JE.bo (e_var 5)) (JE.rb (e_lst s_nil))) (s_ret (e_tup (s_cons (e_var 3) (s_cons (e_idx (JE.bo (e_var 5)) (JE.bo e_int)) s_nil)))) (s_nilC () ⟨.inl rfl, .inl rfl, .inr rfl, .inr rfl, .inr rfl, .inr rfl, .inl rfl, .inl rfl, True.intro⟩))))))) (fun v_s6 => (s_ret e_non)))))
theorem sc_minutes_on : FnScope ["day", "begin", "end", "first", "last"] ["day", "begin", "end"] (defScope (top 21)) := ⟨rfl, rfl, rfl, by decide +kernel, rfl, by decide +kernel, by decide +kernel⟩
theorem ok_minutes_on (F : Fx K mg) (B : Tx K mg base T) : FnM P w K mg base T false 1 "minutes_on" false 3 .ra (un3 m_minutes_on) := by
  obtain ⟨a, fd, Fn, hm⟩ := F.f_minutes_on
  refine fnM_of (N := ["day", "begin", "end", "first", "last"]) Fn sc_minutes_on rfl hm (Fn.bindsN fun _ _ _ _ _ _ us hl => match us, hl with | [_, _, _], _ => rfl) fun cdv A outer s H E c ds hcd hT hn hr tk hp => ?_
  match ds, hn with
  | [v_day, v_begin, v_end], _ =>
  show BodyOk _ _ c _ _ .ra (m_minutes_on v_day v_begin v_end)
  unfold m_minutes_on
  exact body_D (s_ret (e_bi1 (c_sum rfl) sumD_calm F.b_sum bb_sum (JE.rb (e_lc hT rfl sc_minutes_on.nd (i_seq (e_var 0)) (own := [("first", 3), ("last", 4)]) (blkOk_by rfl) (fun _ _ _ _ _ => tg2 (i := 3) (j := 4) rfl sc_minutes_on.nd) (fun _ _ _ _ _ => rfl) rfl rfl (fun _ _ _ _ _ c hT v_t0 => (JE.sh (e_bi2 (c_max2 rfl hr.u65) max2D_calm F.b_max bb_max (JE.bo e_int) (JE.rb (e_op o_sub subD_calm (JE.rb (e_bi2 (c_min2 rfl hr.u65) min2D_calm F.b_min bb_min (JE.bo (e_var 4)) (JE.bo (e_var 2)))) (JE.rb (e_bi2 (c_max2 rfl hr.u65) max2D_calm F.b_max bb_max (JE.bo (e_var 3)) (JE.bo (e_var 1)))))))))))))
theorem sc_told_up_to : FnScope ["open_hours", "week", "moment", "weeks", "rest", "number", "day"] ["open_hours", "week", "moment"] (defScope (top 23)) := ⟨rfl, rfl, rfl, by decide +kernel, rfl, by decide +kernel, by decide +kernel⟩
theorem ok_told_up_to (F : Fx K mg) (B : Tx K mg base T) : FnM P w K mg base T false 2 "told_up_to" false 3 .ra (un3 m_told_up_to) := by
  obtain ⟨a, fd, Fn, hm⟩ := F.f_told_up_to
  refine fnM_of (N := ["open_hours", "week", "moment", "weeks", "rest", "number", "day"]) Fn sc_told_up_to rfl hm (Fn.bindsN fun _ _ _ _ _ _ us hl => match us, hl with | [_, _, _], _ => rfl) fun cdv A outer s H E c ds hcd hT hn hr tk hp => ?_
  match ds, hn with
  | [v_open_hours, v_week, v_moment], _ =>
  show BodyOk _ _ c _ _ .ra (m_told_up_to v_open_hours v_week v_moment)
  unfold m_told_up_to
  exact body_D (s_par2 (i := 3) (j := 4) false false rfl sc_told_up_to.nd (JE.sh (e_op o_fdiv fdivD_calm (JE.bo (e_idx (JE.bo (e_var 2)) (JE.bo e_int))) (JE.bo (e_cInt (hm := F.i_DAYS))))) hT (fun c hT => (JE.sh (e_op o_mod modD_calm (JE.bo (e_idx (JE.bo (e_var 2)) (JE.bo e_int))) (JE.bo (e_cInt (hm := F.i_DAYS)))))) (fun v_weeks2 v_rest3 => (s_set (i := 5) sc_told_up_to.nd (JE.sh (e_op o_add addD_calm (JE.rb (e_op o_mul mulD_calm (JE.bo (e_var 3)) (JE.bo (e_var 1)))) (JE.rb (e_bi1 (c_sum rfl) sumD_calm F.b_sum bb_sum (JE.rb (e_lc hT rfl sc_told_up_to.nd (i_seq (JE.sh (e_slice (JE.bo (e_var 0)) p_none (p_some (JE.bo (e_var 4)))))) (own := [("day", 6)]) (blkOk_by rfl) (fun _ _ _ _ _ => tg1 (i := 6) sc_told_up_to.nd) (fun _ _ _ _ _ => rfl) rfl rfl (fun _ _ _ _ _ c hT v_t4 => (JE.sh (JE.eq (e_call hT (ok_minutes_on F B) hr.on L2.takes0 (s_cons (e_var 6) (s_cons e_int (s_cons (e_cInt (hm := F.i_MINUTES)) s_nil)))) (ap_un3 _ _ _ _)))))))))) (fun v_number5 => (s_ret (e_op o_add addD_calm (JE.bo (e_var 5)) (JE.rb (JE.eq (e_call hT (ok_minutes_on F B) hr.on tk (s_cons (e_idx (JE.bo (e_var 0)) (JE.bo (e_var 4))) (s_cons e_int (s_cons (e_idx (JE.bo (e_var 2)) (JE.bo e_int)) s_nil)))) (ap_un3 _ _ _ _)))))))))
theorem sc_open_minutes : FnScope ["open_hours", "first", "last", "week", "day"] ["open_hours", "first", "last"] (defScope (top 22)) := ⟨rfl, rfl, rfl, by decide +kernel, rfl, by decide +kernel, by decide +kernel⟩
theorem ok_open_minutes (F : Fx K mg) (B : Tx K mg base T) : FnM P w K mg base T false 6 "open_minutes" false 3 .ra (un3 m_open_minutes) := by
  obtain ⟨a, fd, Fn, hm⟩ := F.f_open_minutes
  refine fnM_of (N := ["open_hours", "first", "last", "week", "day"]) Fn sc_open_minutes rfl hm (Fn.bindsN fun _ _ _ _ _ _ us hl => match us, hl with | [_, _, _], _ => rfl) fun cdv A outer s H E c ds hcd hT hn hr tk hp => ?_
  match ds, hn with
  | [v_open_hours, v_first, v_last], _ =>
  show BodyOk _ _ c _ _ .ra (m_open_minutes v_open_hours v_first v_last)
  unfold m_open_minutes
  exact body_D (s_expr (JE.eq (e_call hT (ok_check_open F B) hr.on tk (s_cons (e_var 0) s_nil)) (ap_un1 _ _)) (s_expr (JE.eq (e_call hT (ok_check_moment F B) hr.on tk (s_cons (e_var 1) s_nil)) (ap_un1 _ _)) (s_expr (JE.eq (e_call hT (ok_check_moment F B) hr.on tk (s_cons (e_var 2) s_nil)) (ap_un1 _ _)) (s_ifD (t_cmp (o_lt hr.u64) ordD_calm ordD_bl (JE.bo (e_var 2)) (JE.bo (e_var 1))) (s_raiseF "NotBehind" rfl tk F.x_NotBehind) (s_set (i := 3) sc_open_minutes.nd (JE.sh (e_bi1 (c_sum rfl) sumD_calm F.b_sum bb_sum (JE.rb (e_lc hT rfl sc_open_minutes.nd (i_seq (e_var 0)) (own := [("day", 4)]) (blkOk_by rfl) (fun _ _ _ _ _ => tg1 (i := 4) sc_open_minutes.nd) (fun _ _ _ _ _ => rfl) rfl rfl (fun _ _ _ _ _ c hT v_t0 => (JE.sh (JE.eq (e_call hT (ok_minutes_on F B) hr.on L2.takes0 (s_cons (e_var 4) (s_cons e_int (s_cons (e_cInt (hm := F.i_MINUTES)) s_nil)))) (ap_un3 _ _ _ _)))))))) (fun v_week1 => (s_ret (e_op o_sub subD_calm (JE.rb (JE.eq (e_call hT (ok_told_up_to F B) hr.on tk (s_cons (e_var 0) (s_cons (e_var 3) (s_cons (e_var 2) s_nil)))) (ap_un3 _ _ _ _))) (JE.rb (JE.eq (e_call hT (ok_told_up_to F B) hr.on tk (s_cons (e_var 0) (s_cons (e_var 3) (s_cons (e_var 1) s_nil)))) (ap_un3 _ _ _ _)))))))))))
theorem sc_shut_spans : FnScope ["open_hours", "spans", "at", "day", "behind", "one", "other", "begin", "end"] ["open_hours"] (defScope (top 24)) := ⟨rfl, rfl, rfl, by decide +kernel, rfl, by decide +kernel, by decide +kernel⟩
theorem ok_shut_spans (F : Fx K mg) (B : Tx K mg base T) : FnM P w K mg base T false 1 "shut_spans" false 1 .ra (un1 m_shut_spans) := by
  obtain ⟨a, fd, Fn, hm⟩ := F.f_shut_spans
  refine fnM_of (N := ["open_hours", "spans", "at", "day", "behind", "one", "other", "begin", "end"]) Fn sc_shut_spans rfl hm (Fn.bindsN fun _ _ _ _ _ _ us hl => match us, hl with | [_], _ => rfl) fun cdv A outer s H E c ds hcd hT hn hr tk hp => ?_
  match ds, hn with
  | [v_open_hours], _ =>
  show BodyOk _ _ c _ _ .ra (m_shut_spans v_open_hours)
  unfold m_shut_spans
  exact body_D (s_setO (i := 1) sc_shut_spans.nd (e_lst s_nil) (fun v_spans1 => (s_for (k := (fun (s : List D) => ([.sh v_open_hours, .ow (.lst s), .no, .no, .no, .no, .no, .no, .no] : List Sl))) v_spans1 hp rfl (i_enum (e_var 0) F.b_enumerate) (tg2 (i := 2) (j := 3) rfl sc_shut_spans.nd) ⟨.inl rfl, .inl rfl, .inl rfl, .inl rfl, .inl rfl, .inl rfl, .inl rfl, .inl rfl, .inl rfl, True.intro⟩ (fun _ => rfl) hT (fun c hT v_s2 v_t3 => (s_ext 1 (JE.rb (e_lc hT rfl sc_shut_spans.nd (i_seq (e_var 3)) (own := [("begin", 7), ("end", 8)]) (blkOk_by rfl) (fun _ _ _ _ _ => tg2 (i := 7) (j := 8) rfl sc_shut_spans.nd) (fun _ _ _ _ _ => rfl) rfl rfl (fun _ _ _ _ _ c hT v_t4 => (e_tup (s_cons (JE.sh (e_op o_add addD_calm (JE.rb (e_op o_mul mulD_calm (JE.bo (e_var 2)) (JE.bo (e_cInt (hm := F.i_MINUTES))))) (JE.bo (e_var 7)))) (s_cons (JE.sh (e_op o_add addD_calm (JE.rb (e_op o_mul mulD_calm (JE.bo (e_var 2)) (JE.bo (e_cInt (hm := F.i_MINUTES))))) (JE.bo (e_var 8)))) s_nil)))))) (fun v_spans6 => (s_nil' v_spans6 ⟨.inl rfl, .inl rfl, .inr rfl, .inr rfl, .inl rfl, .inl rfl, .inl rfl, .inl rfl, .inl rfl, True.intro⟩)))) (fun v_s7 => (s_set (i := 4) sc_shut_spans.nd (e_if (t_cmp (o_ne hr.u64) neD_calm neD_bl (b_var 1) (JE.rb (e_lst s_nil))) (JE.sh (e_op o_add addD_calm (JE.rb (e_slice (b_var 1) (p_some (JE.bo e_int)) p_none)) (JE.rb (e_lst (s_cons (e_tup (s_cons (JE.sh (e_op o_add addD_calm (JE.bo (e_idx (JE.bo (e_idx (b_var 1) (JE.bo e_int))) (JE.bo e_int))) (JE.rb (e_op o_mul mulD_calm (JE.bo (e_cInt (hm := F.i_DAYS))) (JE.bo (e_cInt (hm := F.i_MINUTES))))))) (s_cons e_int s_nil))) s_nil))))) (JE.sh (e_lst s_nil))) (fun v_behind8 => (s_frz 1 rfl (s_ret (e_lc hT rfl sc_shut_spans.nd (i_zip (e_var 1) (e_var 4) F.b_zip) (own := [("one", 5), ("other", 6)]) (blkOk_by rfl) (fun _ _ _ _ _ => tg2 (i := 5) (j := 6) rfl sc_shut_spans.nd) (fun _ _ _ _ _ => rfl) rfl rfl (fun _ _ _ _ _ c hT v_t9 => (JE.sh (e_op o_sub subD_calm (JE.bo (e_idx (JE.bo (e_var 6)) (JE.bo e_int))) (JE.bo (e_idx (JE.bo (e_var 5)) (JE.bo e_int)))))))))))))))
theorem sc_longest_shut : FnScope ["open_hours", "spans"] ["open_hours"] (defScope (top 25)) := ⟨rfl, rfl, rfl, by decide +kernel, rfl, by decide +kernel, by decide +kernel⟩
theorem ok_longest_shut (F : Fx K mg) (B : Tx K mg base T) : FnM P w K mg base T false 6 "longest_shut" false 1 .sh (un1 m_longest_shut) := by
  obtain ⟨a, fd, Fn, hm⟩ := F.f_longest_shut
  refine fnM_of (N := ["open_hours", "spans"]) Fn sc_longest_shut rfl hm (Fn.bindsN fun _ _ _ _ _ _ us hl => match us, hl with | [_], _ => rfl) fun cdv A outer s H E c ds hcd hT hn hr tk hp => ?_
  match ds, hn with
  | [v_open_hours], _ =>
  show BodyOk _ _ c _ _ .sh (m_longest_shut v_open_hours)
  unfold m_longest_shut
  exact body_D (s_expr (JE.eq (e_call hT (ok_check_open F B) hr.on tk (s_cons (e_var 0) s_nil)) (ap_un1 _ _)) (s_set (i := 1) sc_longest_shut.nd (JE.sh (JE.eq (e_call hT (ok_shut_spans F B) hr.on tk (s_cons (e_var 0) s_nil)) (ap_un1 _ _))) (fun v_spans0 => (s_ret (e_if (t_cmp (o_ne hr.u64) neD_calm neD_bl (JE.bo (e_var 1)) (JE.rb (e_lst s_nil))) (JE.sh (e_bi1 (c_maxL rfl hr.u65) maxLD_calm F.b_max bb_max (JE.bo (e_var 1)))) e_non)))))
theorem sc_common_stretches : FnScope ["one", "other", "pairs", "first", "second", "pair"] ["one", "other"] (defScope (top 26)) := ⟨rfl, rfl, rfl, by decide +kernel, rfl, by decide +kernel, by decide +kernel⟩
theorem ok_common_stretches (F : Fx K mg) (B : Tx K mg base T) : FnM P w K mg base T false 1 "common_stretches" false 2 .ra (un2 m_common_stretches) := by
  obtain ⟨a, fd, Fn, hm⟩ := F.f_common_stretches
  refine fnM_of (N := ["one", "other", "pairs", "first", "second", "pair"]) Fn sc_common_stretches rfl hm (Fn.bindsN fun _ _ _ _ _ _ us hl => match us, hl with | [_, _], _ => rfl) fun cdv A outer s H E c ds hcd hT hn hr tk hp => ?_
  match ds, hn with
  | [v_one, v_other], _ =>
  show BodyOk _ _ c _ _ .ra (m_common_stretches v_one v_other)
  unfold m_common_stretches
  exact body_D (s_setL2 (i := 2) hT rfl sc_common_stretches.nd (i_seq (e_var 0)) (own := [("first", 3), ("second", 4)]) (blkOk_by rfl) (fun _ _ _ _ _ => tg1 (i := 3) sc_common_stretches.nd) (fun _ _ _ _ _ => rfl) (by decide) (fun _ _ _ _ _ => tg1 (i := 4) sc_common_stretches.nd) (fun _ _ _ _ _ => rfl) (by decide) rfl rfl (fun _ => rfl) (fun _ => rfl) (fun _ _ _ _ _ => tc_nil) (fun _ _ _ _ _ c hT v_t0 => (i_seq (e_var 1))) (fun _ _ _ _ _ => tk_nil) (fun _ _ _ _ _ c hT v_t0 v_u1 => (e_tup (s_cons (JE.sh (e_bi2 (c_max2 rfl hr.u65) max2D_calm F.b_max bb_max (JE.bo (e_idx (JE.bo (e_var 3)) (JE.bo e_int))) (JE.bo (e_idx (JE.bo (e_var 4)) (JE.bo e_int))))) (s_cons (JE.sh (e_bi2 (c_min2 rfl hr.u65) min2D_calm F.b_min bb_min (JE.bo (e_idx (JE.bo (e_var 3)) (JE.bo e_int))) (JE.bo (e_idx (JE.bo (e_var 4)) (JE.bo e_int))))) s_nil)))) (Nat.le_of_ble_eq_true rfl) rfl rfl (sw_true rfl rfl rfl rfl) (fun v_pairs2 => (s_ret (e_ty1 c_tuple tupleD_calm F.b_tuple bb_tuple (JE.rb (e_bi1 c_sortQ sortQD_calm F.b_sorted PyProof.Rows.boot_sorted (JE.rb (e_lf hT rfl sc_common_stretches.nd (i_seq (e_var 2)) (own := [("pair", 5)]) (blkOk_by rfl) (fun _ _ _ _ _ => tg1 (i := 5) sc_common_stretches.nd) (fun _ _ _ _ _ => rfl) rfl rfl (fun _ _ _ _ _ c hT v_t3 => (t_cmp (o_lt hr.u64) ordD_calm ordD_bl (JE.bo (e_idx (JE.bo (e_var 5)) (JE.bo e_int))) (JE.bo (e_idx (JE.bo (e_var 5)) (JE.bo e_int))))) (fun _ _ _ _ _ c hT v_t3 => (e_var 5))))))))))
theorem sc_at_once : FnScope ["open_hours", "others", "one", "other"] ["open_hours", "others"] (defScope (top 27)) := ⟨rfl, rfl, rfl, by decide +kernel, rfl, by decide +kernel, by decide +kernel⟩
theorem ok_at_once (F : Fx K mg) (B : Tx K mg base T) : FnM P w K mg base T false 6 "at_once" false 2 .ra (un2 m_at_once) := by
  obtain ⟨a, fd, Fn, hm⟩ := F.f_at_once
  refine fnM_of (N := ["open_hours", "others", "one", "other"]) Fn sc_at_once rfl hm (Fn.bindsN fun _ _ _ _ _ _ us hl => match us, hl with | [_, _], _ => rfl) fun cdv A outer s H E c ds hcd hT hn hr tk hp => ?_
  match ds, hn with
  | [v_open_hours, v_others], _ =>
  show BodyOk _ _ c _ _ .ra (m_at_once v_open_hours v_others)
  unfold m_at_once
  exact body_D (s_expr (JE.eq (e_call hT (ok_check_open F B) hr.on tk (s_cons (e_var 0) s_nil)) (ap_un1 _ _)) (s_expr (JE.eq (e_call hT (ok_check_open F B) hr.on tk (s_cons (e_var 1) s_nil)) (ap_un1 _ _)) (s_ret (e_ty1 c_tuple tupleD_calm F.b_tuple bb_tuple (JE.rb (e_lc hT rfl sc_at_once.nd (i_zip (e_var 0) (e_var 1) F.b_zip) (own := [("one", 2), ("other", 3)]) (blkOk_by rfl) (fun _ _ _ _ _ => tg2 (i := 2) (j := 3) rfl sc_at_once.nd) (fun _ _ _ _ _ => rfl) rfl rfl (fun _ _ _ _ _ c hT v_t0 => (JE.sh (JE.eq (e_call hT (ok_common_stretches F B) hr.on L2.takes0 (s_cons (e_var 2) (s_cons (e_var 3) s_nil))) (ap_un2 _ _ _))))))))))
theorem sc_days_open : FnScope ["open_hours", "at", "day"] ["open_hours"] (defScope (top 28)) := ⟨rfl, rfl, rfl, by decide +kernel, rfl, by decide +kernel, by decide +kernel⟩
theorem ok_days_open (F : Fx K mg) (B : Tx K mg base T) : FnM P w K mg base T false 6 "days_open" false 1 .ra (un1 m_days_open) := by
  obtain ⟨a, fd, Fn, hm⟩ := F.f_days_open
  refine fnM_of (N := ["open_hours", "at", "day"]) Fn sc_days_open rfl hm (Fn.bindsN fun _ _ _ _ _ _ us hl => match us, hl with | [_], _ => rfl) fun cdv A outer s H E c ds hcd hT hn hr tk hp => ?_
  match ds, hn with
  | [v_open_hours], _ =>
  show BodyOk _ _ c _ _ .ra (m_days_open v_open_hours)
  unfold m_days_open
  exact body_D (s_expr (JE.eq (e_call hT (ok_check_open F B) hr.on tk (s_cons (e_var 0) s_nil)) (ap_un1 _ _)) (s_ret (e_ty1 c_tuple tupleD_calm F.b_tuple bb_tuple (JE.rb (e_lf hT rfl sc_days_open.nd (i_enum (e_var 0) F.b_enumerate) (own := [("at", 1), ("day", 2)]) (blkOk_by rfl) (fun _ _ _ _ _ => tg2 (i := 1) (j := 2) rfl sc_days_open.nd) (fun _ _ _ _ _ => rfl) rfl rfl (fun _ _ _ _ _ c hT v_t0 => (t_cmp (o_ne hr.u64) neD_calm neD_bl (JE.bo (e_var 2)) (JE.bo (e_tup s_nil)))) (fun _ _ _ _ _ c hT v_t0 => (e_var 1)))))))
theorem sc_law_bag : FnScope ["script", "cells", "cell"] ["script"] (defScope (top 30)) := ⟨rfl, rfl, rfl, by decide +kernel, rfl, by decide +kernel, by decide +kernel⟩
theorem ok_law_bag (F : Fx K mg) (B : Tx K mg base T) : FnM P w K mg base T false 1 "_law_bag" false 1 .ra (un1 m_law_bag) := by
  obtain ⟨a, fd, Fn, hm⟩ := F.f__law_bag
  refine fnM_of (N := ["script", "cells", "cell"]) Fn sc_law_bag rfl hm (Fn.bindsN fun _ _ _ _ _ _ us hl => match us, hl with | [_], _ => rfl) fun cdv A outer s H E c ds hcd hT hn hr tk hp => ?_
  match ds, hn with
  | [v_script], _ =>
  show BodyOk _ _ c _ _ .ra (m_law_bag v_script)
  unfold m_law_bag
  exact body_D (s_setLc (i := 1) hT rfl sc_law_bag.nd (i_seq (JE.sh (e_slice (JE.bo (e_var 0)) p_none (p_some (JE.bo e_int))))) (own := [("cell", 2)]) (blkOk_by rfl) (fun _ _ _ _ _ => tg1 (i := 2) sc_law_bag.nd) (fun _ _ _ _ _ => rfl) rfl rfl (fun _ _ _ _ _ c hT v_t0 => (JE.sh (e_bi1 c_abs absD_calm F.b_abs bb_abs (JE.rb (e_ty1 c_int intD_calm F.b_int bb_int (JE.bo (e_var 2))))))) (Nat.le_of_ble_eq_true rfl) rfl rfl (sw_true rfl rfl rfl rfl) (fun v_cells1 => (s_ret (e_lst (s_cons (e_var 1) (s_cons e_int (s_cons e_int (s_cons (JE.sh (e_op o_add addD_calm (JE.bo e_int) (JE.rb (e_op o_mul mulD_calm (JE.bo e_int) (JE.rb (e_bi1 c_len lenD_calm F.b_len bb_len (JE.bo (e_var 1)))))))) (s_cons e_int s_nil)))))))))
theorem sc_law_pick : FnScope ["bag", "many", "cell", "digit", "number"] ["bag", "many"] (defScope (top 31)) := ⟨rfl, rfl, rfl, by decide +kernel, rfl, by decide +kernel, by decide +kernel⟩
theorem ok_law_pick (F : Fx K mg) (B : Tx K mg base T) : FnM P w K mg base T false 1 "_law_pick" true 1 .sh (un1 m_law_pick) := by
  obtain ⟨a, fd, Fn, hm⟩ := F.f__law_pick
  refine draw_ok (N := ["bag", "many", "cell", "digit", "number"]) Fn sc_law_pick rfl rfl hm (Fn.bindsN fun _ _ _ _ _ _ us hl => match us, hl with | [_, _], _ => rfl) (fun cdv A outer s H E => ?_) (seed_a (A := 69621) (B := 40692) (C := 37) (M := 2147483629) (by decide) (by decide) (by decide) (by decide)) (mix_first (A := 7919) (B := 48271) (M := 2147483647) (by decide) (by decide) (by decide) (by decide)) (mix_step (A := 1009) (B := 69621) (M := 2147483647) (by decide) (by decide) (by decide)) (mix_step (A := 2003) (B := 40014) (M := 2147483563) (by decide) (by decide) (by decide))
  have hN := sc_law_pick.nd
  exact pss_cons (r_if (q_and (q_eq (q_item 2) q_int) (q_lt (q_item 1) (q_len F.b_len))) (pss_cons (r_set 2 hN (q_cell (q_item 1))) (pss_cons (r_put 1 (q_add (q_item 1) q_int)) (pss_cons (r_put 3 (q_mod (q_toInt F.b_int (q_add (q_add (q_mul (q_item 3) q_int) (q_mul (q_var 2) q_int)) q_int)) q_int)) (pss_one (r_if (q_ge (q_var 2) (q_pow q_int q_int)) (pss_one (r_put 2 (q_var 2))) pss_nil))))) pss_nil) (pss_cons (r_if (q_gt (q_item 2) q_int) (pss_cons (r_set 3 hN (q_mod (q_toInt F.b_int (q_item 2)) (q_var 1))) (pss_cons (r_put 2 (q_div (q_item 2) (q_var 1))) (pss_one (r_ret (q_var 3))))) pss_nil) (pss_cons (r_put 4 (q_add (q_item 4) q_int)) (pss_cons (r_set 4 hN (q_mod (q_toInt F.b_int (q_mul (q_toInt F.b_int (q_add (q_item 3) (q_mul q_int (q_item 4)))) q_int)) q_int)) (pss_cons (r_set 4 hN (q_mod (q_toInt F.b_int (q_mul (q_var 4) (q_add (q_div (q_var 4) q_int) q_int))) q_int)) (pss_cons (r_set 4 hN (q_mod (q_toInt F.b_int (q_mul (q_var 4) (q_add (q_div (q_var 4) q_int) q_int))) q_int)) (pss_one (r_ret (q_mod (q_toInt F.b_int (q_div (q_var 4) q_int)) (q_var 1)))))))))
theorem sc_law_some : FnScope ["bag", "things"] ["bag", "things"] (defScope (top 32)) := ⟨rfl, rfl, rfl, by decide +kernel, rfl, by decide +kernel, by decide +kernel⟩
theorem ok_law_some (F : Fx K mg) (B : Tx K mg base T) : FnM P w K mg base T false 2 "_law_some" true 1 .sh (un1 m_law_some) := by
  obtain ⟨a, fd, Fn, hm⟩ := F.f__law_some
  refine fnM_of (N := ["bag", "things"]) Fn sc_law_some rfl hm (Fn.bindsN fun _ _ _ _ _ _ us hl => match us, hl with | [_, _], _ => rfl) fun cdv A outer s H E c ds hcd hT hn hr tk hp => ?_
  match ds, hn with
  | [v_things], _ =>
  show BodyOk _ _ c _ _ .sh (m_law_some v_things)
  unfold m_law_some
  exact body_D (s_ret (e_idx (JE.bo (e_var 1)) (JE.bo (JE.eq (e_callH 0 hT (ok_law_pick F B) hr.on tk (s_cons (JE.sh (e_bi1 c_len lenD_calm F.b_len bb_len (JE.bo (e_var 1)))) s_nil)) (ap_un1 _ _)))))
theorem sc_law_day : FnScope ["bag", "marks", "found", "last", "begin", "end", "lap"] ["bag"] (defScope (top 33)) := ⟨rfl, rfl, rfl, by decide +kernel, rfl, by decide +kernel, by decide +kernel⟩
theorem ok_law_day (F : Fx K mg) (B : Tx K mg base T) : FnM P w K mg base T false 3 "_law_day" true 0 .ra (un0 m_law_day) := by
  obtain ⟨a, fd, Fn, hm⟩ := F.f__law_day
  refine fnM_of (N := ["bag", "marks", "found", "last", "begin", "end", "lap"]) Fn sc_law_day rfl hm (Fn.bindsN fun _ _ _ _ _ _ us hl => match us, hl with | [_], _ => rfl) fun cdv A outer s H E c ds hcd hT hn hr tk hp => ?_
  match ds, hn with
  | [], _ =>
  show BodyOk _ _ c _ _ .ra (m_law_day )
  unfold m_law_day
  exact body_D (s_set (i := 1) sc_law_day.nd (JE.sh (e_bi1 c_sortQ sortQD_calm F.b_sorted PyProof.Rows.boot_sorted (JE.rb (e_lc hT rfl sc_law_day.nd (i_rng1 (JE.bo e_int) F.b_range) (own := [("lap", 6)]) (blkOk_by rfl) (fun _ _ _ _ _ => tg1 (i := 6) sc_law_day.nd) (fun _ _ _ _ _ => rfl) rfl rfl (fun _ _ _ _ _ c hT v_t0 => (JE.eq (e_callH 0 hT (ok_law_some F B) hr.on L2.takes0 (s_cons (JE.sh (e_lst (s_cons e_int (s_cons e_int (s_cons (JE.eq (e_callH 0 hT (ok_law_pick F B) hr.on L2.takes0 (s_cons e_int s_nil)) (ap_un1 _ _)) (s_cons (JE.eq (e_callH 0 hT (ok_law_pick F B) hr.on L2.takes0 (s_cons e_int s_nil)) (ap_un1 _ _)) s_nil)))))) s_nil)) (ap_un1 _ _))))))) (fun v_marks1 => (s_par2 (i := 2) (j := 3) true false rfl sc_law_day.nd (e_lst s_nil) hT (fun c hT => (JE.sh (e_un o_neg negD_calm (JE.bo e_int)))) (fun v_found4 v_last5 => (s_for (k := (fun (s : D × List D) => ([.hd, .sh v_marks1, .ow (.lst s.2), .sh s.1, .no, .no, .no] : List Sl))) (v_last5, v_found4) hp rfl (i_zip (JE.sh (e_step 2 (JE.bo (e_var 1)) p_none (JE.bo e_int))) (JE.sh (e_step 2 (JE.bo (e_var 1)) (p_some (JE.bo e_int)) (JE.bo e_int))) F.b_zip) (tg2 (i := 4) (j := 5) rfl sc_law_day.nd) ⟨.inl rfl, .inl rfl, .inl rfl, .inl rfl, .inl rfl, .inl rfl, .inl rfl, True.intro⟩ (fun _ => rfl) hT (fun c hT v_s6 v_t7 => (s_if (k := (fun (s : D × List D) => ([.hd, .sh v_marks1, .ow (.lst s.2), .sh s.1, .sh v_t7.1, .sh v_t7.2, .no] : List Sl))) (t_w (w_and (t_cmp (o_gt hr.u64) ordD_calm ordD_bl (JE.bo (e_var 4)) (JE.bo (e_var 3))) (w_and (t_cmp (o_lt hr.u64) ordD_calm ordD_bl (JE.bo (e_var 4)) (JE.bo (e_var 5))) (w_and1 (t_cmp (o_gt hr.u64) ordD_calm ordD_bl (JE.bo (JE.eq (e_callH 0 hT (ok_law_pick F B) hr.on tk (s_cons e_int s_nil)) (ap_un1 _ _))) (JE.bo e_int)))))) (s_app 2 (e_tup (s_cons (e_var 4) (s_cons (e_var 5) s_nil))) (fun v_found9 => (s_set (i := 3) sc_law_day.nd (e_var 5) (fun v_last10 => (s_nil' (v_last10, v_found9) ⟨.inl rfl, .inl rfl, .inl rfl, .inl rfl, .inl rfl, .inl rfl, .inl rfl, True.intro⟩))))) (s_nil' (v_s6.1, v_s6.2) ⟨.inl rfl, .inl rfl, .inl rfl, .inl rfl, .inl rfl, .inl rfl, .inl rfl, True.intro⟩) (fun v_s11 => (s_nil' (v_s11.1, v_s11.2) ⟨.inl rfl, .inl rfl, .inl rfl, .inl rfl, .inr rfl, .inr rfl, .inl rfl, True.intro⟩)))) (fun v_s12 => (s_ret (e_ty1 c_tuple tupleD_calm F.b_tuple bb_tuple (b_var 2)))))))))
theorem sc_law_hours : FnScope ["bag", "some", "kind", "lap", "day"] ["bag"] (defScope (top 34)) := ⟨rfl, rfl, rfl, by decide +kernel, rfl, by decide +kernel, by decide +kernel⟩
theorem ok_law_hours (F : Fx K mg) (B : Tx K mg base T) : FnM P w K mg base T false 4 "_law_hours" true 0 .ra (un0 m_law_hours) := by
  obtain ⟨a, fd, Fn, hm⟩ := F.f__law_hours
  refine fnM_of (N := ["bag", "some", "kind", "lap", "day"]) Fn sc_law_hours rfl hm (Fn.bindsN fun _ _ _ _ _ _ us hl => match us, hl with | [_], _ => rfl) fun cdv A outer s H E c ds hcd hT hn hr tk hp => ?_
  match ds, hn with
  | [], _ =>
  show BodyOk _ _ c _ _ .ra (m_law_hours )
  unfold m_law_hours
  exact body_D (s_setLc (i := 1) hT rfl sc_law_hours.nd (i_rng1 (JE.bo e_int) F.b_range) (own := [("lap", 3)]) (blkOk_by rfl) (fun _ _ _ _ _ => tg1 (i := 3) sc_law_hours.nd) (fun _ _ _ _ _ => rfl) rfl rfl (fun _ _ _ _ _ c hT v_t0 => (JE.sh (JE.eq (e_callH 0 hT (ok_law_day F B) hr.on L2.takes0 s_nil) rfl))) (Nat.le_of_ble_eq_true rfl) rfl rfl (sw_true rfl rfl rfl rfl) (fun v_some1 => (s_set (i := 2) sc_law_hours.nd (JE.eq (e_callH 0 hT (ok_law_pick F B) hr.on tk (s_cons e_int s_nil)) (ap_un1 _ _)) (fun v_kind2 => (s_if (k := (fun (s : D) => ([.hd, .sh s, .sh v_kind2, .no, .no] : List Sl))) (t_cmp (o_eq hr.u64) eqD_calm eqD_bl (JE.bo (e_var 2)) (JE.bo e_int)) (s_setLc (i := 1) hT rfl sc_law_hours.nd (i_seq (e_var 1)) (own := [("day", 4)]) (blkOk_by rfl) (fun _ _ _ _ _ => tg1 (i := 4) sc_law_hours.nd) (fun _ _ _ _ _ => rfl) rfl rfl (fun _ _ _ _ _ c hT v_t3 => (e_if (t_cmp (o_eq hr.u64) eqD_calm eqD_bl (JE.bo (JE.eq (e_callH 0 hT (ok_law_pick F B) hr.on L2.takes0 (s_cons e_int s_nil)) (ap_un1 _ _))) (JE.bo e_int)) (e_var 4) (e_tup s_nil))) (Nat.le_of_ble_eq_true rfl) rfl rfl (sw_true rfl rfl rfl rfl) (fun v_some4 => (s_nil' v_some4 ⟨.inl rfl, .inl rfl, .inl rfl, .inl rfl, .inl rfl, True.intro⟩))) (s_if (k := (fun (s : D) => ([.hd, .sh s, .sh v_kind2, .no, .no] : List Sl))) (t_cmp (o_eq hr.u64) eqD_calm eqD_bl (JE.bo (e_var 2)) (JE.bo e_int)) (s_set (i := 1) sc_law_hours.nd (JE.sh (e_op o_mul mulD_calm (JE.rb (e_lst (s_cons (e_tup (s_cons (e_tup (s_cons e_int (s_cons e_int s_nil))) s_nil)) s_nil))) (JE.bo e_int))) (fun v_some5 => (s_nil' v_some5 ⟨.inl rfl, .inl rfl, .inl rfl, .inl rfl, .inl rfl, True.intro⟩))) (s_if (k := (fun (s : D) => ([.hd, .sh s, .sh v_kind2, .no, .no] : List Sl))) (t_cmp (o_eq hr.u64) eqD_calm eqD_bl (JE.bo (e_var 2)) (JE.bo e_int)) (s_set (i := 1) sc_law_hours.nd (JE.sh (e_op o_mul mulD_calm (JE.rb (e_lst (s_cons (e_tup s_nil) s_nil))) (JE.bo e_int))) (fun v_some6 => (s_nil' v_some6 ⟨.inl rfl, .inl rfl, .inl rfl, .inl rfl, .inl rfl, True.intro⟩))) (s_nil' v_some1 ⟨.inl rfl, .inl rfl, .inl rfl, .inl rfl, .inl rfl, True.intro⟩) (fun v_s7 => (s_nil' v_s7 ⟨.inl rfl, .inl rfl, .inl rfl, .inl rfl, .inl rfl, True.intro⟩))) (fun v_s8 => (s_nil' v_s8 ⟨.inl rfl, .inl rfl, .inl rfl, .inl rfl, .inl rfl, True.intro⟩))) (fun v_s9 => (s_ret (e_ty1 c_tuple tupleD_calm F.b_tuple bb_tuple (JE.bo (e_var 1))))))))))
theorem sc_law_stretches : FnScope ["hours", "found", "day", "pairs", "begin", "end"] ["hours"] (defScope (top 35)) := ⟨rfl, rfl, rfl, by decide +kernel, rfl, by decide +kernel, by decide +kernel⟩
theorem ok_law_stretches (F : Fx K mg) (B : Tx K mg base T) : FnM P w K mg base T false 1 "_law_stretches" false 1 .ra (un1 m_law_stretches) := by
  obtain ⟨a, fd, Fn, hm⟩ := F.f__law_stretches
  refine fnM_of (N := ["hours", "found", "day", "pairs", "begin", "end"]) Fn sc_law_stretches rfl hm (Fn.bindsN fun _ _ _ _ _ _ us hl => match us, hl with | [_], _ => rfl) fun cdv A outer s H E c ds hcd hT hn hr tk hp => ?_
  match ds, hn with
  | [v_hours], _ =>
  show BodyOk _ _ c _ _ .ra (m_law_stretches v_hours)
  unfold m_law_stretches
  exact body_D (s_setO (i := 1) sc_law_stretches.nd (e_lst s_nil) (fun v_found1 => (s_for (k := (fun (s : List D) => ([.sh v_hours, .ow (.lst s), .no, .no, .no, .no] : List Sl))) v_found1 hp rfl (i_enum (e_var 0) F.b_enumerate) (tg2 (i := 2) (j := 3) rfl sc_law_stretches.nd) ⟨.inl rfl, .inl rfl, .inl rfl, .inl rfl, .inl rfl, .inl rfl, True.intro⟩ (fun _ => rfl) hT (fun c hT v_s2 v_t3 => (s_for (k := (fun (s : List D) => ([.sh v_hours, .ow (.lst s), .sh v_t3.1, .sh v_t3.2, .no, .no] : List Sl))) v_s2 hp rfl (i_seq (e_var 3)) (tg2 (i := 4) (j := 5) rfl sc_law_stretches.nd) ⟨.inl rfl, .inl rfl, .inl rfl, .inl rfl, .inl rfl, .inl rfl, True.intro⟩ (fun _ => rfl) hT (fun c hT v_s4 v_t5 => (s_if (k := (fun (s : List D) => ([.sh v_hours, .ow (.lst s), .sh v_t3.1, .sh v_t3.2, .sh v_t5.1, .sh v_t5.2] : List Sl))) (t_w (w_and (t_cmp (o_gt hr.u64) ordD_calm ordD_bl (JE.rb (e_bi1 c_len lenD_calm F.b_len bb_len (b_var 1))) (JE.bo e_int)) (w_and1 (t_cmp (o_eq hr.u64) eqD_calm eqD_bl (JE.bo (e_idx (JE.bo (e_idx (b_var 1) (JE.rb (e_un o_neg negD_calm (JE.bo e_int))))) (JE.bo e_int))) (JE.rb (e_op o_add addD_calm (JE.rb (e_op o_mul mulD_calm (JE.bo e_int) (JE.bo (e_var 2)))) (JE.bo (e_var 4)))))))) (s_item 1 (e_tup (s_cons (e_idx (JE.bo (e_idx (b_var 1) (JE.rb (e_un o_neg negD_calm (JE.bo e_int))))) (JE.bo e_int)) (s_cons (JE.sh (e_op o_add addD_calm (JE.rb (e_op o_mul mulD_calm (JE.bo e_int) (JE.bo (e_var 2)))) (JE.bo (e_var 5)))) s_nil))) (JE.sh (e_un o_neg negD_calm (JE.bo e_int))) (fun v_found8 => (s_nil' v_found8 ⟨.inl rfl, .inl rfl, .inl rfl, .inl rfl, .inl rfl, .inl rfl, True.intro⟩))) (s_app 1 (e_tup (s_cons (JE.sh (e_op o_add addD_calm (JE.rb (e_op o_mul mulD_calm (JE.bo e_int) (JE.bo (e_var 2)))) (JE.bo (e_var 4)))) (s_cons (JE.sh (e_op o_add addD_calm (JE.rb (e_op o_mul mulD_calm (JE.bo e_int) (JE.bo (e_var 2)))) (JE.bo (e_var 5)))) s_nil))) (fun v_found10 => (s_nil' v_found10 ⟨.inl rfl, .inl rfl, .inl rfl, .inl rfl, .inl rfl, .inl rfl, True.intro⟩))) (fun v_s11 => (s_nil' v_s11 ⟨.inl rfl, .inl rfl, .inl rfl, .inl rfl, .inr rfl, .inr rfl, True.intro⟩)))) (fun v_s12 => (s_nil' v_s12 ⟨.inl rfl, .inl rfl, .inr rfl, .inr rfl, .inl rfl, .inl rfl, True.intro⟩)))) (fun v_s13 => (s_retO 1)))))
theorem sc_law_minutes : FnScope ["hours", "minute", "weeks", "rest", "whole", "part", "begin", "end"] ["hours", "minute"] (defScope (top 36)) := ⟨rfl, rfl, rfl, by decide +kernel, rfl, by decide +kernel, by decide +kernel⟩
theorem ok_law_minutes (F : Fx K mg) (B : Tx K mg base T) : FnM P w K mg base T false 2 "_law_minutes" false 2 .ra (un2 m_law_minutes) := by
  obtain ⟨a, fd, Fn, hm⟩ := F.f__law_minutes
  refine fnM_of (N := ["hours", "minute", "weeks", "rest", "whole", "part", "begin", "end"]) Fn sc_law_minutes rfl hm (Fn.bindsN fun _ _ _ _ _ _ us hl => match us, hl with | [_, _], _ => rfl) fun cdv A outer s H E c ds hcd hT hn hr tk hp => ?_
  match ds, hn with
  | [v_hours, v_minute], _ =>
  show BodyOk _ _ c _ _ .ra (m_law_minutes v_hours v_minute)
  unfold m_law_minutes
  exact body_D (s_set (i := 2) sc_law_minutes.nd (JE.sh (e_op o_fdiv fdivD_calm (JE.bo (e_var 1)) (JE.bo e_int))) (fun v_weeks0 => (s_set (i := 3) sc_law_minutes.nd (JE.sh (e_op o_sub subD_calm (JE.bo (e_var 1)) (JE.rb (e_op o_mul mulD_calm (JE.bo e_int) (JE.bo (e_var 2)))))) (fun v_rest1 => (s_set (i := 4) sc_law_minutes.nd (JE.sh (e_bi1 (c_sum rfl) sumD_calm F.b_sum bb_sum (JE.rb (e_lc hT rfl sc_law_minutes.nd (i_seq (JE.sh (JE.eq (e_call hT (ok_law_stretches F B) hr.on tk (s_cons (e_var 0) s_nil)) (ap_un1 _ _)))) (own := [("begin", 6), ("end", 7)]) (blkOk_by rfl) (fun _ _ _ _ _ => tg2 (i := 6) (j := 7) rfl sc_law_minutes.nd) (fun _ _ _ _ _ => rfl) rfl rfl (fun _ _ _ _ _ c hT v_t2 => (JE.sh (e_op o_sub subD_calm (JE.bo (e_var 7)) (JE.bo (e_var 6))))))))) (fun v_whole3 => (s_set (i := 5) sc_law_minutes.nd (JE.sh (e_bi1 (c_sum rfl) sumD_calm F.b_sum bb_sum (JE.rb (e_lc hT rfl sc_law_minutes.nd (i_seq (JE.sh (JE.eq (e_call hT (ok_law_stretches F B) hr.on tk (s_cons (e_var 0) s_nil)) (ap_un1 _ _)))) (own := [("begin", 6), ("end", 7)]) (blkOk_by rfl) (fun _ _ _ _ _ => tg2 (i := 6) (j := 7) rfl sc_law_minutes.nd) (fun _ _ _ _ _ => rfl) rfl rfl (fun _ _ _ _ _ c hT v_t4 => (JE.sh (e_bi2 (c_max2 rfl hr.u65) max2D_calm F.b_max bb_max (JE.bo e_int) (JE.rb (e_op o_sub subD_calm (JE.rb (e_bi2 (c_min2 rfl hr.u65) min2D_calm F.b_min bb_min (JE.bo (e_var 7)) (JE.bo (e_var 3)))) (JE.bo (e_var 6))))))))))) (fun v_part5 => (s_ret (e_op o_add addD_calm (JE.rb (e_op o_mul mulD_calm (JE.bo (e_var 2)) (JE.bo (e_var 4)))) (JE.bo (e_var 5))))))))))))
theorem sc_law_next : FnScope ["hours", "minute", "weeks", "week", "begin", "end"] ["hours", "minute"] (defScope (top 37)) := ⟨rfl, rfl, rfl, by decide +kernel, rfl, by decide +kernel, by decide +kernel⟩
theorem ok_law_next (F : Fx K mg) (B : Tx K mg base T) : FnM P w K mg base T false 2 "_law_next" false 2 .sh (un2 m_law_next) := by
  obtain ⟨a, fd, Fn, hm⟩ := F.f__law_next
  refine fnM_of (N := ["hours", "minute", "weeks", "week", "begin", "end"]) Fn sc_law_next rfl hm (Fn.bindsN fun _ _ _ _ _ _ us hl => match us, hl with | [_, _], _ => rfl) fun cdv A outer s H E c ds hcd hT hn hr tk hp => ?_
  match ds, hn with
  | [v_hours, v_minute], _ =>
  show BodyOk _ _ c _ _ .sh (m_law_next v_hours v_minute)
  unfold m_law_next
  exact body_D (s_set (i := 2) sc_law_next.nd (JE.sh (e_op o_fdiv fdivD_calm (JE.bo (e_var 1)) (JE.bo e_int))) (fun v_weeks0 => (s_forC (k := (fun (s : Unit) => ([.sh v_hours, .sh v_minute, .sh v_weeks0, .no, .no, .no] : List Sl))) () id rD hp rfl (i_seq (e_tup (s_cons (e_var 2) (s_cons (JE.sh (e_op o_add addD_calm (JE.bo (e_var 2)) (JE.bo e_int))) s_nil)))) (tg1 (i := 3) sc_law_next.nd) ⟨.inl rfl, .inl rfl, .inl rfl, .inl rfl, .inl rfl, .inl rfl, True.intro⟩ (fun _ => rfl) hT (fun c hT v_s1 v_t2 => (s_forC (k := (fun (s : Unit) => ([.sh v_hours, .sh v_minute, .sh v_weeks0, .sh v_t2, .no, .no] : List Sl))) () Ct.ret rC hp rfl (i_seq (JE.sh (JE.eq (e_call hT (ok_law_stretches F B) hr.on tk (s_cons (e_var 0) s_nil)) (ap_un1 _ _)))) (tg2 (i := 4) (j := 5) rfl sc_law_next.nd) ⟨.inl rfl, .inl rfl, .inl rfl, .inl rfl, .inl rfl, .inl rfl, True.intro⟩ (fun _ => rfl) hT (fun c hT v_s3 v_t4 => (s_ifR Ct.ret rC (t_cmp (o_lt hr.u64) ordD_calm ordD_bl (JE.bo (e_var 1)) (JE.rb (e_op o_add addD_calm (JE.rb (e_op o_mul mulD_calm (JE.bo e_int) (JE.bo (e_var 3)))) (JE.bo (e_var 5))))) (s_ret (JE.sh (e_bi2 (c_max2 rfl hr.u65) max2D_calm F.b_max bb_max (JE.bo (e_var 1)) (JE.rb (e_op o_add addD_calm (JE.rb (e_op o_mul mulD_calm (JE.bo e_int) (JE.bo (e_var 3)))) (JE.bo (e_var 4))))))) (s_nilC () ⟨.inl rfl, .inl rfl, .inl rfl, .inl rfl, .inr rfl, .inr rfl, True.intro⟩))) (fun v_s5 => (s_nilC () ⟨.inl rfl, .inl rfl, .inl rfl, .inr rfl, .inl rfl, .inl rfl, True.intro⟩)))) (fun v_s6 => (s_ret e_non)))))
theorem sc_law_longest : FnScope ["hours", "rows", "gaps", "one", "later"] ["hours"] (defScope (top 38)) := ⟨rfl, rfl, rfl, by decide +kernel, rfl, by decide +kernel, by decide +kernel⟩
theorem ok_law_longest (F : Fx K mg) (B : Tx K mg base T) : FnM P w K mg base T false 2 "_law_longest" false 1 .sh (un1 m_law_longest) := by
  obtain ⟨a, fd, Fn, hm⟩ := F.f__law_longest
  refine fnM_of (N := ["hours", "rows", "gaps", "one", "later"]) Fn sc_law_longest rfl hm (Fn.bindsN fun _ _ _ _ _ _ us hl => match us, hl with | [_], _ => rfl) fun cdv A outer s H E c ds hcd hT hn hr tk hp => ?_
  match ds, hn with
  | [v_hours], _ =>
  show BodyOk _ _ c _ _ .sh (m_law_longest v_hours)
  unfold m_law_longest
  exact body_D (s_set (i := 1) sc_law_longest.nd (JE.sh (JE.eq (e_call hT (ok_law_stretches F B) hr.on tk (s_cons (e_var 0) s_nil)) (ap_un1 _ _))) (fun v_rows0 => (s_ifD (t_cmp (o_eq hr.u64) eqD_calm eqD_bl (JE.rb (e_bi1 c_len lenD_calm F.b_len bb_len (JE.bo (e_var 1)))) (JE.bo e_int)) (s_ret e_non) (s_setLc (i := 2) hT rfl sc_law_longest.nd (i_zip (e_var 1) (JE.sh (e_slice (JE.bo (e_var 1)) (p_some (JE.bo e_int)) p_none)) F.b_zip) (own := [("one", 3), ("later", 4)]) (blkOk_by rfl) (fun _ _ _ _ _ => tg2 (i := 3) (j := 4) rfl sc_law_longest.nd) (fun _ _ _ _ _ => rfl) rfl rfl (fun _ _ _ _ _ c hT v_t1 => (JE.sh (e_op o_sub subD_calm (JE.bo (e_idx (JE.bo (e_var 4)) (JE.bo e_int))) (JE.bo (e_idx (JE.bo (e_var 3)) (JE.bo e_int)))))) (Nat.le_of_ble_eq_true rfl) rfl rfl (sw_true rfl rfl rfl rfl) (fun v_gaps2 => (s_ret (JE.sh (e_bi1 (c_maxL rfl hr.u65) maxLD_calm F.b_max bb_max (JE.rb (e_op o_add addD_calm (JE.bo (e_var 2)) (JE.rb (e_lst (s_cons (JE.sh (e_op o_sub subD_calm (JE.rb (e_op o_add addD_calm (JE.bo (e_idx (JE.bo (e_idx (JE.bo (e_var 1)) (JE.bo e_int))) (JE.bo e_int))) (JE.bo e_int))) (JE.bo (e_idx (JE.bo (e_idx (JE.bo (e_var 1)) (JE.rb (e_un o_neg negD_calm (JE.bo e_int))))) (JE.bo e_int))))) s_nil)))))))))))))
theorem sc_law_both : FnScope ["one", "other", "found", "begin", "end", "its", "last"] ["one", "other"] (defScope (top 39)) := ⟨rfl, rfl, rfl, by decide +kernel, rfl, by decide +kernel, by decide +kernel⟩
theorem ok_law_both (F : Fx K mg) (B : Tx K mg base T) : FnM P w K mg base T false 1 "_law_both" false 2 .ra (un2 m_law_both) := by
  obtain ⟨a, fd, Fn, hm⟩ := F.f__law_both
  refine fnM_of (N := ["one", "other", "found", "begin", "end", "its", "last"]) Fn sc_law_both rfl hm (Fn.bindsN fun _ _ _ _ _ _ us hl => match us, hl with | [_, _], _ => rfl) fun cdv A outer s H E c ds hcd hT hn hr tk hp => ?_
  match ds, hn with
  | [v_one, v_other], _ =>
  show BodyOk _ _ c _ _ .ra (m_law_both v_one v_other)
  unfold m_law_both
  exact body_D (s_setO (i := 2) sc_law_both.nd (e_lst s_nil) (fun v_found1 => (s_for (k := (fun (s : List D) => ([.sh v_one, .sh v_other, .ow (.lst s), .no, .no, .no, .no] : List Sl))) v_found1 hp rfl (i_seq (e_var 0)) (tg2 (i := 3) (j := 4) rfl sc_law_both.nd) ⟨.inl rfl, .inl rfl, .inl rfl, .inl rfl, .inl rfl, .inl rfl, .inl rfl, True.intro⟩ (fun _ => rfl) hT (fun c hT v_s2 v_t3 => (s_for (k := (fun (s : List D) => ([.sh v_one, .sh v_other, .ow (.lst s), .sh v_t3.1, .sh v_t3.2, .no, .no] : List Sl))) v_s2 hp rfl (i_seq (e_var 1)) (tg2 (i := 5) (j := 6) rfl sc_law_both.nd) ⟨.inl rfl, .inl rfl, .inl rfl, .inl rfl, .inl rfl, .inl rfl, .inl rfl, True.intro⟩ (fun _ => rfl) hT (fun c hT v_s4 v_t5 => (s_if (k := (fun (s : List D) => ([.sh v_one, .sh v_other, .ow (.lst s), .sh v_t3.1, .sh v_t3.2, .sh v_t5.1, .sh v_t5.2] : List Sl))) (t_cmp (o_lt hr.u64) ordD_calm ordD_bl (JE.rb (e_bi2 (c_max2 rfl hr.u65) max2D_calm F.b_max bb_max (JE.bo (e_var 3)) (JE.bo (e_var 5)))) (JE.rb (e_bi2 (c_min2 rfl hr.u65) min2D_calm F.b_min bb_min (JE.bo (e_var 4)) (JE.bo (e_var 6))))) (s_app 2 (e_tup (s_cons (JE.sh (e_bi2 (c_max2 rfl hr.u65) max2D_calm F.b_max bb_max (JE.bo (e_var 3)) (JE.bo (e_var 5)))) (s_cons (JE.sh (e_bi2 (c_min2 rfl hr.u65) min2D_calm F.b_min bb_min (JE.bo (e_var 4)) (JE.bo (e_var 6)))) s_nil))) (fun v_found7 => (s_nil' v_found7 ⟨.inl rfl, .inl rfl, .inl rfl, .inl rfl, .inl rfl, .inl rfl, .inl rfl, True.intro⟩))) (s_nil' v_s4 ⟨.inl rfl, .inl rfl, .inl rfl, .inl rfl, .inl rfl, .inl rfl, .inl rfl, True.intro⟩) (fun v_s8 => (s_nil' v_s8 ⟨.inl rfl, .inl rfl, .inl rfl, .inl rfl, .inl rfl, .inr rfl, .inr rfl, True.intro⟩)))) (fun v_s9 => (s_nil' v_s9 ⟨.inl rfl, .inl rfl, .inl rfl, .inr rfl, .inr rfl, .inl rfl, .inl rfl, True.intro⟩)))) (fun v_s10 => (s_ret (e_ty1 c_tuple tupleD_calm F.b_tuple bb_tuple (JE.rb (e_bi1 c_sortQ sortQD_calm F.b_sorted PyProof.Rows.boot_sorted (b_var 2)))))))))
theorem sc_law_moment : FnScope ["minute"] ["minute"] (defScope (top 40)) := ⟨rfl, rfl, rfl, by decide +kernel, rfl, by decide +kernel, by decide +kernel⟩
theorem ok_law_moment (F : Fx K mg) (B : Tx K mg base T) : FnM P w K mg base T false 1 "_law_moment" false 1 .sh (un1 m_law_moment) := by
  obtain ⟨a, fd, Fn, hm⟩ := F.f__law_moment
  refine fnM_of (N := ["minute"]) Fn sc_law_moment rfl hm (Fn.bindsN fun _ _ _ _ _ _ us hl => match us, hl with | [_], _ => rfl) fun cdv A outer s H E c ds hcd hT hn hr tk hp => ?_
  match ds, hn with
  | [v_minute], _ =>
  show BodyOk _ _ c _ _ .sh (m_law_moment v_minute)
  unfold m_law_moment
  exact body_D (s_ret (e_tup (s_cons (JE.sh (e_op o_fdiv fdivD_calm (JE.bo (e_var 0)) (JE.bo e_int))) (s_cons (JE.sh (e_op o_sub subD_calm (JE.bo (e_var 0)) (JE.rb (e_op o_mul mulD_calm (JE.bo e_int) (JE.rb (e_op o_fdiv fdivD_calm (JE.bo (e_var 0)) (JE.bo e_int))))))) s_nil))))
theorem sc_law_deep : FnScope ["bag", "found", "lap"] ["bag"] (defScope (top 41)) := ⟨rfl, rfl, rfl, by decide +kernel, rfl, by decide +kernel, by decide +kernel⟩
theorem ok_law_deep (F : Fx K mg) (B : Tx K mg base T) : FnM P w K mg base T false 3 "_law_deep" true 0 .sh (un0 m_law_deep) := by
  obtain ⟨a, fd, Fn, hm⟩ := F.f__law_deep
  refine fnM_of (N := ["bag", "found", "lap"]) Fn sc_law_deep rfl hm (Fn.bindsN fun _ _ _ _ _ _ us hl => match us, hl with | [_], _ => rfl) fun cdv A outer s H E c ds hcd hT hn hr tk hp => ?_
  match ds, hn with
  | [], _ =>
  show BodyOk _ _ c _ _ .sh (m_law_deep )
  unfold m_law_deep
  exact body_D (s_set (i := 1) sc_law_deep.nd (JE.eq (e_callH 0 hT (ok_law_some F B) hr.on tk (s_cons (JE.sh (e_lst (s_cons e_non (s_cons (e_str [63]) (s_cons e_bl s_nil))))) s_nil)) (ap_un1 _ _)) (fun v_found0 => (s_for (k := (fun (s : D) => ([.hd, .sh s, .no] : List Sl))) v_found0 hp rfl (i_rng1 (JE.rb (e_op o_add addD_calm (JE.bo e_int) (JE.bo (JE.eq (e_callH 0 hT (ok_law_pick F B) hr.on tk (s_cons e_int s_nil)) (ap_un1 _ _))))) F.b_range) (tg1 (i := 2) sc_law_deep.nd) ⟨.inl rfl, .inl rfl, .inl rfl, True.intro⟩ (fun _ => rfl) hT (fun c hT v_s1 v_t2 => (s_set (i := 1) sc_law_deep.nd (e_idx (JE.rb (e_lst (s_cons (e_tup (s_cons (e_var 1) s_nil)) (s_cons (JE.sh (e_lst (s_cons (e_var 1) s_nil))) (s_cons (JE.sh (e_d1 hT (fun c hT => e_int) (fun c hT => (e_var 1)))) s_nil))))) (JE.bo (JE.eq (e_callH 0 hT (ok_law_pick F B) hr.on tk (s_cons e_int s_nil)) (ap_un1 _ _)))) (fun v_found3 => (s_nil' v_found3 ⟨.inl rfl, .inl rfl, .inr rfl, True.intro⟩)))) (fun v_s4 => (s_ret (e_var 1))))))
theorem sc_law_word : FnScope ["call", "fault", "flags"] ["call"] (defScope (top 42)) := ⟨rfl, rfl, rfl, by decide +kernel, rfl, by decide +kernel, by decide +kernel⟩
theorem gv_law_word {X : Cx} {gA : Addr} {cdg : Value} {q : PySem.Str} (F : Fx X.K X.mg) (hx : ∀ env, Ux (X.A.deeper env)) : LamX.GivesTo X ["call", "fault", "flags"] "_law_word" (defScope (top 42)) gA cdg (defBody (top 42)) "call" q (TTm X.K X.mg T m_law_word) := by
  refine gives_of (by decide) fun f c1 s H c m tl hT act does hc0 => ?_
  have hr := hx (envOfC "_law_word" (defScope (top 42)) s.heap.objs.size gA cdg)
  unfold m_law_word
  exact s_tryX (i := 1) (CP := F.x_PostFault.choose) rfl rfl sc_law_word.nd rfl rfl ⟨rfl, by decide, .inl F.x_PostFault.choose_spec.2.1⟩ (act _ _) does hc0 rfl rfl (fun cl C hpc hmC => F.e_exm cl C _ hpc hmC F.x_PostFault.choose_spec.2.1) (fun cl C a oe pn hpc hmC hz hv => (s_set (i := 2) sc_law_word.nd (JE.sh (e_lst (s_cons (JE.sh (e_isE 1 hz hv (F.e_exc _ _ hpc hmC) (F.k_all _ "BadOpen" _ _ hpc rfl hmC F.x_BadOpen.choose_spec.2.1) (cV := .ref F.x_BadOpen.choose) (fun _ e => e) (pe_glob rfl F.x_BadOpen.choose_spec.2.1 rfl) F.b_isinstance)) (s_cons (JE.sh (e_isE 1 hz hv (F.e_exc _ _ hpc hmC) (F.k_all _ "NoMoment" _ _ hpc rfl hmC F.x_NoMoment.choose_spec.2.1) (cV := .ref F.x_NoMoment.choose) (fun _ e => e) (pe_glob rfl F.x_NoMoment.choose_spec.2.1 rfl) F.b_isinstance)) (s_cons (JE.sh (e_isE 1 hz hv (F.e_exc _ _ hpc hmC) (F.k_all _ "NotBehind" _ _ hpc rfl hmC F.x_NotBehind.choose_spec.2.1) (cV := .ref F.x_NotBehind.choose) (fun _ e => e) (pe_glob rfl F.x_NotBehind.choose_spec.2.1 rfl) F.b_isinstance)) s_nil))))) (fun v_flags0 => (s_ifD (t_w (w_or (t_cmp (o_ne hr.u64) neD_calm neD_bl (JE.rb (e_count hr.u65 (JE.bo (e_var 2)) (JE.bo e_bl))) (JE.bo e_int)) (w_or1 (t_not (t_val (JE.rb (e_isE 1 hz hv (F.e_exc _ _ hpc hmC) (F.k_ve _ _ hpc hmC) (cV := .ty "ValueError") (fun _ e => e) (pe_bltn rfl F.b_ValueError bb_ValueError rfl) F.b_isinstance))))))) (s_ret (e_str [111, 116, 104, 101, 114])) (s_ret (e_idx (JE.rb (e_lst (s_cons (e_str [104, 111, 117, 114, 115]) (s_cons (e_str [109, 111, 109, 101, 110, 116]) (s_cons (e_str [98, 101, 104, 105, 110, 100]) s_nil))))) (JE.rb (e_index hr.u65 (JE.bo (e_var 2)) (JE.bo e_bl))))))))) kd_rt (fun _ => (s_ret (e_str [115, 97, 105, 100]))) (fun _ => rfl)
theorem ok_tbl2 (F : Fx K mg) (B : Tx K mg base T) : ∀ n G, tbl2.lookup n = some G → FnM P w K mg base T false 6 (PySem.Str.ofString n) false 2 .sh G := by
  intro n G h
  have h := lookup_mem h
  unfold tbl2 at h
  simp only [List.mem_cons, Prod.mk.injEq, List.not_mem_nil, or_false] at h
  rcases h with ⟨rfl, rfl⟩ | ⟨rfl, rfl⟩ | ⟨rfl, rfl⟩
  · exact FnM.mono (FnM.sh (ok_is_open F B))
  · exact FnM.mono (ok_next_open F B)
  · exact FnM.mono (FnM.sh (ok_at_once F B))
theorem sc_law_of_two : FnScope ["teller", "hours", "thing"] ["teller", "hours", "thing"] (defScope (top 43)) := ⟨rfl, rfl, rfl, by decide +kernel, rfl, by decide +kernel, by decide +kernel⟩
theorem ok_law_of_two (F : Fx K mg) (B : Tx K mg base T) : FnM P w K mg base T false 9 "_law_of_two" false 3 .sh (un3 m_law_of_two) := by
  obtain ⟨a, fd, Fn, hm⟩ := F.f__law_of_two
  refine fnM_of (N := ["teller", "hours", "thing"]) Fn sc_law_of_two rfl hm (Fn.bindsN fun _ _ _ _ _ _ us hl => match us, hl with | [_, _, _], _ => rfl) fun cdv A outer s H E c ds hcd hT hn hr tk hp => ?_
  obtain ⟨cA, tP, e1, tB1, tM, tU⟩ := B.l__law_of_two a fd Fn hm
  have hcode : (envOfC "_law_of_two" (defScope (top 43)) s.heap.objs.size a cdv).code = .ref cA := hcd.symm.trans e1
  match ds, hn with
  | [v_teller, v_hours, v_thing], _ =>
  show BodyOk _ _ c _ _ .sh (m_law_of_two v_teller v_hours v_thing)
  unfold m_law_of_two
  exact body_D (s_ret (e_lamF (k := 6) hT (F.f__law_word).choose_spec.choose_spec.1 (F.f__law_word).choose_spec.choose_spec.2 ((F.f__law_word).choose_spec.choose_spec.1.bindsN fun _ _ _ _ _ _ us hl => match us, hl with | [_], _ => rfl) sc_law_word (fun _ => gv_law_word F hr.ux) tB1 hcode tM tU (hr.on (g' := false) (j := 8)) (LamX.lamS_by (by exact rfl)) (fun A outer s H E f c1 hr tk => (e_callL 0 hT (ok_tbl2 F B) hr.on tk (s_cons (e_var 1) (s_cons (e_var 2) s_nil))))))
theorem sc_law_of_three : FnScope ["hours", "first", "last"] ["hours", "first", "last"] (defScope (top 44)) := ⟨rfl, rfl, rfl, by decide +kernel, rfl, by decide +kernel, by decide +kernel⟩
theorem ok_law_of_three (F : Fx K mg) (B : Tx K mg base T) : FnM P w K mg base T false 9 "_law_of_three" false 3 .sh (un3 m_law_of_three) := by
  obtain ⟨a, fd, Fn, hm⟩ := F.f__law_of_three
  refine fnM_of (N := ["hours", "first", "last"]) Fn sc_law_of_three rfl hm (Fn.bindsN fun _ _ _ _ _ _ us hl => match us, hl with | [_, _, _], _ => rfl) fun cdv A outer s H E c ds hcd hT hn hr tk hp => ?_
  obtain ⟨cA, tP, e1, tB1, tM, tU⟩ := B.l__law_of_three a fd Fn hm
  have hcode : (envOfC "_law_of_three" (defScope (top 44)) s.heap.objs.size a cdv).code = .ref cA := hcd.symm.trans e1
  match ds, hn with
  | [v_hours, v_first, v_last], _ =>
  show BodyOk _ _ c _ _ .sh (m_law_of_three v_hours v_first v_last)
  unfold m_law_of_three
  exact body_D (s_ret (e_lamF (k := 6) hT (F.f__law_word).choose_spec.choose_spec.1 (F.f__law_word).choose_spec.choose_spec.2 ((F.f__law_word).choose_spec.choose_spec.1.bindsN fun _ _ _ _ _ _ us hl => match us, hl with | [_], _ => rfl) sc_law_word (fun _ => gv_law_word F hr.ux) tB1 hcode tM tU (hr.on (g' := false) (j := 8)) (LamX.lamS_by (by exact rfl)) (fun A outer s H E f c1 hr tk => (JE.sh (JE.eq (e_call hT (ok_open_minutes F B) hr.on tk (s_cons (e_var 0) (s_cons (e_var 1) (s_cons (e_var 2) s_nil)))) (ap_un3 _ _ _ _))))))
theorem ok_tbl1 (F : Fx K mg) (B : Tx K mg base T) : ∀ n G, tbl1.lookup n = some G → FnM P w K mg base T false 6 (PySem.Str.ofString n) false 1 .sh G := by
  intro n G h
  have h := lookup_mem h
  unfold tbl1 at h
  simp only [List.mem_cons, Prod.mk.injEq, List.not_mem_nil, or_false] at h
  rcases h with ⟨rfl, rfl⟩ | ⟨rfl, rfl⟩
  · exact FnM.mono (ok_longest_shut F B)
  · exact FnM.mono (FnM.sh (ok_days_open F B))
theorem sc_law_of_one : FnScope ["teller", "hours"] ["teller", "hours"] (defScope (top 45)) := ⟨rfl, rfl, rfl, by decide +kernel, rfl, by decide +kernel, by decide +kernel⟩
theorem ok_law_of_one (F : Fx K mg) (B : Tx K mg base T) : FnM P w K mg base T false 9 "_law_of_one" false 2 .sh (un2 m_law_of_one) := by
  obtain ⟨a, fd, Fn, hm⟩ := F.f__law_of_one
  refine fnM_of (N := ["teller", "hours"]) Fn sc_law_of_one rfl hm (Fn.bindsN fun _ _ _ _ _ _ us hl => match us, hl with | [_, _], _ => rfl) fun cdv A outer s H E c ds hcd hT hn hr tk hp => ?_
  obtain ⟨cA, tP, e1, tB1, tM, tU⟩ := B.l__law_of_one a fd Fn hm
  have hcode : (envOfC "_law_of_one" (defScope (top 45)) s.heap.objs.size a cdv).code = .ref cA := hcd.symm.trans e1
  match ds, hn with
  | [v_teller, v_hours], _ =>
  show BodyOk _ _ c _ _ .sh (m_law_of_one v_teller v_hours)
  unfold m_law_of_one
  exact body_D (s_ret (e_lamF (k := 6) hT (F.f__law_word).choose_spec.choose_spec.1 (F.f__law_word).choose_spec.choose_spec.2 ((F.f__law_word).choose_spec.choose_spec.1.bindsN fun _ _ _ _ _ _ us hl => match us, hl with | [_], _ => rfl) sc_law_word (fun _ => gv_law_word F hr.ux) tB1 hcode tM tU (hr.on (g' := false) (j := 8)) (LamX.lamS_by (by exact rfl)) (fun A outer s H E f c1 hr tk => (e_callL 0 hT (ok_tbl1 F B) hr.on tk (s_cons (e_var 1) s_nil)))))
theorem sc_law_are_refused : FnScope ["bag", "hours", "some", "four", "day", "bad", "odd", "words", "teller"] ["bag", "hours"] (defScope (top 46)) := ⟨rfl, rfl, rfl, by decide +kernel, rfl, by decide +kernel, by decide +kernel⟩
theorem ok_law_are_refused (F : Fx K mg) (B : Tx K mg base T) : FnM P w K mg base T false 10 "_law_are_refused" true 1 .ra (un1 m_law_are_refused) := by
  obtain ⟨a, fd, Fn, hm⟩ := F.f__law_are_refused
  refine fnM_of (N := ["bag", "hours", "some", "four", "day", "bad", "odd", "words", "teller"]) Fn sc_law_are_refused rfl hm (Fn.bindsN fun _ _ _ _ _ _ us hl => match us, hl with | [_, _], _ => rfl) fun cdv A outer s H E c ds hcd hT hn hr tk hp => ?_
  match ds, hn with
  | [v_hours], _ =>
  show BodyOk _ _ c _ _ .ra (m_law_are_refused v_hours)
  unfold m_law_are_refused
  exact body_D (s_set (i := 2) sc_law_are_refused.nd (JE.sh (e_lst (s_cons (e_tup (s_cons e_int (s_cons e_int s_nil))) (s_cons (e_tup (s_cons e_int (s_cons e_int s_nil))) (s_cons (e_tup (s_cons (JE.sh (e_un o_neg negD_calm (JE.bo e_int))) (s_cons e_int s_nil))) (s_cons (e_tup (s_cons e_int (s_cons e_int s_nil))) (s_cons (e_tup (s_cons e_int s_nil)) (s_cons (e_tup (s_cons e_int (s_cons e_int (s_cons e_int s_nil)))) (s_cons (JE.sh (e_lst (s_cons e_int (s_cons e_int s_nil)))) (s_cons e_non (s_cons e_int (s_cons (e_tup (s_cons e_bl (s_cons e_int s_nil))) (s_cons (e_tup (s_cons e_int (s_cons e_non s_nil))) s_nil))))))))))))) (fun v_some0 => (s_set (i := 3) sc_law_are_refused.nd (e_tup (s_cons (e_tup (s_cons e_int (s_cons e_int s_nil))) (s_cons (e_tup (s_cons e_int (s_cons e_int s_nil))) (s_cons (e_tup (s_cons e_int (s_cons e_int s_nil))) (s_cons (e_tup (s_cons e_int (s_cons e_int s_nil))) s_nil))))) (fun v_four1 => (s_set (i := 4) sc_law_are_refused.nd (JE.eq (e_callH 0 hT (ok_law_some F B) hr.on tk (s_cons (JE.sh (e_lst (s_cons (e_tup (s_cons (JE.eq (e_callH 0 hT (ok_law_some F B) hr.on tk (s_cons (e_var 2) s_nil)) (ap_un1 _ _)) s_nil)) (s_cons (e_tup (s_cons (e_tup (s_cons e_int (s_cons e_int s_nil))) (s_cons (e_tup (s_cons e_int (s_cons e_int s_nil))) s_nil))) (s_cons (e_var 3) (s_cons (JE.sh (e_lst (s_cons (e_tup (s_cons e_int (s_cons e_int s_nil))) s_nil))) (s_cons e_non s_nil))))))) s_nil)) (ap_un1 _ _)) (fun v_day2 => (s_set (i := 4) sc_law_are_refused.nd (JE.eq (e_callH 0 hT (ok_law_some F B) hr.on tk (s_cons (JE.sh (e_lst (s_cons (e_var 4) (s_cons (e_var 4) (s_cons (e_tup (s_cons (e_tup (s_cons e_int (s_cons e_int s_nil))) (s_cons (e_tup (s_cons e_int (s_cons e_int s_nil))) s_nil))) (s_cons (e_tup (s_cons (e_tup (s_cons e_int (s_cons e_int s_nil))) (s_cons (e_tup (s_cons e_int (s_cons e_int s_nil))) s_nil))) (s_cons e_int (s_cons (e_str [100, 97, 121]) (s_cons (JE.eq (e_callH 0 hT (ok_law_deep F B) hr.on tk s_nil) rfl) s_nil))))))))) s_nil)) (ap_un1 _ _)) (fun v_day3 => (s_set (i := 5) sc_law_are_refused.nd (JE.eq (e_callH 0 hT (ok_law_some F B) hr.on tk (s_cons (JE.sh (e_lst (s_cons (JE.sh (e_op o_add addD_calm (JE.rb (e_slice (JE.bo (e_var 1)) p_none (p_some (JE.bo e_int)))) (JE.bo (e_tup (s_cons (e_var 4) s_nil))))) (s_cons (JE.sh (e_op o_add addD_calm (JE.bo (e_var 1)) (JE.bo (e_tup (s_cons (e_tup s_nil) s_nil))))) (s_cons (JE.sh (e_slice (JE.bo (e_var 1)) (p_some (JE.bo e_int)) p_none)) (s_cons (JE.sh (e_ty1 c_list listD_calm F.b_list bb_list (JE.bo (e_var 1)))) (s_cons e_non (s_cons e_int (s_cons (JE.sh e_dnew) (s_cons (e_tup s_nil) (s_cons (JE.eq (e_callH 0 hT (ok_law_deep F B) hr.on tk s_nil) rfl) s_nil))))))))))) s_nil)) (ap_un1 _ _)) (fun v_bad4 => (s_set (i := 6) sc_law_are_refused.nd (JE.eq (e_callH 0 hT (ok_law_some F B) hr.on tk (s_cons (JE.sh (e_lst (s_cons (e_tup (s_cons (JE.sh (e_un o_neg negD_calm (JE.bo e_int))) (s_cons e_int s_nil))) (s_cons (e_tup (s_cons e_int (s_cons e_int s_nil))) (s_cons (e_tup (s_cons e_int (s_cons (JE.sh (e_un o_neg negD_calm (JE.bo e_int))) s_nil))) (s_cons (e_tup (s_cons e_int s_nil)) (s_cons (e_tup (s_cons e_int (s_cons e_int (s_cons e_int s_nil)))) (s_cons (JE.sh (e_lst (s_cons e_int (s_cons e_int s_nil)))) (s_cons e_non (s_cons e_int (s_cons (e_tup (s_cons e_bl (s_cons e_int s_nil))) (s_cons (e_tup (s_cons e_int (s_cons e_non s_nil))) s_nil)))))))))))) s_nil)) (ap_un1 _ _)) (fun v_odd5 => (s_set (i := 6) sc_law_are_refused.nd (JE.eq (e_callH 0 hT (ok_law_some F B) hr.on tk (s_cons (JE.sh (e_lst (s_cons (e_var 6) (s_cons (e_var 6) (s_cons (JE.sh e_dnew) (s_cons (e_str [48, 48]) (s_cons (JE.eq (e_callH 0 hT (ok_law_deep F B) hr.on tk s_nil) rfl) s_nil))))))) s_nil)) (ap_un1 _ _)) (fun v_odd6 => (s_set (i := 7) sc_law_are_refused.nd (JE.sh (e_lst s_nil)) (fun v_words7 => (s_for (k := (fun (s : D) => ([.hd, .sh v_hours, .sh v_some0, .sh v_four1, .sh v_day3, .sh v_bad4, .sh v_odd6, .sh s, .no] : List Sl))) v_words7 hp rfl (i_seq (e_tup (s_cons (e_fn (n := "is_open") (hm := (F.f_is_open).choose_spec.choose_spec.2)) (s_cons (e_fn (n := "next_open") (hm := (F.f_next_open).choose_spec.choose_spec.2)) s_nil)))) (tg1 (i := 8) sc_law_are_refused.nd) ⟨.inl rfl, .inl rfl, .inl rfl, .inl rfl, .inl rfl, .inl rfl, .inl rfl, .inl rfl, .inl rfl, True.intro⟩ (fun _ => rfl) hT (fun c hT v_s8 v_t9 => (s_set (i := 7) sc_law_are_refused.nd (JE.sh (e_op o_add addD_calm (JE.bo (e_var 7)) (JE.rb (e_lst (s_cons (JE.eq (e_call hT (ok_law_of_two F B) hr.on tk (s_cons (e_var 8) (s_cons (e_var 5) (s_cons (e_var 6) s_nil)))) (ap_un3 _ _ _ _)) (s_cons (JE.eq (e_call hT (ok_law_of_two F B) hr.on tk (s_cons (e_var 8) (s_cons (e_var 1) (s_cons (e_var 6) s_nil)))) (ap_un3 _ _ _ _)) s_nil)))))) (fun v_words10 => (s_nil' v_words10 ⟨.inl rfl, .inl rfl, .inl rfl, .inl rfl, .inl rfl, .inl rfl, .inl rfl, .inl rfl, .inr rfl, True.intro⟩)))) (fun v_s11 => (s_set (i := 7) sc_law_are_refused.nd (JE.sh (e_op o_add addD_calm (JE.bo (e_var 7)) (JE.rb (e_lst (s_cons (JE.eq (e_call hT (ok_law_of_three F B) hr.on tk (s_cons (e_var 5) (s_cons (e_var 6) (s_cons (e_var 6) s_nil)))) (ap_un3 _ _ _ _)) (s_cons (JE.eq (e_call hT (ok_law_of_three F B) hr.on tk (s_cons (e_var 1) (s_cons (e_var 6) (s_cons (e_var 6) s_nil)))) (ap_un3 _ _ _ _)) (s_cons (JE.eq (e_call hT (ok_law_of_three F B) hr.on tk (s_cons (e_var 1) (s_cons (e_tup (s_cons e_int (s_cons e_int s_nil))) (s_cons (e_var 6) s_nil)))) (ap_un3 _ _ _ _)) s_nil))))))) (fun v_words12 => (s_set (i := 7) sc_law_are_refused.nd (JE.sh (e_op o_add addD_calm (JE.bo (e_var 7)) (JE.rb (e_lst (s_cons (JE.eq (e_call hT (ok_law_of_three F B) hr.on tk (s_cons (e_var 1) (s_cons (e_tup (s_cons e_int (s_cons e_int s_nil))) (s_cons (e_tup (s_cons e_int (s_cons e_int s_nil))) s_nil)))) (ap_un3 _ _ _ _)) (s_cons (JE.eq (e_call hT (ok_law_of_one F B) hr.on tk (s_cons (e_fn (n := "longest_shut") (hm := (F.f_longest_shut).choose_spec.choose_spec.2)) (s_cons (e_var 5) s_nil))) (ap_un2 _ _ _)) (s_cons (JE.eq (e_call hT (ok_law_of_one F B) hr.on tk (s_cons (e_fn (n := "days_open") (hm := (F.f_days_open).choose_spec.choose_spec.2)) (s_cons (e_var 5) s_nil))) (ap_un2 _ _ _)) s_nil))))))) (fun v_words13 => (s_set (i := 7) sc_law_are_refused.nd (JE.sh (e_op o_add addD_calm (JE.bo (e_var 7)) (JE.rb (e_lst (s_cons (JE.eq (e_call hT (ok_law_of_two F B) hr.on tk (s_cons (e_fn (n := "at_once") (hm := (F.f_at_once).choose_spec.choose_spec.2)) (s_cons (e_var 5) (s_cons (e_var 5) s_nil)))) (ap_un3 _ _ _ _)) (s_cons (JE.eq (e_call hT (ok_law_of_two F B) hr.on tk (s_cons (e_fn (n := "at_once") (hm := (F.f_at_once).choose_spec.choose_spec.2)) (s_cons (e_var 1) (s_cons (e_var 5) s_nil)))) (ap_un3 _ _ _ _)) s_nil)))))) (fun v_words14 => (s_ret (e_cmp (o_eq hr.u64) eqD_calm (JE.bo (e_var 7)) (JE.rb (e_op o_add addD_calm (JE.rb (e_op o_add addD_calm (JE.rb (e_op o_mul mulD_calm (JE.rb (e_lst (s_cons (e_str [104, 111, 117, 114, 115]) (s_cons (e_str [109, 111, 109, 101, 110, 116]) s_nil)))) (JE.bo e_int))) (JE.rb (e_lst (s_cons (e_str [104, 111, 117, 114, 115]) (s_cons (e_str [109, 111, 109, 101, 110, 116]) (s_cons (e_str [109, 111, 109, 101, 110, 116]) (s_cons (e_str [98, 101, 104, 105, 110, 100]) s_nil)))))))) (JE.rb (e_op o_mul mulD_calm (JE.rb (e_lst (s_cons (e_str [104, 111, 117, 114, 115]) s_nil))) (JE.bo e_int)))))))))))))))))))))))))))))))
theorem sc_law_is_right : FnScope ["bag", "hours", "others", "before", "rows", "ends_here", "first", "place", "minute", "moment", "week", "flag", "later", "low", "high", "due", "both", "begin", "end", "lap", "one", "other", "day"] ["bag", "hours", "others"] (defScope (top 47)) := ⟨rfl, rfl, rfl, by decide +kernel, rfl, by decide +kernel, by decide +kernel⟩
theorem ok_law_is_right (F : Fx K mg) (B : Tx K mg base T) : FnM P w K mg base T true 11 "_law_is_right" true 2 .sh (un2 m_law_is_right) := by
  obtain ⟨a, fd, Fn, hm⟩ := F.f__law_is_right
  refine fnM_of (N := ["bag", "hours", "others", "before", "rows", "ends_here", "first", "place", "minute", "moment", "week", "flag", "later", "low", "high", "due", "both", "begin", "end", "lap", "one", "other", "day"]) Fn sc_law_is_right rfl hm (Fn.bindsN fun _ _ _ _ _ _ us hl => match us, hl with | [_, _, _], _ => rfl) fun cdv A outer s H E c ds hcd hT hn hr tk hp => ?_
  match ds, hn with
  | [v_hours, v_others], _ =>
  show BodyOk _ _ c _ _ .sh (m_law_is_right v_hours v_others)
  unfold m_law_is_right
  exact body_D (s_par2 (i := 3) (j := 4) false false rfl sc_law_is_right.nd (JE.sh (e_bi1 (c_repr (hr.g rfl) hr.u66) reprD_calm F.b_repr bb_repr (JE.bo (e_tup (s_cons (e_var 1) (s_cons (e_var 2) s_nil)))))) hT (fun c hT => (JE.sh (JE.eq (e_call hT (ok_law_stretches F B) hr.on tk (s_cons (e_var 1) s_nil)) (ap_un1 _ _)))) (fun v_before2 v_rows3 => (s_set (i := 5) sc_law_is_right.nd (JE.sh (e_op o_add addD_calm (JE.rb (e_lst (s_cons e_int (s_cons e_int s_nil)))) (JE.rb (e_lc hT rfl sc_law_is_right.nd (i_seq (JE.sh (e_slice (JE.bo (e_var 4)) p_none (p_some (JE.bo e_int))))) (own := [("begin", 17), ("end", 18)]) (blkOk_by rfl) (fun _ _ _ _ _ => tg2 (i := 17) (j := 18) rfl sc_law_is_right.nd) (fun _ _ _ _ _ => rfl) rfl rfl (fun _ _ _ _ _ c hT v_t4 => (JE.eq (e_callH 0 hT (ok_law_some F B) hr.on L2.takes0 (s_cons (JE.sh (e_lst (s_cons (e_var 17) (s_cons (JE.sh (e_op o_sub subD_calm (JE.bo (e_var 18)) (JE.bo e_int))) (s_cons (e_var 18) s_nil))))) s_nil)) (ap_un1 _ _))))))) (fun v_ends_here5 => (s_set (i := 6) sc_law_is_right.nd e_non (fun v_first6 => (s_forC (k := (fun (s : D) => ([.hd, .sh v_hours, .sh v_others, .sh v_before2, .sh v_rows3, .sh v_ends_here5, .sh s, .no, .no, .no, .no, .no, .no, .no, .no, .no, .no, .no, .no, .no, .no, .no, .no] : List Sl))) v_first6 id rD hp rfl (i_seq (JE.sh (e_op o_add addD_calm (JE.bo (e_var 5)) (JE.rb (e_lc hT rfl sc_law_is_right.nd (i_rng1 (JE.bo e_int) F.b_range) (own := [("lap", 19)]) (blkOk_by rfl) (fun _ _ _ _ _ => tg1 (i := 19) sc_law_is_right.nd) (fun _ _ _ _ _ => rfl) rfl rfl (fun _ _ _ _ _ c hT v_t7 => (JE.eq (e_callH 0 hT (ok_law_pick F B) hr.on L2.takes0 (s_cons e_int s_nil)) (ap_un1 _ _)))))))) (tg1 (i := 7) sc_law_is_right.nd) ⟨.inl rfl, .inl rfl, .inl rfl, .inl rfl, .inl rfl, .inl rfl, .inl rfl, .inl rfl, .inl rfl, .inl rfl, .inl rfl, .inl rfl, .inl rfl, .inl rfl, .inl rfl, .inl rfl, .inl rfl, .inl rfl, .inl rfl, .inl rfl, .inl rfl, .inl rfl, .inl rfl, True.intro⟩ (fun _ => rfl) hT (fun c hT v_s8 v_t9 => (s_set (i := 8) sc_law_is_right.nd (JE.sh (e_op o_add addD_calm (JE.bo (e_var 7)) (JE.rb (e_op o_mul mulD_calm (JE.bo e_int) (JE.bo (JE.eq (e_callH 0 hT (ok_law_some F B) hr.on tk (s_cons (JE.sh (e_lst (s_cons e_int (s_cons e_int (s_cons e_int (s_cons (JE.eq (e_callH 0 hT (ok_law_pick F B) hr.on tk (s_cons (JE.sh (e_op o_pow powD_calm (JE.bo e_int) (JE.bo e_int))) s_nil)) (ap_un1 _ _)) s_nil)))))) s_nil)) (ap_un1 _ _))))))) (fun v_minute10 => (s_tgt (e_tup (s_cons (JE.eq (e_call hT (ok_law_moment F B) hr.on tk (s_cons (e_var 8) s_nil)) (ap_un1 _ _)) (s_cons (JE.sh (e_op o_sub subD_calm (JE.bo (e_var 8)) (JE.rb (e_op o_mul mulD_calm (JE.bo e_int) (JE.rb (e_op o_fdiv fdivD_calm (JE.bo (e_var 8)) (JE.bo e_int))))))) s_nil))) (tg2 (i := 9) (j := 10) rfl sc_law_is_right.nd) (fun v_t12 => (s_set (i := 11) sc_law_is_right.nd (JE.sh (e_bi1 (c_any rfl) anyD_calm F.b_any bb_any (JE.rb (e_lc hT rfl sc_law_is_right.nd (i_seq (e_var 4)) (own := [("begin", 17), ("end", 18)]) (blkOk_by rfl) (fun _ _ _ _ _ => tg2 (i := 17) (j := 18) rfl sc_law_is_right.nd) (fun _ _ _ _ _ => rfl) rfl rfl (fun _ _ _ _ _ c hT v_t13 => (JE.sh (e_chain (o_le hr.u64) (o_lt hr.u64) ordD_calm ordD_bl ordD_calm (JE.bo (e_var 17)) (JE.bo (e_var 10)) (JE.bo (e_var 18))))))))) (fun v_flag14 => (s_ifR Ct.ret rC (t_cmp (o_ne hr.u64) neD_calm neD_bl (JE.rb (e_bi1 (c_repr (hr.g rfl) hr.u66) reprD_calm F.b_repr bb_repr (JE.rb (JE.eq (e_call hT (ok_is_open F B) hr.on tk (s_cons (e_var 1) (s_cons (e_var 9) s_nil))) (ap_un2 _ _ _))))) (JE.rb (e_bi1 (c_repr (hr.g rfl) hr.u66) reprD_calm F.b_repr bb_repr (JE.bo (e_var 11))))) (s_ret e_bl) (s_set (i := 12) sc_law_is_right.nd (JE.eq (e_call hT (ok_law_next F B) hr.on tk (s_cons (e_var 1) (s_cons (e_var 8) s_nil))) (ap_un2 _ _ _)) (fun v_later15 => (s_ifR Ct.ret rC (t_cmp (o_ne hr.u64) neD_calm neD_bl (JE.rb (e_bi1 (c_repr (hr.g rfl) hr.u66) reprD_calm F.b_repr bb_repr (JE.bo (JE.eq (e_call hT (ok_next_open F B) hr.on tk (s_cons (e_var 1) (s_cons (e_var 9) s_nil))) (ap_un2 _ _ _))))) (JE.rb (e_bi1 (c_repr (hr.g rfl) hr.u66) reprD_calm F.b_repr bb_repr (JE.bo (e_if (t_cmp o_is isD_calm isD_B (JE.bo (e_var 12)) (JE.bo e_non)) e_non (JE.eq (e_call hT (ok_law_moment F B) hr.on tk (s_cons (e_var 12) s_nil)) (ap_un1 _ _))))))) (s_ret e_bl) (s_ifC (k := (fun (s : Unit) => ([.hd, .sh v_hours, .sh v_others, .sh v_before2, .sh v_rows3, .sh v_ends_here5, .sh v_s8, .sh v_t9, .sh v_minute10, .sh v_t12.1, .sh v_t12.2, .sh v_flag14, .sh v_later15, .no, .no, .no, .no, .no, .no, .no, .no, .no, .no] : List Sl))) Ct.ret rC (t_cmp o_isn isnD_calm isnD_B (JE.bo (e_var 6)) (JE.bo e_non)) (s_par2 (i := 13) (j := 14) false false rfl sc_law_is_right.nd (JE.sh (e_bi2 (c_min2 rfl hr.u65) min2D_calm F.b_min bb_min (JE.bo (e_var 6)) (JE.bo (e_var 8)))) hT (fun c hT => (JE.sh (e_bi2 (c_max2 rfl hr.u65) max2D_calm F.b_max bb_max (JE.bo (e_var 6)) (JE.bo (e_var 8))))) (fun v_low18 v_high19 => (s_set (i := 15) sc_law_is_right.nd (JE.sh (e_op o_sub subD_calm (JE.rb (JE.eq (e_call hT (ok_law_minutes F B) hr.on tk (s_cons (e_var 1) (s_cons (e_var 14) s_nil))) (ap_un2 _ _ _))) (JE.rb (JE.eq (e_call hT (ok_law_minutes F B) hr.on tk (s_cons (e_var 1) (s_cons (e_var 13) s_nil))) (ap_un2 _ _ _))))) (fun v_due20 => (s_ifR Ct.ret rC (t_cmp (o_ne hr.u64) neD_calm neD_bl (JE.rb (e_bi1 (c_repr (hr.g rfl) hr.u66) reprD_calm F.b_repr bb_repr (JE.rb (JE.eq (e_call hT (ok_open_minutes F B) hr.on tk (s_cons (e_var 1) (s_cons (JE.eq (e_call hT (ok_law_moment F B) hr.on tk (s_cons (e_var 13) s_nil)) (ap_un1 _ _)) (s_cons (JE.eq (e_call hT (ok_law_moment F B) hr.on tk (s_cons (e_var 14) s_nil)) (ap_un1 _ _)) s_nil)))) (ap_un3 _ _ _ _))))) (JE.rb (e_bi1 (c_repr (hr.g rfl) hr.u66) reprD_calm F.b_repr bb_repr (JE.bo (e_var 15))))) (s_ret e_bl) (s_nilC () ⟨.inl rfl, .inl rfl, .inl rfl, .inl rfl, .inl rfl, .inl rfl, .inl rfl, .inl rfl, .inl rfl, .inl rfl, .inl rfl, .inl rfl, .inl rfl, .inr rfl, .inr rfl, .inr rfl, .inl rfl, .inl rfl, .inl rfl, .inl rfl, .inl rfl, .inl rfl, .inl rfl, True.intro⟩)))))) (s_nilC () ⟨.inl rfl, .inl rfl, .inl rfl, .inl rfl, .inl rfl, .inl rfl, .inl rfl, .inl rfl, .inl rfl, .inl rfl, .inl rfl, .inl rfl, .inl rfl, .inl rfl, .inl rfl, .inl rfl, .inl rfl, .inl rfl, .inl rfl, .inl rfl, .inl rfl, .inl rfl, .inl rfl, True.intro⟩) (fun v_s21 => (s_set (i := 6) sc_law_is_right.nd (e_var 8) (fun v_first22 => (s_nilC v_first22 ⟨.inl rfl, .inl rfl, .inl rfl, .inl rfl, .inl rfl, .inl rfl, .inl rfl, .inr rfl, .inr rfl, .inr rfl, .inr rfl, .inr rfl, .inr rfl, .inl rfl, .inl rfl, .inl rfl, .inl rfl, .inl rfl, .inl rfl, .inl rfl, .inl rfl, .inl rfl, .inl rfl, True.intro⟩)))))))))))))))) (fun v_s23 => (s_ifD (t_cmp (o_ne hr.u64) neD_calm neD_bl (JE.rb (e_bi1 (c_repr (hr.g rfl) hr.u66) reprD_calm F.b_repr bb_repr (JE.bo (JE.eq (e_call hT (ok_longest_shut F B) hr.on tk (s_cons (e_var 1) s_nil)) (ap_un1 _ _))))) (JE.rb (e_bi1 (c_repr (hr.g rfl) hr.u66) reprD_calm F.b_repr bb_repr (JE.bo (JE.eq (e_call hT (ok_law_longest F B) hr.on tk (s_cons (e_var 1) s_nil)) (ap_un1 _ _)))))) (s_ret e_bl) (s_ifD (t_cmp (o_ne hr.u64) neD_calm neD_bl (JE.rb (e_bi1 (c_repr (hr.g rfl) hr.u66) reprD_calm F.b_repr bb_repr (JE.rb (JE.eq (e_call hT (ok_days_open F B) hr.on tk (s_cons (e_var 1) s_nil)) (ap_un1 _ _))))) (JE.rb (e_bi1 (c_repr (hr.g rfl) hr.u66) reprD_calm F.b_repr bb_repr (JE.rb (e_ty1 c_tuple tupleD_calm F.b_tuple bb_tuple (JE.rb (e_lf hT rfl sc_law_is_right.nd (i_rng1 (JE.bo e_int) F.b_range) (own := [("day", 22)]) (blkOk_by rfl) (fun _ _ _ _ _ => tg1 (i := 22) sc_law_is_right.nd) (fun _ _ _ _ _ => rfl) rfl rfl (fun _ _ _ _ _ c hT v_t24 => (t_cmp (o_gt hr.u64) ordD_calm ordD_bl (JE.rb (e_bi1 c_len lenD_calm F.b_len bb_len (JE.bo (e_idx (JE.bo (e_var 1)) (JE.bo (e_var 22)))))) (JE.bo e_int))) (fun _ _ _ _ _ c hT v_t24 => (e_var 22))))))))) (s_ret e_bl) (s_set (i := 16) sc_law_is_right.nd (JE.sh (e_ty1 c_tuple tupleD_calm F.b_tuple bb_tuple (JE.rb (e_lc hT rfl sc_law_is_right.nd (i_zip (e_var 1) (e_var 2) F.b_zip) (own := [("one", 20), ("other", 21)]) (blkOk_by rfl) (fun _ _ _ _ _ => tg2 (i := 20) (j := 21) rfl sc_law_is_right.nd) (fun _ _ _ _ _ => rfl) rfl rfl (fun _ _ _ _ _ c hT v_t25 => (JE.sh (JE.eq (e_call hT (ok_law_both F B) hr.on L2.takes0 (s_cons (e_var 20) (s_cons (e_var 21) s_nil))) (ap_un2 _ _ _)))))))) (fun v_both26 => (s_ifD (t_w (w_or (t_cmp (o_ne hr.u64) neD_calm neD_bl (JE.rb (e_bi1 (c_repr (hr.g rfl) hr.u66) reprD_calm F.b_repr bb_repr (JE.rb (JE.eq (e_call hT (ok_at_once F B) hr.on tk (s_cons (e_var 1) (s_cons (e_var 2) s_nil))) (ap_un2 _ _ _))))) (JE.rb (e_bi1 (c_repr (hr.g rfl) hr.u66) reprD_calm F.b_repr bb_repr (JE.bo (e_var 16))))) (w_or1 (t_cmp (o_ne hr.u64) neD_calm neD_bl (JE.rb (JE.eq (e_call hT (ok_at_once F B) hr.on tk (s_cons (e_var 2) (s_cons (e_var 1) s_nil))) (ap_un2 _ _ _))) (JE.bo (e_var 16)))))) (s_ret e_bl) (s_ret (v_and (JE.sh (e_cmp (o_eq hr.u64) eqD_calm (JE.rb (e_bi1 (c_repr (hr.g rfl) hr.u66) reprD_calm F.b_repr bb_repr (JE.bo (e_tup (s_cons (e_var 1) (s_cons (e_var 2) s_nil)))))) (JE.bo (e_var 3)))) (v_one (JE.sh (JE.eq (e_callH 0 hT (ok_law_are_refused F B) hr.on tk (s_cons (e_var 1) s_nil)) (ap_un1 _ _)))))))))))))))))))
theorem sc_law : FnScope ["script", "bag", "week", "lap"] ["script"] (defScope (top 48)) := ⟨rfl, rfl, rfl, by decide +kernel, rfl, by decide +kernel, by decide +kernel⟩
theorem ok_law (F : Fx K mg) (B : Tx K mg base T) {a : Addr} {fd : FuncData} (Fn : FunD K "law" "law" (defArgs (top 48)) (defBody (top 48)) (defScope (top 48)) [] [] a fd) : Fd P w K mg base true 12 a fd ["script"] (spL K mg T 1 .sh (un1 m_law)) := by
  refine fdL_of (N := ["script", "bag", "week", "lap"]) Fn sc_law rfl fun cdv A outer s H E c ds hcd hT hno hn hr tk hp => ?_
  match ds, hn with
  | [v_script], _ =>
  show BodyOk _ _ c _ _ .sh (m_law v_script)
  unfold m_law
  exact body_D (s_setH (i := 1) sc_law.nd (JE.eq (e_call hT (ok_law_bag F B) hr.on tk (s_cons (e_var 0) s_nil)) (ap_un1 _ _)) hno hT (fun c hT => (s_set (i := 2) sc_law.nd (e_tup (s_cons (e_tup (s_cons (e_tup (s_cons e_int (s_cons e_int s_nil))) s_nil)) (s_cons (e_tup s_nil) (s_cons (e_tup (s_cons (e_tup (s_cons e_int (s_cons e_int s_nil))) (s_cons (e_tup (s_cons e_int (s_cons e_int s_nil))) s_nil))) (s_cons (e_tup (s_cons (e_tup (s_cons e_int (s_cons e_int s_nil))) s_nil)) (s_cons (e_tup s_nil) (s_cons (e_tup s_nil) (s_cons (e_tup s_nil) s_nil)))))))) (fun v_week1 => (s_ifD (t_w (w_or (t_cmp o_isn isnD_calm isnD_B (JE.rb (JE.eq (e_call hT (ok_is_open F B) hr.on tk (s_cons (e_var 2) (s_cons (e_tup (s_cons e_int (s_cons e_int s_nil))) s_nil))) (ap_un2 _ _ _))) (JE.bo e_bl)) (w_or (t_cmp o_isn isnD_calm isnD_B (JE.rb (JE.eq (e_call hT (ok_is_open F B) hr.on tk (s_cons (e_var 2) (s_cons (e_tup (s_cons e_int (s_cons e_int s_nil))) s_nil))) (ap_un2 _ _ _))) (JE.bo e_bl)) (w_or1 (t_cmp (o_ne hr.u64) neD_calm neD_bl (JE.rb (JE.eq (e_call hT (ok_days_open F B) hr.on tk (s_cons (e_var 2) s_nil)) (ap_un1 _ _))) (JE.bo (e_tup (s_cons e_int (s_cons e_int (s_cons e_int s_nil)))))))))) (s_ret e_bl) (s_ifD (t_w (w_or (t_cmp (o_ne hr.u64) neD_calm neD_bl (JE.bo (JE.eq (e_call hT (ok_next_open F B) hr.on tk (s_cons (e_var 2) (s_cons (e_tup (s_cons e_int (s_cons e_int s_nil))) s_nil))) (ap_un2 _ _ _))) (JE.bo (e_tup (s_cons e_int (s_cons e_int s_nil))))) (w_or1 (t_cmp o_isn isnD_calm isnD_B (JE.bo (JE.eq (e_call hT (ok_next_open F B) hr.on tk (s_cons (JE.sh (e_op o_mul mulD_calm (JE.bo (e_tup (s_cons (e_tup s_nil) s_nil))) (JE.bo e_int))) (s_cons (e_tup (s_cons e_int (s_cons e_int s_nil))) s_nil))) (ap_un2 _ _ _))) (JE.bo e_non))))) (s_ret e_bl) (s_ifD (t_cmp o_isn isnD_calm isnD_B (JE.bo (JE.eq (e_call hT (ok_longest_shut F B) hr.on tk (s_cons (JE.sh (e_op o_mul mulD_calm (JE.bo (e_tup (s_cons (e_tup s_nil) s_nil))) (JE.bo e_int))) s_nil)) (ap_un1 _ _))) (JE.bo e_non)) (s_ret e_bl) (s_ifD (t_w (w_or (t_cmp (o_ne hr.u64) neD_calm neD_bl (JE.rb (JE.eq (e_call hT (ok_open_minutes F B) hr.on tk (s_cons (e_var 2) (s_cons (e_tup (s_cons e_int (s_cons e_int s_nil))) (s_cons (e_tup (s_cons e_int (s_cons e_int s_nil))) s_nil)))) (ap_un3 _ _ _ _))) (JE.bo e_int)) (w_or1 (t_cmp (o_ne hr.u64) neD_calm neD_bl (JE.bo (JE.eq (e_call hT (ok_longest_shut F B) hr.on tk (s_cons (JE.sh (e_op o_mul mulD_calm (JE.bo (e_tup (s_cons (e_tup (s_cons (e_tup (s_cons e_int (s_cons e_int s_nil))) s_nil)) s_nil))) (JE.bo e_int))) s_nil)) (ap_un1 _ _))) (JE.bo e_int))))) (s_ret e_bl) (s_ret (JE.sh (e_bi1 (c_all rfl) allD_calm F.b_all bb_all (JE.rb (e_lc hT rfl sc_law.nd (i_rng1 (JE.bo e_int) F.b_range) (own := [("lap", 3)]) (blkOk_by rfl) (fun _ _ _ _ _ => tg1 (i := 3) sc_law.nd) (fun _ _ _ _ _ => rfl) rfl rfl (fun _ _ _ _ _ c hT v_t2 => (JE.eq (e_callH 1 hT (ok_law_is_right F B) hr.on L2.takes0 (s_cons (JE.sh (JE.eq (e_callH 1 hT (ok_law_hours F B) hr.on L2.takes0 s_nil) rfl)) (s_cons (JE.sh (JE.eq (e_callH 1 hT (ok_law_hours F B) hr.on L2.takes0 s_nil) rfl)) s_nil))) (ap_un2 _ _ _))))))))))))))))
end
def fn : List He.DefD := [⟨("is_integer", none), "is_integer", "is_integer", defArgs (top 1), defBody (top 1), defScope (top 1), [], []⟩, ⟨("is_within", none), "is_within", "is_within", defArgs (top 2), defBody (top 2), defScope (top 2), [], []⟩, ⟨("is_stretch", none), "is_stretch", "is_stretch", defArgs (top 13), defBody (top 13), defScope (top 13), [], []⟩, ⟨("is_day", none), "is_day", "is_day", defArgs (top 14), defBody (top 14), defScope (top 14), [], []⟩, ⟨("check_open", none), "check_open", "check_open", defArgs (top 15), defBody (top 15), defScope (top 15), [], []⟩, ⟨("is_moment", none), "is_moment", "is_moment", defArgs (top 16), defBody (top 16), defScope (top 16), [], []⟩, ⟨("check_moment", none), "check_moment", "check_moment", defArgs (top 17), defBody (top 17), defScope (top 17), [], []⟩, ⟨("opens", none), "opens", "opens", defArgs (top 18), defBody (top 18), defScope (top 18), [], []⟩, ⟨("is_open", none), "is_open", "is_open", defArgs (top 19), defBody (top 19), defScope (top 19), [], []⟩, ⟨("next_open", none), "next_open", "next_open", defArgs (top 20), defBody (top 20), defScope (top 20), [], []⟩, ⟨("minutes_on", none), "minutes_on", "minutes_on", defArgs (top 21), defBody (top 21), defScope (top 21), [], []⟩, ⟨("open_minutes", none), "open_minutes", "open_minutes", defArgs (top 22), defBody (top 22), defScope (top 22), [], []⟩, ⟨("told_up_to", none), "told_up_to", "told_up_to", defArgs (top 23), defBody (top 23), defScope (top 23), [], []⟩, ⟨("shut_spans", none), "shut_spans", "shut_spans", defArgs (top 24), defBody (top 24), defScope (top 24), [], []⟩, ⟨("longest_shut", none), "longest_shut", "longest_shut", defArgs (top 25), defBody (top 25), defScope (top 25), [], []⟩, ⟨("common_stretches", none), "common_stretches", "common_stretches", defArgs (top 26), defBody (top 26), defScope (top 26), [], []⟩, ⟨("at_once", none), "at_once", "at_once", defArgs (top 27), defBody (top 27), defScope (top 27), [], []⟩, ⟨("days_open", none), "days_open", "days_open", defArgs (top 28), defBody (top 28), defScope (top 28), [], []⟩, ⟨("_law_bag", none), "_law_bag", "_law_bag", defArgs (top 30), defBody (top 30), defScope (top 30), [], []⟩, ⟨("_law_pick", none), "_law_pick", "_law_pick", defArgs (top 31), defBody (top 31), defScope (top 31), [], []⟩, ⟨("_law_some", none), "_law_some", "_law_some", defArgs (top 32), defBody (top 32), defScope (top 32), [], []⟩, ⟨("_law_day", none), "_law_day", "_law_day", defArgs (top 33), defBody (top 33), defScope (top 33), [], []⟩, ⟨("_law_hours", none), "_law_hours", "_law_hours", defArgs (top 34), defBody (top 34), defScope (top 34), [], []⟩, ⟨("_law_stretches", none), "_law_stretches", "_law_stretches", defArgs (top 35), defBody (top 35), defScope (top 35), [], []⟩, ⟨("_law_minutes", none), "_law_minutes", "_law_minutes", defArgs (top 36), defBody (top 36), defScope (top 36), [], []⟩, ⟨("_law_next", none), "_law_next", "_law_next", defArgs (top 37), defBody (top 37), defScope (top 37), [], []⟩, ⟨("_law_longest", none), "_law_longest", "_law_longest", defArgs (top 38), defBody (top 38), defScope (top 38), [], []⟩, ⟨("_law_both", none), "_law_both", "_law_both", defArgs (top 39), defBody (top 39), defScope (top 39), [], []⟩, ⟨("_law_moment", none), "_law_moment", "_law_moment", defArgs (top 40), defBody (top 40), defScope (top 40), [], []⟩, ⟨("_law_deep", none), "_law_deep", "_law_deep", defArgs (top 41), defBody (top 41), defScope (top 41), [], []⟩, ⟨("_law_word", none), "_law_word", "_law_word", defArgs (top 42), defBody (top 42), defScope (top 42), [], []⟩, ⟨("_law_of_two", none), "_law_of_two", "_law_of_two", defArgs (top 43), defBody (top 43), defScope (top 43), [], []⟩, ⟨("_law_of_three", none), "_law_of_three", "_law_of_three", defArgs (top 44), defBody (top 44), defScope (top 44), [], []⟩, ⟨("_law_of_one", none), "_law_of_one", "_law_of_one", defArgs (top 45), defBody (top 45), defScope (top 45), [], []⟩, ⟨("_law_are_refused", none), "_law_are_refused", "_law_are_refused", defArgs (top 46), defBody (top 46), defScope (top 46), [], []⟩, ⟨("_law_is_right", none), "_law_is_right", "_law_is_right", defArgs (top 47), defBody (top 47), defScope (top 47), [], []⟩, ⟨("law", none), "law", "law", defArgs (top 48), defBody (top 48), defScope (top 48), [], []⟩]
def fa : List He.Fa := ([.glo "is_integer", .glo "is_within", .glo "is_stretch", .glo "is_day", .glo "check_open", .glo "is_moment", .glo "check_moment", .glo "opens", .glo "is_open", .glo "next_open", .glo "minutes_on", .glo "open_minutes", .glo "told_up_to", .glo "shut_spans", .glo "longest_shut", .glo "common_stretches", .glo "at_once", .glo "days_open", .glo "_law_bag", .glo "_law_pick", .glo "_law_some", .glo "_law_day", .glo "_law_hours", .glo "_law_stretches", .glo "_law_minutes", .glo "_law_next", .glo "_law_longest", .glo "_law_both", .glo "_law_moment", .glo "_law_deep"] : List He.Fa) ++ ([.glo "_law_word", .glo "_law_of_two", .glo "_law_of_three", .glo "_law_of_one", .glo "_law_are_refused", .glo "_law_is_right", .glo "law", .glo "PostFault", .exc "PostFault", .glo "BadOpen", .exc "BadOpen", .glo "NoMoment", .exc "NoMoment", .glo "NotBehind", .exc "NotBehind", .free "ValueError", .free "abs", .free "all", .free "any", .free "bool", .free "enumerate", .free "int", .free "isinstance", .free "len", .free "list", .free "max", .free "min", .free "range", .free "repr", .free "sorted"] : List He.Fa) ++ ([.free "sum", .free "tuple", .free "zip", .int "DAYS" 7, .int "MINUTES" 1440, .int "MOST_PAIRS" 3] : List He.Fa)
def tf : List He.Defn := [("_law_of_two", none), ("_law_of_three", none), ("_law_of_one", none)]
def exL : List String := ["PostFault", "BadOpen", "NoMoment", "NotBehind"]
def exB (K : PySem.W.Frag) : Bool := excsB K exL && apartB K tf
abbrev RO : PySem.W.OpenRow := PySem.W.OpenLaw.row PySem.Challenge.rw_postshire_k15_whole_hours_open
abbrev hk : PySem.W.Hook := He.hookX 4 fa fn [] tf exB
def ob (s : PySem.W.SharedT) : He.AlX := He.obsX 4 fa fn [] tf exB (HandSHeadRun.getT s)
theorem ob_eq (s : PySem.W.SharedT) : ob s = hk.obs s.abs := He.obsX_eq (HandSHeadRun.getT_eq s)
def loose : List PySem.Str := (["is_integer", "is_within", "PostFault", "BadOpen", "NoMoment", "NotBehind", "DAYS", "MINUTES", "MOST_PAIRS", "is_stretch", "is_day", "check_open", "is_moment", "check_moment", "opens", "is_open", "next_open", "minutes_on", "open_minutes", "told_up_to", "shut_spans", "longest_shut", "common_stretches", "at_once", "days_open", "_law_bag", "_law_pick", "_law_some", "_law_day", "_law_hours"] : List PySem.Str) ++ (["_law_stretches", "_law_minutes", "_law_next", "_law_longest", "_law_both", "_law_moment", "_law_deep", "_law_word", "_law_of_two", "_law_of_three", "_law_of_one", "_law_are_refused", "_law_is_right"] : List PySem.Str)
theorem run (w : World) : HandSHeadRun.RunEq RO (PySem.W.view RO.prog [48]) hk ob 6000 loose w := by
  intro os
  kernel_rfl
theorem fx_of {w : World} {h : Heap} {K : PySem.W.Frag} {mg : PySem.Str → Option Value} (X : K.In h) (G : h.Ns mainGlobals mg) (c : He.SaysX fa fn [] tf exB w h K) : Fx K mg := by
  have cd := c.t.d
  have hx := (He.ba c.more).1
  exact {
    f_is_integer := let ⟨fd, Fn⟩ := cd.def_ 0 rfl; ⟨He.ga K "is_integer", fd, Fn, He.glo_ok X G (cd.fact 0 (f := .glo "is_integer") rfl)⟩
    f_is_within := let ⟨fd, Fn⟩ := cd.def_ 1 rfl; ⟨He.ga K "is_within", fd, Fn, He.glo_ok X G (cd.fact 1 (f := .glo "is_within") rfl)⟩
    f_is_stretch := let ⟨fd, Fn⟩ := cd.def_ 2 rfl; ⟨He.ga K "is_stretch", fd, Fn, He.glo_ok X G (cd.fact 2 (f := .glo "is_stretch") rfl)⟩
    f_is_day := let ⟨fd, Fn⟩ := cd.def_ 3 rfl; ⟨He.ga K "is_day", fd, Fn, He.glo_ok X G (cd.fact 3 (f := .glo "is_day") rfl)⟩
    f_check_open := let ⟨fd, Fn⟩ := cd.def_ 4 rfl; ⟨He.ga K "check_open", fd, Fn, He.glo_ok X G (cd.fact 4 (f := .glo "check_open") rfl)⟩
    f_is_moment := let ⟨fd, Fn⟩ := cd.def_ 5 rfl; ⟨He.ga K "is_moment", fd, Fn, He.glo_ok X G (cd.fact 5 (f := .glo "is_moment") rfl)⟩
    f_check_moment := let ⟨fd, Fn⟩ := cd.def_ 6 rfl; ⟨He.ga K "check_moment", fd, Fn, He.glo_ok X G (cd.fact 6 (f := .glo "check_moment") rfl)⟩
    f_opens := let ⟨fd, Fn⟩ := cd.def_ 7 rfl; ⟨He.ga K "opens", fd, Fn, He.glo_ok X G (cd.fact 7 (f := .glo "opens") rfl)⟩
    f_is_open := let ⟨fd, Fn⟩ := cd.def_ 8 rfl; ⟨He.ga K "is_open", fd, Fn, He.glo_ok X G (cd.fact 8 (f := .glo "is_open") rfl)⟩
    f_next_open := let ⟨fd, Fn⟩ := cd.def_ 9 rfl; ⟨He.ga K "next_open", fd, Fn, He.glo_ok X G (cd.fact 9 (f := .glo "next_open") rfl)⟩
    f_minutes_on := let ⟨fd, Fn⟩ := cd.def_ 10 rfl; ⟨He.ga K "minutes_on", fd, Fn, He.glo_ok X G (cd.fact 10 (f := .glo "minutes_on") rfl)⟩
    f_open_minutes := let ⟨fd, Fn⟩ := cd.def_ 11 rfl; ⟨He.ga K "open_minutes", fd, Fn, He.glo_ok X G (cd.fact 11 (f := .glo "open_minutes") rfl)⟩
    f_told_up_to := let ⟨fd, Fn⟩ := cd.def_ 12 rfl; ⟨He.ga K "told_up_to", fd, Fn, He.glo_ok X G (cd.fact 12 (f := .glo "told_up_to") rfl)⟩
    f_shut_spans := let ⟨fd, Fn⟩ := cd.def_ 13 rfl; ⟨He.ga K "shut_spans", fd, Fn, He.glo_ok X G (cd.fact 13 (f := .glo "shut_spans") rfl)⟩
    f_longest_shut := let ⟨fd, Fn⟩ := cd.def_ 14 rfl; ⟨He.ga K "longest_shut", fd, Fn, He.glo_ok X G (cd.fact 14 (f := .glo "longest_shut") rfl)⟩
    f_common_stretches := let ⟨fd, Fn⟩ := cd.def_ 15 rfl; ⟨He.ga K "common_stretches", fd, Fn, He.glo_ok X G (cd.fact 15 (f := .glo "common_stretches") rfl)⟩
    f_at_once := let ⟨fd, Fn⟩ := cd.def_ 16 rfl; ⟨He.ga K "at_once", fd, Fn, He.glo_ok X G (cd.fact 16 (f := .glo "at_once") rfl)⟩
    f_days_open := let ⟨fd, Fn⟩ := cd.def_ 17 rfl; ⟨He.ga K "days_open", fd, Fn, He.glo_ok X G (cd.fact 17 (f := .glo "days_open") rfl)⟩
    f__law_bag := let ⟨fd, Fn⟩ := cd.def_ 18 rfl; ⟨He.ga K "_law_bag", fd, Fn, He.glo_ok X G (cd.fact 18 (f := .glo "_law_bag") rfl)⟩
    f__law_pick := let ⟨fd, Fn⟩ := cd.def_ 19 rfl; ⟨He.ga K "_law_pick", fd, Fn, He.glo_ok X G (cd.fact 19 (f := .glo "_law_pick") rfl)⟩
    f__law_some := let ⟨fd, Fn⟩ := cd.def_ 20 rfl; ⟨He.ga K "_law_some", fd, Fn, He.glo_ok X G (cd.fact 20 (f := .glo "_law_some") rfl)⟩
    f__law_day := let ⟨fd, Fn⟩ := cd.def_ 21 rfl; ⟨He.ga K "_law_day", fd, Fn, He.glo_ok X G (cd.fact 21 (f := .glo "_law_day") rfl)⟩
    f__law_hours := let ⟨fd, Fn⟩ := cd.def_ 22 rfl; ⟨He.ga K "_law_hours", fd, Fn, He.glo_ok X G (cd.fact 22 (f := .glo "_law_hours") rfl)⟩
    f__law_stretches := let ⟨fd, Fn⟩ := cd.def_ 23 rfl; ⟨He.ga K "_law_stretches", fd, Fn, He.glo_ok X G (cd.fact 23 (f := .glo "_law_stretches") rfl)⟩
    f__law_minutes := let ⟨fd, Fn⟩ := cd.def_ 24 rfl; ⟨He.ga K "_law_minutes", fd, Fn, He.glo_ok X G (cd.fact 24 (f := .glo "_law_minutes") rfl)⟩
    f__law_next := let ⟨fd, Fn⟩ := cd.def_ 25 rfl; ⟨He.ga K "_law_next", fd, Fn, He.glo_ok X G (cd.fact 25 (f := .glo "_law_next") rfl)⟩
    f__law_longest := let ⟨fd, Fn⟩ := cd.def_ 26 rfl; ⟨He.ga K "_law_longest", fd, Fn, He.glo_ok X G (cd.fact 26 (f := .glo "_law_longest") rfl)⟩
    f__law_both := let ⟨fd, Fn⟩ := cd.def_ 27 rfl; ⟨He.ga K "_law_both", fd, Fn, He.glo_ok X G (cd.fact 27 (f := .glo "_law_both") rfl)⟩
    f__law_moment := let ⟨fd, Fn⟩ := cd.def_ 28 rfl; ⟨He.ga K "_law_moment", fd, Fn, He.glo_ok X G (cd.fact 28 (f := .glo "_law_moment") rfl)⟩
    f__law_deep := let ⟨fd, Fn⟩ := cd.def_ 29 rfl; ⟨He.ga K "_law_deep", fd, Fn, He.glo_ok X G (cd.fact 29 (f := .glo "_law_deep") rfl)⟩
    f__law_word := let ⟨fd, Fn⟩ := cd.def_ 30 rfl; ⟨He.ga K "_law_word", fd, Fn, He.glo_ok X G (cd.fact 30 (f := .glo "_law_word") rfl)⟩
    f__law_of_two := let ⟨fd, Fn⟩ := cd.def_ 31 rfl; ⟨He.ga K "_law_of_two", fd, Fn, He.glo_ok X G (cd.fact 31 (f := .glo "_law_of_two") rfl)⟩
    f__law_of_three := let ⟨fd, Fn⟩ := cd.def_ 32 rfl; ⟨He.ga K "_law_of_three", fd, Fn, He.glo_ok X G (cd.fact 32 (f := .glo "_law_of_three") rfl)⟩
    f__law_of_one := let ⟨fd, Fn⟩ := cd.def_ 33 rfl; ⟨He.ga K "_law_of_one", fd, Fn, He.glo_ok X G (cd.fact 33 (f := .glo "_law_of_one") rfl)⟩
    f__law_are_refused := let ⟨fd, Fn⟩ := cd.def_ 34 rfl; ⟨He.ga K "_law_are_refused", fd, Fn, He.glo_ok X G (cd.fact 34 (f := .glo "_law_are_refused") rfl)⟩
    f__law_is_right := let ⟨fd, Fn⟩ := cd.def_ 35 rfl; ⟨He.ga K "_law_is_right", fd, Fn, He.glo_ok X G (cd.fact 35 (f := .glo "_law_is_right") rfl)⟩
    f_law := let ⟨fd, Fn⟩ := cd.def_ 36 rfl; ⟨He.ga K "law", fd, Fn, He.glo_ok X G (cd.fact 36 (f := .glo "law") rfl)⟩
    b_ValueError := He.free_ok X G (cd.fact 45 (f := .free "ValueError") rfl)
    b_abs := He.free_ok X G (cd.fact 46 (f := .free "abs") rfl)
    b_all := He.free_ok X G (cd.fact 47 (f := .free "all") rfl)
    b_any := He.free_ok X G (cd.fact 48 (f := .free "any") rfl)
    b_bool := He.free_ok X G (cd.fact 49 (f := .free "bool") rfl)
    b_enumerate := He.free_ok X G (cd.fact 50 (f := .free "enumerate") rfl)
    b_int := He.free_ok X G (cd.fact 51 (f := .free "int") rfl)
    b_isinstance := He.free_ok X G (cd.fact 52 (f := .free "isinstance") rfl)
    b_len := He.free_ok X G (cd.fact 53 (f := .free "len") rfl)
    b_list := He.free_ok X G (cd.fact 54 (f := .free "list") rfl)
    b_max := He.free_ok X G (cd.fact 55 (f := .free "max") rfl)
    b_min := He.free_ok X G (cd.fact 56 (f := .free "min") rfl)
    b_range := He.free_ok X G (cd.fact 57 (f := .free "range") rfl)
    b_repr := He.free_ok X G (cd.fact 58 (f := .free "repr") rfl)
    b_sorted := He.free_ok X G (cd.fact 59 (f := .free "sorted") rfl)
    b_sum := He.free_ok X G (cd.fact 60 (f := .free "sum") rfl)
    b_tuple := He.free_ok X G (cd.fact 61 (f := .free "tuple") rfl)
    b_zip := He.free_ok X G (cd.fact 62 (f := .free "zip") rfl)
    i_DAYS := He.int_ok X G (cd.fact 63 (f := .int "DAYS" 7) rfl)
    i_MINUTES := He.int_ok X G (cd.fact 64 (f := .int "MINUTES" 1440) rfl)
    i_MOST_PAIRS := He.int_ok X G (cd.fact 65 (f := .int "MOST_PAIRS" 3) rfl)
    x_PostFault := exF_of X G (cd.fact 37 (f := .glo "PostFault") rfl) (cd.fact 38 (f := .exc "PostFault") rfl)
    x_BadOpen := exF_of X G (cd.fact 39 (f := .glo "BadOpen") rfl) (cd.fact 40 (f := .exc "BadOpen") rfl)
    x_NoMoment := exF_of X G (cd.fact 41 (f := .glo "NoMoment") rfl) (cd.fact 42 (f := .exc "NoMoment") rfl)
    x_NotBehind := exF_of X G (cd.fact 43 (f := .glo "NotBehind") rfl) (cd.fact 44 (f := .exc "NotBehind") rfl)
    e_exm := fun cl C D m e e2 => excsB_exm X G hx m rfl e e2
    e_exc := fun cl C m e => excsB_exc X G hx m e
    k_ve := fun cl C m e => excsB_ve X G hx m e
    k_all := fun cl y C D m m2 e e2 => excsB_all X G hx m m2 e e2 }
theorem okL (w : World) (K : PySem.W.Frag) (mg : PySem.Str → Option Value) (h : Heap) (X : K.In h) (G : h.Ns mainGlobals mg) (c : He.SaysX fa fn [] tf exB w h K) : ∃ fd : FuncData, (∀ (s : Shared) (u : Value), BindsTo s fd ⟨[u], []⟩ [("script", u)]) ∧ mg ("law" : PySem.Str) = some (.ref (He.ga K "law")) ∧
    ∀ base : Heap, K.In base → base.Ns mainGlobals mg → (∀ p ∈ tf.map (He.cT K), LamX.TabB base mg p.1 p.2) → Fd (PySem.Challenge.rw_postshire_k15_whole_hours_open).prog w K mg base true 12 (He.ga K "law") fd ["script"] (spL K mg (tabsT K tf) 1 .sh (un1 m_law)) := by
  have cd := c.t.d
  have F : Fx K mg := fx_of X G c
  obtain ⟨fd, Fn⟩ := cd.def_ 36 rfl
  have hm := He.glo_ok X G (cd.fact 36 (f := .glo "law") rfl)
  have b := FunD.bindsA (ps := ["script"]) Fn fun _ _ _ _ _ _ us hl => match us, hl with | [_], _ => rfl
  exact ⟨fd, fun s u => b s [u] rfl, hm, fun base hb hn TB => ok_law F ⟨trivial, fun a fd Fn hm => tx_of (He.ba c.more).2 (List.Mem.head _) (He.glo_ok X G (cd.fact 31 (f := .glo "_law_of_two") rfl)) TB Fn hm, fun a fd Fn hm => tx_of (He.ba c.more).2 (List.Mem.tail _ (List.Mem.head _)) (He.glo_ok X G (cd.fact 32 (f := .glo "_law_of_three") rfl)) TB Fn hm, fun a fd Fn hm => tx_of (He.ba c.more).2 (List.Mem.tail _ (List.Mem.tail _ (List.Mem.head _))) (He.glo_ok X G (cd.fact 33 (f := .glo "_law_of_one") rfl)) TB Fn hm⟩ Fn⟩
end LW


set_option maxHeartbeats 400000
set_option Elab.async false
set_option linter.all false
set_option maxRecDepth 100000
namespace LW
open Ev
/-! ### rows of pairs -/
def sh (k : Nat) (p : Pt) : Pt := (1440 * (k : Int) + p.1, 1440 * (k : Int) + p.2)
def spans : Nat → List (List Pt) → List Pt
  | _, [] => []
  | k, d :: ds => d.map (sh k) ++ spans (k + 1) ds
structure OkD (d : List Pt) : Prop where
  pw : d.Pairwise (fun a b => a.2 < b.1)
  b : ∀ p ∈ d, 0 ≤ p.1 ∧ p.1 < p.2 ∧ p.2 ≤ 1440
  l : d.length ≤ 3
structure OkH (hs : List (List Pt)) : Prop where
  l : hs.length = 7
  d : ∀ d ∈ hs, OkD d
theorem spans_b : ∀ (hs : List (List Pt)) (k : Nat), (∀ d ∈ hs, OkD d) → ∀ p ∈ spans k hs, 1440 * (k : Int) ≤ p.1 ∧ p.1 < p.2 ∧ p.2 ≤ 1440 * ((k : Int) + hs.length)
  | [], k, _, p, hp => by cases hp
  | d :: hs, k, h, p, hp => by
    rcases List.mem_append.mp hp with hp | hp
    · obtain ⟨q, hq, rfl⟩ := List.mem_map.mp hp
      have := (h d List.mem_cons_self).b q hq
      rw [List.length_cons]
      unfold sh
      simp only []
      omega
    · have := spans_b hs (k + 1) (fun d hd => h d (List.mem_cons_of_mem _ hd)) p hp
      rw [List.length_cons]
      omega
theorem spans_len : ∀ (hs : List (List Pt)) (k : Nat), (∀ d ∈ hs, OkD d) → (spans k hs).length ≤ 3 * hs.length
  | [], k, _ => Nat.le_refl _
  | d :: hs, k, h => by
    have := spans_len hs (k + 1) fun d hd => h d (List.mem_cons_of_mem _ hd)
    have := (h d List.mem_cons_self).l
    rw [spans, List.length_append, List.length_map, List.length_cons]
    omega
def mg (acc : List Pt) (q : Pt) : List Pt := match acc.getLast? with
  | some p => if p.2 = q.1 then acc.dropLast ++ [(p.1, q.2)] else acc ++ [q]
  | none => acc ++ [q]
theorem mg_len (acc : List Pt) (q : Pt) : (mg acc q).length ≤ acc.length + 1 := by
  unfold mg
  split
  · split
    · rw [List.length_append, List.length_dropLast, List.length_singleton]; omega
    · rw [List.length_append, List.length_singleton]; omega
  · rw [List.length_append, List.length_singleton]; omega
theorem mgs_len : ∀ (qs acc : List Pt), (qs.foldl mg acc).length ≤ acc.length + qs.length
  | [], acc => Nat.le_refl _
  | q :: qs, acc => by
    have := mgs_len qs (mg acc q)
    have := mg_len acc q
    rw [List.foldl_cons, List.length_cons]; omega
theorem mg_ne (acc : List Pt) (q : Pt) : mg acc q ≠ [] := by
  unfold mg
  split
  · split <;> simp
  · simp
theorem mg_inv {β : Type} (φ : List Pt → β) (h : ∀ l a b c r, a < b → b < c → φ (l ++ (a, b) :: (b, c) :: r) = φ (l ++ (a, c) :: r)) : ∀ (qs acc : List Pt), (∀ p ∈ acc, p.1 < p.2) → (∀ p ∈ qs, p.1 < p.2) → φ (qs.foldl mg acc) = φ (acc ++ qs)
  | [], acc, _, _ => by rw [List.append_nil]; rfl
  | q :: qs, acc, ha, hq => by
    have hq0 := hq q List.mem_cons_self
    have hqs : ∀ p ∈ qs, p.1 < p.2 := fun p hp => hq p (List.mem_cons_of_mem _ hp)
    rw [List.foldl_cons]
    have std : (∀ p ∈ acc ++ [q], p.1 < p.2) := fun p hp => by
      rcases List.mem_append.mp hp with hp | hp
      · exact ha p hp
      · rw [List.mem_singleton.mp hp]; exact hq0
    have app : φ (qs.foldl mg (acc ++ [q])) = φ (acc ++ q :: qs) := by
      rw [mg_inv φ h qs (acc ++ [q]) std hqs, List.append_assoc]; rfl
    unfold mg
    cases e : acc.getLast? with
    | none => exact app
    | some p =>
      show φ (qs.foldl mg (if p.2 = q.1 then acc.dropLast ++ [(p.1, q.2)] else acc ++ [q])) = _
      by_cases c : p.2 = q.1
      · rw [if_pos c]
        obtain ⟨ys, rfl⟩ := List.getLast?_eq_some_iff.mp e
        have hp := ha p (List.mem_append_right _ List.mem_cons_self)
        rw [List.dropLast_concat, mg_inv φ h qs (ys ++ [(p.1, q.2)]) (fun x hx => by
          rcases List.mem_append.mp hx with hx | hx
          · exact ha x (List.mem_append_left _ hx)
          · rw [List.mem_singleton.mp hx]; show p.1 < q.2; omega) hqs, List.append_assoc, List.append_assoc]
        have := h ys p.1 p.2 q.2 qs hp (by omega)
        refine Eq.trans ?_ (Eq.trans this.symm ?_)
        · rfl
        · rw [show ((p.1, p.2) : Pt) = p from rfl, show ((p.2, q.2) : Pt) = q from by rw [c]]
          rfl
      · rw [if_neg c]; exact app
def M (hs : List (List Pt)) : List Pt := (spans 0 hs).foldl mg []
section
variable {hs : List (List Pt)}
theorem M_inv {β : Type} (φ : List Pt → β) (h : ∀ l a b c r, a < b → b < c → φ (l ++ (a, b) :: (b, c) :: r) = φ (l ++ (a, c) :: r)) (o : ∀ d ∈ hs, OkD d) : φ (M hs) = φ (spans 0 hs) :=
  mg_inv φ h (spans 0 hs) [] (fun p hp => by cases hp) fun p hp => (spans_b hs 0 o p hp).2.1
theorem M_b (o : OkH hs) : ∀ p ∈ M hs, 0 ≤ p.1 ∧ p.1 < p.2 ∧ p.2 ≤ 10080 := by
  have e := M_inv (hs := hs) (fun l => ∀ p ∈ l, 0 ≤ p.1 ∧ p.1 < p.2 ∧ p.2 ≤ 10080) (fun l a b c r h1 h2 => propext ⟨fun h p hp => ?_, fun h p hp => ?_⟩) o.d
  · rw [e]
    intro p hp
    have := spans_b hs 0 o.d p hp
    rw [o.l] at this
    omega
  · rcases List.mem_append.mp hp with hp | hp
    · exact h p (List.mem_append_left _ hp)
    · rcases List.mem_cons.mp hp with rfl | hp
      · have x := h (a, b) (List.mem_append_right _ List.mem_cons_self)
        have y := h (b, c) (List.mem_append_right _ (List.mem_cons_of_mem _ List.mem_cons_self))
        simp only [] at x y ⊢
        omega
      · exact h p (List.mem_append_right _ (List.mem_cons_of_mem _ (List.mem_cons_of_mem _ hp)))
  · have x := h (a, c) (List.mem_append_right _ List.mem_cons_self)
    simp only [] at x
    rcases List.mem_append.mp hp with hp | hp
    · exact h p (List.mem_append_left _ hp)
    · rcases List.mem_cons.mp hp with rfl | hp
      · simp only []; omega
      · rcases List.mem_cons.mp hp with rfl | hp
        · simp only []; omega
        · exact h p (List.mem_append_right _ (List.mem_cons_of_mem _ hp))
theorem M_len (o : OkH hs) : (M hs).length ≤ 21 := by
  have a := mgs_len (spans 0 hs) []
  have b := spans_len hs 0 o.d
  have c := o.l
  unfold M
  rw [List.length_nil] at a
  omega
/-! whether it is open -/
def fl (x : Int) (l : List Pt) : Bool := l.any fun p => decide (p.1 ≤ x) && decide (x < p.2)
theorem fl_inv (x : Int) (l : List Pt) (a b c : Int) (r : List Pt) (h1 : a < b) (h2 : b < c) : fl x (l ++ (a, b) :: (b, c) :: r) = fl x (l ++ (a, c) :: r) := by
  unfold fl
  rw [List.any_append, List.any_append, List.any_cons, List.any_cons, List.any_cons]
  have e : ((decide ((a, b).1 ≤ x) && decide (x < (a, b).2)) || (decide ((b, c).1 ≤ x) && decide (x < (b, c).2))) = (decide ((a, c).1 ≤ x) && decide (x < (a, c).2)) := by
    rw [Bool.eq_iff_iff, Bool.or_eq_true, Bool.and_eq_true, Bool.and_eq_true, Bool.and_eq_true, decide_eq_true_eq, decide_eq_true_eq, decide_eq_true_eq, decide_eq_true_eq]
    show (a ≤ x ∧ x < b) ∨ (b ≤ x ∧ x < c) ↔ a ≤ x ∧ x < c
    omega
  rw [← e, Bool.or_assoc]
theorem fl_map (x : Int) (k : Nat) (d : List Pt) : fl x (d.map (sh k)) = fl (x - 1440 * (k : Int)) d := by
  unfold fl
  rw [List.any_map]
  congr 1
  funext p
  show (decide (1440 * (k : Int) + p.1 ≤ x) && decide (x < 1440 * (k : Int) + p.2)) = _
  rw [Bool.eq_iff_iff]
  simp only [Bool.and_eq_true, decide_eq_true_eq]
  omega
theorem fl_no {x : Int} {l : List Pt} (h : ∀ p ∈ l, x < p.1 ∨ p.2 ≤ x) : fl x l = false := by
  unfold fl
  rw [List.any_eq_false]
  intro p hp
  have := h p hp
  simp only [Bool.and_eq_true, decide_eq_true_eq]
  omega
theorem fl_spans : ∀ (hs : List (List Pt)) (k j : Nat) (x : Int), (∀ d ∈ hs, OkD d) → j < hs.length → 0 ≤ x → x < 1440 → fl (1440 * ((k : Int) + j) + x) (spans k hs) = fl x (hs.getD j [])
  | [], k, j, x, _, hj, _, _ => absurd hj (Nat.not_lt_zero _)
  | d :: hs, k, 0, x, o, hj, x0, x1 => by
    have : fl (1440 * ((k : Int) + (0 : Nat)) + x) (spans k (d :: hs)) = (fl (1440 * ((k : Int) + (0 : Nat)) + x) (d.map (sh k)) || fl (1440 * ((k : Int) + (0 : Nat)) + x) (spans (k + 1) hs)) := by
      unfold fl; rw [spans, List.any_append]
    rw [this, fl_map, fl_no (l := spans (k + 1) hs) fun p hp => by
      have := spans_b hs (k + 1) (fun d hd => o d (List.mem_cons_of_mem _ hd)) p hp
      omega, Bool.or_false]
    congr 1
    omega
  | d :: hs, k, j + 1, x, o, hj, x0, x1 => by
    have : fl (1440 * ((k : Int) + (j + 1 : Nat)) + x) (spans k (d :: hs)) = (fl (1440 * ((k : Int) + (j + 1 : Nat)) + x) (d.map (sh k)) || fl (1440 * ((k : Int) + (j + 1 : Nat)) + x) (spans (k + 1) hs)) := by
      unfold fl; rw [spans, List.any_append]
    rw [this, fl_map, fl_no (l := d) fun p hp => by
      have := (o d List.mem_cons_self).b p hp
      omega, Bool.false_or]
    have ih := fl_spans hs (k + 1) j x (fun d hd => o d (List.mem_cons_of_mem _ hd)) (by rw [List.length_cons] at hj; omega) x0 x1
    rw [show 1440 * ((k : Int) + (j + 1 : Nat)) + x = 1440 * (((k + 1 : Nat) : Int) + (j : Nat)) + x from by omega, ih]
    rfl
theorem fl_M (o : OkH hs) {j : Nat} {x : Int} (hj : j < 7) (x0 : 0 ≤ x) (x1 : x < 1440) : fl (1440 * (j : Int) + x) (M hs) = fl x (hs.getD j []) := by
  rw [M_inv (fl (1440 * (j : Int) + x)) (fl_inv _) o.d]
  have := fl_spans hs 0 j x o.d (by rw [o.l]; exact hj) x0 x1
  rw [← this]
  congr 1
  omega
/-! sums -/
def sm (f : Pt → Int) (l : List Pt) : Int := (l.map f).sum
theorem sm_app (f : Pt → Int) (l m : List Pt) : sm f (l ++ m) = sm f l + sm f m := by unfold sm; rw [List.map_append, List.sum_append]
theorem sm_inv {f : Pt → Int} (h : ∀ a b c : Int, a < b → b < c → f (a, b) + f (b, c) = f (a, c)) (l : List Pt) (a b c : Int) (r : List Pt) (h1 : a < b) (h2 : b < c) : sm f (l ++ (a, b) :: (b, c) :: r) = sm f (l ++ (a, c) :: r) := by
  rw [sm_app, sm_app]
  unfold sm
  simp only [List.map_cons, List.sum_cons]
  have := h a b c h1 h2
  omega
def full (p : Pt) : Int := p.2 - p.1
def mxi (a b : Int) : Int := if b > a then b else a
def mni (a b : Int) : Int := if b < a then b else a
def prt (r : Int) (p : Pt) : Int := mxi 0 (mni p.2 r - p.1)
theorem full_inv (a b c : Int) (h1 : a < b) (h2 : b < c) : full (a, b) + full (b, c) = full (a, c) := by unfold full; simp only []; omega
theorem prt_inv (r a b c : Int) (h1 : a < b) (h2 : b < c) : prt r (a, b) + prt r (b, c) = prt r (a, c) := by
  unfold prt mxi mni
  simp only []
  repeat' split
  all_goals omega
theorem sm_congr {f g : Pt → Int} {l : List Pt} (h : ∀ p ∈ l, f p = g p) : sm f l = sm g l := by
  unfold sm; rw [List.map_congr_left h]
theorem sm_map (f : Pt → Int) (g : Pt → Pt) (l : List Pt) : sm f (l.map g) = sm (fun p => f (g p)) l := by unfold sm; rw [List.map_map]; rfl
theorem sm_0 {f : Pt → Int} : ∀ {l : List Pt}, (∀ p ∈ l, f p = 0) → sm f l = 0
  | [], _ => rfl
  | p :: l, h => by
    have := sm_0 (f := f) (l := l) fun q hq => h q (List.mem_cons_of_mem _ hq)
    have := h p List.mem_cons_self
    unfold sm at *
    rw [List.map_cons, List.sum_cons]; omega
theorem full_spans : ∀ (hs : List (List Pt)) (k : Nat), sm full (spans k hs) = (hs.map (sm full)).sum
  | [], _ => rfl
  | d :: hs, k => by
    rw [spans, sm_app, full_spans hs (k + 1), sm_map, List.map_cons, List.sum_cons]
    congr 1
    refine sm_congr fun p _ => ?_
    unfold full sh
    simp only []
    omega
theorem prt_spans : ∀ (hs : List (List Pt)) (k j : Nat) (x : Int), (∀ d ∈ hs, OkD d) → j < hs.length → 0 ≤ x → x < 1440 → sm (prt (1440 * ((k : Int) + j) + x)) (spans k hs) = ((hs.take j).map (sm full)).sum + sm (prt x) (hs.getD j [])
  | [], k, j, x, _, hj, _, _ => absurd hj (Nat.not_lt_zero _)
  | d :: hs, k, 0, x, o, hj, x0, x1 => by
    rw [spans, sm_app, sm_map, sm_0 (l := spans (k + 1) hs) fun p hp => by
      have := spans_b hs (k + 1) (fun d hd => o d (List.mem_cons_of_mem _ hd)) p hp
      unfold prt mxi mni
      split <;> split at * <;> omega, Int.add_zero, List.take_zero]
    show _ = 0 + sm (prt x) d
    rw [Int.zero_add]
    refine sm_congr fun p hp => ?_
    unfold prt mxi mni sh
    simp only []
    split <;> split <;> split <;> split <;> omega
  | d :: hs, k, j + 1, x, o, hj, x0, x1 => by
    have ih := prt_spans hs (k + 1) j x (fun d hd => o d (List.mem_cons_of_mem _ hd)) (by rw [List.length_cons] at hj; omega) x0 x1
    rw [spans, sm_app, sm_map, show 1440 * ((k : Int) + (j + 1 : Nat)) + x = 1440 * (((k + 1 : Nat) : Int) + (j : Nat)) + x from by omega, ih, List.take_succ_cons, List.map_cons, List.sum_cons, Int.add_assoc]
    congr 1
    refine sm_congr fun p hp => ?_
    have := (o d List.mem_cons_self).b p hp
    unfold prt mxi mni sh full
    simp only []
    split <;> split <;> omega
theorem full_M (o : OkH hs) : sm full (M hs) = (hs.map (sm full)).sum := by
  rw [M_inv (sm full) (sm_inv full_inv) o.d, full_spans]
theorem prt_M (o : OkH hs) {j : Nat} {x : Int} (hj : j < 7) (x0 : 0 ≤ x) (x1 : x < 1440) : sm (prt (1440 * (j : Int) + x)) (M hs) = ((hs.take j).map (sm full)).sum + sm (prt x) (hs.getD j []) := by
  rw [M_inv (sm (prt (1440 * (j : Int) + x))) (sm_inv (prt_inv _)) o.d]
  have := prt_spans hs 0 j x o.d (by rw [o.l]; exact hj) x0 x1
  rw [← this]
  congr 2
  omega
theorem full_b {d : List Pt} (o : OkD d) : 0 ≤ sm full d ∧ sm full d ≤ 1440 * 3 := by
  have key : ∀ l : List Pt, (∀ p ∈ l, 0 ≤ p.1 ∧ p.1 < p.2 ∧ p.2 ≤ 1440) → 0 ≤ sm full l ∧ sm full l ≤ 1440 * l.length := by
    intro l
    induction l with
    | nil => intro _; exact ⟨Int.le_refl _, Int.le_refl _⟩
    | cons p l ih =>
      intro h
      have a := ih fun q hq => h q (List.mem_cons_of_mem _ hq)
      have b := h p List.mem_cons_self
      unfold sm full at *
      rw [List.map_cons, List.sum_cons, List.length_cons]
      omega
  have a := key d o.b
  have b := o.l
  omega
theorem week_b (o : ∀ d ∈ hs, OkD d) : 0 ≤ (hs.map (sm full)).sum ∧ (hs.map (sm full)).sum ≤ 4320 * hs.length := by
  induction hs with
  | nil => exact ⟨Int.le_refl _, Int.le_refl _⟩
  | cons d hs ih =>
    have a := ih fun d hd => o d (List.mem_cons_of_mem _ hd)
    have b := full_b (o d List.mem_cons_self)
    rw [List.map_cons, List.sum_cons, List.length_cons]
    omega
/-! the gaps -/
def gl (f : Int) : Pt → List Pt → List Int
  | p, [] => [f + 10080 - p.2]
  | p, q :: r => (q.1 - p.2) :: gl f q r
def gp (f : Int) : Pt → List Pt → Int
  | p, [] => mxi 0 (f + 10080 - p.2)
  | p, q :: r => mxi (q.1 - p.2) (gp f q r)
def gps : List Pt → Int
  | [] => 0
  | p :: r => gp p.1 p r
theorem gp_0 (f : Int) : ∀ (r : List Pt) (p : Pt), 0 ≤ gp f p r
  | [], p => by unfold gp mxi; split <;> omega
  | q :: r, p => by
    have := gp_0 f r q
    unfold gp mxi
    split <;> omega
theorem gp_fst (f : Int) : ∀ (r : List Pt) (a a' b : Int), gp f (a, b) r = gp f (a', b) r
  | [], _, _, _ => rfl
  | q :: r, _, _, _ => rfl
theorem gp_inv (f : Int) : ∀ (l : List Pt) (p : Pt) (a b c : Int) (r : List Pt), gp f p (l ++ (a, b) :: (b, c) :: r) = gp f p (l ++ (a, c) :: r)
  | [], p, a, b, c, r => by
    show mxi (a - p.2) (mxi (b - b) (gp f (b, c) r)) = mxi (a - p.2) (gp f (a, c) r)
    rw [gp_fst f r a b c]
    congr 1
    have := gp_0 f r (b, c)
    unfold mxi
    split <;> omega
  | q :: l, p, a, b, c, r => by
    have := gp_inv f l q a b c r
    show mxi _ (gp f q (l ++ (a, b) :: (b, c) :: r)) = mxi _ (gp f q (l ++ (a, c) :: r))
    rw [this]
theorem gps_inv (l : List Pt) (a b c : Int) (r : List Pt) (h1 : a < b) (h2 : b < c) : gps (l ++ (a, b) :: (b, c) :: r) = gps (l ++ (a, c) :: r) := by
  cases l with
  | nil =>
    show gp a (a, b) ((b, c) :: r) = gp a (a, c) r
    show mxi (b - b) (gp a (b, c) r) = _
    rw [gp_fst a r a b c]
    have := gp_0 a r (b, c)
    unfold mxi
    split <;> omega
  | cons p l => exact gp_inv p.1 l p a b c r
/-- the greatest -/
def mx : Int → List Int → Int
  | a, [] => a
  | a, y :: ys => mx (if a < y then y else a) ys
theorem mx_mem : ∀ (ys : List Int) (a : Int), mx a ys ∈ a :: ys
  | [], a => List.mem_cons_self
  | y :: ys, a => by
    unfold mx
    rcases List.mem_cons.mp (mx_mem ys (if a < y then y else a)) with e | e
    · rw [e]
      split
      · exact List.mem_cons_of_mem _ List.mem_cons_self
      · exact List.mem_cons_self
    · exact List.mem_cons_of_mem _ (List.mem_cons_of_mem _ e)
theorem mx_ge : ∀ (ys : List Int) (a : Int), ∀ x ∈ a :: ys, x ≤ mx a ys
  | [], a, x, hx => by rw [List.mem_singleton.mp hx]; exact Int.le_refl _
  | y :: ys, a, x, hx => by
    unfold mx
    have ih := mx_ge ys (if a < y then y else a)
    have h0 := ih _ List.mem_cons_self
    rcases List.mem_cons.mp hx with rfl | hx
    · split at h0 <;> rename_i q
      · rw [if_pos q]; omega
      · rw [if_neg q]; exact h0
    · rcases List.mem_cons.mp hx with rfl | hx
      · split at h0 <;> rename_i q
        · rw [if_pos q]; exact h0
        · rw [if_neg q]; omega
      · exact ih x (List.mem_cons_of_mem _ hx)
theorem mx_is {ys : List Int} {a m : Int} (h1 : m ∈ a :: ys) (h2 : ∀ x ∈ a :: ys, x ≤ m) : mx a ys = m :=
  Int.le_antisymm (h2 _ (mx_mem ys a)) (mx_ge ys a m h1)
def mxL : List Int → Int
  | [] => 0
  | a :: ys => mx a ys
theorem gp_is (f : Int) (hf : 0 ≤ f) : ∀ (r : List Pt) (p : Pt), (∀ q ∈ p :: r, q.2 ≤ 10080) → gp f p r ∈ gl f p r ∧ ∀ x ∈ gl f p r, x ≤ gp f p r
  | [], p, h => by
    have := h p List.mem_cons_self
    have e : gp f p [] = f + 10080 - p.2 := by unfold gp mxi; split <;> omega
    rw [e]
    exact ⟨List.mem_cons_self, fun x hx => by rw [List.mem_singleton.mp hx]; exact Int.le_refl _⟩
  | q :: r, p, h => by
    obtain ⟨a, b⟩ := gp_is f hf r q fun x hx => h x (List.mem_cons_of_mem _ hx)
    unfold gp gl mxi
    split
    · refine ⟨List.mem_cons_of_mem _ a, fun x hx => ?_⟩
      rcases List.mem_cons.mp hx with rfl | hx
      · omega
      · exact b x hx
    · refine ⟨List.mem_cons_self, fun x hx => ?_⟩
      rcases List.mem_cons.mp hx with rfl | hx
      · exact Int.le_refl _
      · have := b x hx; omega
theorem mxL_gl {p : Pt} {r : List Pt} (hp : 0 ≤ p.1) (h : ∀ q ∈ p :: r, q.2 ≤ 10080) : mxL (gl p.1 p r) = gps (p :: r) := by
  obtain ⟨a, b⟩ := gp_is p.1 hp r p h
  have : ∀ xs : List Int, xs ≠ [] → ∀ m, m ∈ xs → (∀ x ∈ xs, x ≤ m) → mxL xs = m := by
    intro xs hx m h1 h2
    cases xs with
    | nil => exact absurd rfl hx
    | cons y ys => exact mx_is h1 h2
  exact this _ (by cases r <;> simp [gl]) _ a b
/-! the next -/
def nxt (m W : Int) (l : List Pt) : Option Int := (l.find? fun p => decide (m < W + p.2)).map fun p => mxi m (W + p.1)
theorem nxt_app (m W : Int) (l r : List Pt) : nxt m W (l ++ r) = (nxt m W l).or (nxt m W r) := by
  unfold nxt
  rw [List.find?_append]
  cases l.find? fun p => decide (m < W + p.2) <;> rfl
theorem nxt_inv (m W : Int) (l : List Pt) (a b c : Int) (r : List Pt) (h1 : a < b) (h2 : b < c) : nxt m W (l ++ (a, b) :: (b, c) :: r) = nxt m W (l ++ (a, c) :: r) := by
  rw [nxt_app, nxt_app]
  congr 1
  unfold nxt
  rw [List.find?_cons, List.find?_cons, List.find?_cons]
  by_cases q1 : m < W + b
  · rw [show decide (m < W + ((a, b) : Pt).2) = true from decide_eq_true q1, show decide (m < W + ((a, c) : Pt).2) = true from decide_eq_true (by show m < W + c; omega)]
    rfl
  · rw [show decide (m < W + ((a, b) : Pt).2) = false from decide_eq_false q1]
    show Option.map _ (match decide (m < W + c) with | true => some (b, c) | false => _) = _
    by_cases q2 : m < W + c
    · rw [show decide (m < W + ((a, c) : Pt).2) = true from decide_eq_true q2]
      show some (mxi m (W + b)) = some (mxi m (W + a))
      congr 1
      unfold mxi
      split <;> split <;> omega
    · rw [show decide (m < W + ((a, c) : Pt).2) = false from decide_eq_false q2]
theorem nxt_map (m W : Int) (k : Nat) (d : List Pt) : nxt m W (d.map (sh k)) = nxt m (W + 1440 * (k : Int)) d := by
  unfold nxt
  rw [List.find?_map]
  have e : ((fun p : Pt => decide (m < W + p.2)) ∘ sh k) = fun p : Pt => decide (m < W + 1440 * (k : Int) + p.2) := by
    funext p
    show decide (m < W + (1440 * (k : Int) + p.2)) = _
    rw [Int.add_assoc]
  rw [e, Option.map_map]
  congr 1
  funext p
  show mxi m (W + (1440 * (k : Int) + p.1)) = _
  rw [Int.add_assoc]
theorem nxt_spans (m W : Int) : ∀ (hs : List (List Pt)) (k : Nat), nxt m W (spans k hs) = (List.range hs.length).findSome? fun i : Nat => nxt m (W + 1440 * ((k : Int) + (i : Nat))) (hs.getD i [])
  | [], _ => rfl
  | d :: hs, k => by
    rw [spans, nxt_app, nxt_map, nxt_spans m W hs (k + 1), List.length_cons, List.range_succ_eq_map, List.findSome?_cons]
    have e : (List.findSome? (fun i : Nat => nxt m (W + 1440 * ((k : Int) + i)) ((d :: hs).getD i [])) ((List.range hs.length).map Nat.succ)) = (List.range hs.length).findSome? fun i : Nat => nxt m (W + 1440 * (((k + 1 : Nat) : Int) + (i : Nat))) (hs.getD i []) := by
      rw [List.findSome?_map]
      congr 1
      funext i
      show nxt m (W + 1440 * ((k : Int) + (i + 1 : Nat))) (hs.getD i []) = _
      congr 1
      omega
    rw [e]
    have e0 : nxt m (W + 1440 * ((k : Int) + ((0 : Nat) : Int))) ((d :: hs).getD 0 []) = nxt m (W + 1440 * (k : Int)) d := by
      rw [show W + 1440 * ((k : Int) + ((0 : Nat) : Int)) = W + 1440 * (k : Int) from by omega]; rfl
    rw [e0]
    cases nxt m (W + 1440 * (k : Int)) d <;> rfl
/-- the day i of the week w and of those behind it -/
def Fd' (hs : List (List Pt)) (m w : Int) (i : Nat) : Option Int := nxt m (1440 * (7 * w + i)) (hs.getD (i % 7) [])
def lawN (hs : List (List Pt)) (m w : Int) : Option Int := (nxt m (10080 * w) (M hs)).or (nxt m (10080 * (w + 1)) (M hs))
theorem lawN_is (o : OkH hs) (m w : Int) : lawN hs m w = (List.range 14).findSome? (Fd' hs m w) := by
  have e1 : ∀ W : Int, nxt m W (M hs) = (List.range 7).findSome? fun i : Nat => nxt m (W + 1440 * ((i : Nat) : Int)) (hs.getD i []) := fun W => by
    rw [M_inv (nxt m W) (nxt_inv m W) o.d, nxt_spans, o.l]
    congr 1
    funext i
    congr 2
    omega
  have e2 : List.range 14 = List.range 7 ++ (List.range 7).map (7 + ·) := by decide
  unfold lawN
  rw [e1, e1, e2, List.findSome?_append, List.findSome?_map]
  have c : ∀ {f g : Nat → Option Int}, (∀ i, i < 7 → f i = g i) → (List.range 7).findSome? f = (List.range 7).findSome? g := by
    intro f g h
    have e : List.range 7 = [0, 1, 2, 3, 4, 5, 6] := rfl
    rw [e]
    simp only [List.findSome?_cons, List.findSome?_nil, h 0 (by decide), h 1 (by decide), h 2 (by decide), h 3 (by decide), h 4 (by decide), h 5 (by decide), h 6 (by decide)]
  congr 1
  · refine c fun i hi => ?_
    unfold Fd'
    rw [Nat.mod_eq_of_lt hi]
    congr 1
    omega
  · refine c fun i hi => ?_
    show _ = Fd' hs m w (7 + i)
    unfold Fd'
    rw [Nat.add_mod_left, Nat.mod_eq_of_lt hi]
    congr 1
    omega
theorem fs_ext {F : Nat → Option Int} {xs ys : List Nat} (h : ∀ y ∈ ys, (∀ x ∈ xs, F x = none) → F y = none) : (xs ++ ys).findSome? F = xs.findSome? F := by
  rw [List.findSome?_append]
  cases e : xs.findSome? F with
  | some b => rfl
  | none =>
    have := List.findSome?_eq_none_iff.mp e
    exact List.findSome?_eq_none_iff.mpr fun y hy => h y hy this
theorem day_none {d : List Pt} (o : OkD d) {m D : Int} (h : m < 1440 * D) : nxt m (1440 * D) d = none ↔ d = [] := by
  constructor
  · intro e
    cases d with
    | nil => rfl
    | cons p d =>
      have := o.b p List.mem_cons_self
      unfold nxt at e
      rw [List.find?_cons, decide_eq_true (show m < 1440 * D + p.2 by omega)] at e
      cases e
  · intro e; subst e; rfl
theorem day_before {d : List Pt} (o : OkD d) {m D : Int} (h : 1440 * (D + 1) ≤ m) : nxt m (1440 * D) d = none := by
  unfold nxt
  rw [List.find?_eq_none.mpr fun p hp => ?_]
  · rfl
  · have := o.b p hp
    simp only [decide_eq_true_eq]
    omega
theorem getD_ok (o : OkH hs) (i : Nat) : OkD (hs.getD i []) := by
  by_cases h : i < hs.length
  · rw [List.getD_eq_getElem?_getD, List.getElem?_eq_getElem h]
    exact o.d _ (List.getElem_mem h)
  · rw [List.getD_eq_getElem?_getD, List.getElem?_eq_none (by omega)]
    exact ⟨List.Pairwise.nil, fun p hp => (by cases hp), Nat.zero_le _⟩
theorem lawN_prog (o : OkH hs) {m w : Int} {j : Nat} (hj : j < 7) {x : Int} (hm : m = 1440 * (7 * w + j) + x) (x0 : 0 ≤ x) (x1 : x < 1440) : lawN hs m w = (List.range 8).findSome? fun i => Fd' hs m w (j + i) := by
  rw [lawN_is o]
  have e1 : (List.range 8).findSome? (fun i => Fd' hs m w (j + i)) = ((List.range 8).map (j + ·)).findSome? (Fd' hs m w) := by rw [List.findSome?_map]; rfl
  have e2 : List.range 14 = List.range j ++ ((List.range 8).map (j + ·) ++ ((List.range (6 - j)).map (j + 8 + ·))) := by
    have : ∀ j : Fin 7, List.range 14 = List.range j.val ++ ((List.range 8).map (j.val + ·) ++ ((List.range (6 - j.val)).map (j.val + 8 + ·))) := by decide
    exact this ⟨j, hj⟩
  rw [e1, e2, List.findSome?_append, List.findSome?_eq_none_iff.mpr (fun i hi => ?_), Option.none_or, fs_ext fun y hy h => ?_]
  · obtain ⟨i, hi, rfl⟩ := List.mem_map.mp hy
    have hi := List.mem_range.mp hi
    have h1 := h (j + (i + 1)) (List.mem_map.mpr ⟨i + 1, List.mem_range.mpr (by omega), rfl⟩)
    unfold Fd' at h1 ⊢
    have q := (day_none (getD_ok o ((j + (i + 1)) % 7)) (by omega)).mp h1
    rw [show (j + 8 + i) % 7 = (j + (i + 1)) % 7 from by omega, q]
    rfl
  · have hi := List.mem_range.mp hi
    exact day_before (getD_ok o (i % 7)) (by omega)
/-! both open -/
def cm (a b : Pt) : Pt := (mxi a.1 b.1, mni a.2 b.2)
theorem cm_sym (a b : Pt) : cm a b = cm b a := by
  unfold cm mxi mni
  congr 1
  · split <;> split <;> omega
  · split <;> split <;> omega
def cms (a b : List Pt) : List Pt := (a.flatMap fun x => b.map (cm x)).filter fun p => decide (p.1 < p.2)
theorem flat_perm {α β γ : Type} (h : α → γ) (t : α → List γ) : ∀ ys : List α, (ys.flatMap fun y => h y :: t y).Perm (ys.map h ++ ys.flatMap t)
  | [] => List.Perm.refl _
  | y :: ys => by
    have ih := flat_perm (β := β) h t ys
    rw [List.flatMap_cons, List.map_cons, List.flatMap_cons, List.cons_append, List.cons_append]
    refine List.Perm.cons _ ?_
    refine (List.Perm.append_left (t y) ih).trans ?_
    rw [← List.append_assoc, ← List.append_assoc]
    exact List.Perm.append_right _ List.perm_append_comm
theorem flat_swap {α β γ : Type} (g : α → β → γ) : ∀ (xs : List α) (ys : List β), (xs.flatMap fun x => ys.map (g x)).Perm (ys.flatMap fun y => xs.map fun x => g x y)
  | [], ys => by
    have : (ys.flatMap fun y => ([] : List α).map fun x => g x y) = [] := by
      induction ys with
      | nil => rfl
      | cons y ys ih => rw [List.flatMap_cons, ih]; rfl
    rw [this]
    exact List.Perm.refl _
  | x :: xs, ys => by
    rw [List.flatMap_cons]
    refine (List.Perm.append_left (ys.map (g x)) (flat_swap g xs ys)).trans ?_
    exact (flat_perm (β := β) (g x) (fun y => xs.map fun x => g x y) ys).symm
theorem cms_sym (a b : List Pt) : psort (cms a b) = psort (cms b a) := by
  refine psort_eq ((psort_perm _).trans ?_) (psort_pw _)
  unfold cms
  refine List.Perm.filter _ ?_
  refine (flat_swap cm a b).trans ?_
  have : (fun y => a.map fun x => cm x y) = fun y => a.map (cm y) := by
    funext y
    exact List.map_congr_left fun x _ => cm_sym x y
  rw [this]
end
abbrev tP (d : List Pt) : D := .tup (d.map dPr)
abbrev lP (d : List Pt) : D := .lst (d.map dPr)
abbrev tH (hs : List (List Pt)) : D := .tup (hs.map tP)
abbrev lI (xs : List Int) : D := .lst (xs.map .int)
def mo (a x : Int) : D := .tup [.int a, .int x]
theorem isint_ok (i : Int) : m_is_integer (.int i) = .ok (.bl true) := rfl
theorem within_i (i lo hi : Int) : m_is_within (.int i) (.int lo) (.int hi) = .ok (.bl (decide (lo ≤ i) && decide (i ≤ hi))) := by
  unfold m_is_within
  rw [z_l1, isint_ok, z_avT, z_ch]
theorem p_0 (p : Pt) : l2 idxD (R.ok (dPr p)) (R.ok (D.int 0)) = .ok (.int p.1) := rfl
theorem p_1 (p : Pt) : l2 idxD (R.ok (dPr p)) (R.ok (D.int 1)) = .ok (.int p.2) := rfl
theorem m_0 (a x : Int) : l2 idxD (R.ok (mo a x)) (R.ok (D.int 0)) = .ok (.int a) := rfl
theorem m_1 (a x : Int) : l2 idxD (R.ok (mo a x)) (R.ok (D.int 1)) = .ok (.int x) := rfl
theorem stretch_ok {p : Pt} (h : 0 ≤ p.1 ∧ p.1 < p.2 ∧ p.2 ≤ 1440) : m_is_stretch (dPr p) = .ok (.bl true) := by
  unfold m_is_stretch
  have e1 : orB (notB (tst (l1 (isiD "tuple") (R.ok (dPr p))))) (tst (l2 neD (l1 lenD (R.ok (dPr p))) (R.ok (D.int 2)))) = .ok false := rfl
  rw [e1, z_ifF]
  have e2 : itR (R.ok (dPr p)) = .ok ([p.1, p.2].map D.int) := rfl
  rw [e2, all_true (h := D.int) fun x hx => ?_, z_avT, p_0, p_1, z_l2, z_lt, decide_eq_true h.2.1]
  show l3 m_is_within (R.ok (D.int x)) _ _ = _
  rw [z_l3, within_i]
  simp only [List.mem_cons, List.not_mem_nil, or_false] at hx
  have : 0 ≤ x ∧ x ≤ 1440 := by rcases hx with rfl | rfl <;> omega
  rw [decide_eq_true this.1, decide_eq_true this.2]; rfl
theorem zip_next_t (xs : List Pt) (h : xs.length ≤ 1000) : zipD (R.ok (tP xs)) (sliceR (R.ok (tP xs)) (some (R.ok (D.int 1))) none) = .ok ((xs.zip (xs.drop 1)).map fun p => .tup [dPr p.1, dPr p.2]) := by
  have e : sliceR (R.ok (tP xs)) (some (R.ok (D.int 1))) none = .ok (tP (xs.drop 1)) := by
    show R.ok (D.tup (cut (xs.map dPr) (some 1) none)) = _
    rw [cut_1, tP, List.map_drop]
  rw [e]
  show (if (zipL (xs.map dPr) ((xs.drop 1).map dPr)).length ≤ SZ then R.ok (zipL (xs.map dPr) ((xs.drop 1).map dPr)) else .stuck) = _
  rw [zipL_map, if_pos (sz_ok (by rw [List.length_map, List.length_zip]; omega))]
theorem zip_next_l (xs : List Pt) (h : xs.length ≤ 1000) : zipD (R.ok (lP xs)) (sliceR (R.ok (lP xs)) (some (R.ok (D.int 1))) none) = .ok ((xs.zip (xs.drop 1)).map fun p => .tup [dPr p.1, dPr p.2]) := by
  have e : sliceR (R.ok (lP xs)) (some (R.ok (D.int 1))) none = .ok (lP (xs.drop 1)) := by
    show R.ok (D.lst (cut (xs.map dPr) (some 1) none)) = _
    rw [cut_1, lP, List.map_drop]
  rw [e]
  show (if (zipL (xs.map dPr) ((xs.drop 1).map dPr)).length ≤ SZ then R.ok (zipL (xs.map dPr) ((xs.drop 1).map dPr)) else .stuck) = _
  rw [zipL_map, if_pos (sz_ok (by rw [List.length_map, List.length_zip]; omega))]
theorem day_ok {d : List Pt} (o : OkD d) : m_is_day (tP d) = .ok (.bl true) := by
  have hl := o.l
  unfold m_is_day
  rw [show l1 (isiD "tuple") (R.ok (tP d)) = .ok (.bl true) from rfl, show notB (tst (R.ok (D.bl true))) = .ok false from rfl, z_orF, z_l1 lenD, z_lenT, List.length_map, z_l2 gtD, z_gt, z_tst, z_tr, decide_eq_false (by omega), z_orF, z_itT, all_true (h := dPr) fun p hp => by
    show l1 m_is_stretch (R.ok (dPr p)) = _
    rw [z_l1, stretch_ok (o.b p hp)], show notB (tst (R.ok (D.bl true))) = .ok false from rfl, z_ifF, zip_next_t d (by omega), all_true fun p hp => ?_]
  show U2 _ (D.tup [dPr p.1, dPr p.2]) _ = _
  unfold U2
  rw [z_u2]
  show l2 ltD (l2 idxD (R.ok (dPr p.1)) (R.ok (D.int 1))) (l2 idxD (R.ok (dPr p.2)) (R.ok (D.int 0))) = _
  have := zip_next o.pw p hp
  rw [p_0, p_1, z_l2, z_lt, decide_eq_true this]
section
variable {hs : List (List Pt)}
theorem open_ok (o : OkH hs) : m_check_open (tH hs) = .ok .non := by
  have hl := o.l
  unfold m_check_open
  rw [show l1 (isiD "tuple") (R.ok (tH hs)) = .ok (.bl true) from rfl, show notB (tst (R.ok (D.bl true))) = .ok false from rfl, z_orF, z_l1 lenD, z_lenT, List.length_map, hl, show tst (l2 neD (R.ok (D.int ((7 : Nat) : Int))) (R.ok (D.int 7))) = .ok false from rfl, z_orF, z_itT, all_true (h := tP) fun d hd => by
    show l1 m_is_day (R.ok (tP d)) = _
    rw [z_l1, day_ok (o.d d hd)]]
  rfl
theorem mom_ok {a x : Int} (ha : 0 ≤ a) (h0 : 0 ≤ x) (h1 : x < 1440) : m_check_moment (mo a x) = .ok .non := by
  have : m_is_moment (mo a x) = .ok (.bl true) := by
    unfold m_is_moment
    rw [show l1 (isiD "tuple") (R.ok (mo a x)) = .ok (.bl true) from rfl, show notB (tst (R.ok (D.bl true))) = .ok false from rfl, z_orF, show tst (l2 neD (l1 lenD (R.ok (mo a x))) (R.ok (D.int 2))) = .ok false from rfl, z_orF, m_0, z_l1, isint_ok, show notB (tst (R.ok (D.bl true))) = .ok false from rfl, z_orF, z_l2 ltD, z_lt, decide_eq_false (by omega), z_tst, z_tr, z_ifF, m_1, z_l2 subD, z_sub, z_l3, within_i, decide_eq_true h0, decide_eq_true (by omega)]
    rfl
  unfold m_check_moment
  rw [z_l1, this]; rfl
theorem idx_H {j : Nat} (hj : j < hs.length) : l2 idxD (R.ok (tH hs)) (R.ok (D.int (j : Nat))) = .ok (tP (hs.getD j [])) := by
  rw [z_l2]
  refine idx_tup ?_
  rw [List.getElem?_map, List.getElem?_eq_getElem hj, List.getD_eq_getElem?_getD, List.getElem?_eq_getElem hj]; rfl
theorem mod7 (a : Nat) : l2 modD (R.ok (D.int (a : Nat))) (R.ok (D.int 7)) = .ok (.int (a % 7 : Nat)) := by
  rw [z_l2, modD_int (by decide), show (7 : Int) = ((7 : Nat) : Int) from rfl, ← Int.ofNat_fmod]
theorem fdivN (a b : Nat) (h0 : b ≠ 0) (h1 : b < 1073741824) : l2 fdivD (R.ok (D.int (a : Nat))) (R.ok (D.int (b : Nat))) = .ok (.int (a / b : Nat)) := by
  rw [z_l2, fdivD_int (by omega) (by rw [Int.natAbs_natCast]; exact h1), ← Int.ofNat_fdiv]
theorem div7 (a : Nat) : l2 fdivD (R.ok (D.int (a : Nat))) (R.ok (D.int 7)) = .ok (.int (a / 7 : Nat)) := fdivN a 7 (by decide) (by decide)
theorem div1440 (a : Nat) : l2 fdivD (R.ok (D.int (a : Nat))) (R.ok (D.int 1440)) = .ok (.int (a / 1440 : Nat)) := fdivN a 1440 (by decide) (by decide)
theorem div10080 (a : Nat) : l2 fdivD (R.ok (D.int (a : Nat))) (R.ok (D.int 10080)) = .ok (.int (a / 10080 : Nat)) := fdivN a 10080 (by decide) (by decide)
theorem any_map {α : Type} {xs : List α} {h : α → D} {F : D → R D} {p : α → Bool} (e : ∀ x ∈ xs, F (h x) = .ok (.bl (p x))) : l1 anyD (lcR (R.ok (xs.map h)) F) = .ok (.bl (xs.any p)) := by
  rw [lcR_map (g := fun x => D.bl (p x)) e, show D.lst (xs.map fun x => D.bl (p x)) = .lst ((xs.map p).map D.bl) from by rw [List.map_map]; rfl, z_l1, anyD_lst, List.any_map]
  rfl
theorem chlt (x y z : Int) : chD leD ltD (R.ok (D.int x)) (R.ok (D.int y)) (R.ok (D.int z)) = .ok (.bl (decide (x ≤ y) && decide (y < z))) := by
  unfold chD
  rw [z_bok, z_bok, z_le, z_bok]
  cases decide (x ≤ y) with
  | true => rfl
  | false => rfl
theorem opens_ok (o : OkH hs) (a : Nat) (x : Int) : m_opens (tH hs) (mo a x) = .ok (.bl (fl x (hs.getD (a % 7) []))) := by
  unfold m_opens
  rw [m_0, mod7, idx_H (by rw [o.l]; omega), z_itT, any_map (p := fun p : Pt => decide (p.1 ≤ x) && decide (x < p.2)) fun p hp => ?_]
  · rfl
  · show U2 _ (D.tup [.int p.1, .int p.2]) _ = _
    unfold U2
    rw [z_u2]
    show chD leD ltD (R.ok (D.int p.1)) (l2 idxD (R.ok (mo a x)) (R.ok (D.int 1))) (R.ok (D.int p.2)) = _
    rw [m_1, chlt]
theorem isopen_ok (o : OkH hs) {a : Nat} {x : Int} (h0 : 0 ≤ x) (h1 : x < 1440) : m_is_open (tH hs) (mo a x) = .ok (.bl (fl x (hs.getD (a % 7) []))) := by
  unfold m_is_open
  rw [z_l1 m_check_open, open_ok o, z_bok, z_l1, mom_ok (by omega) h0 h1, z_bok, z_l2, opens_ok o]
theorem lmom_ok (m : Nat) : m_law_moment (.int (m : Nat)) = .ok (mo (m / 1440 : Nat) (m % 1440 : Nat)) := by
  unfold m_law_moment
  rw [div1440, z_l2 mulD, mul_ok (by decide), z_l2 subD, z_sub, show (m : Int) - 1440 * ((m / 1440 : Nat) : Int) = ((m % 1440 : Nat) : Int) from by omega]
  rfl
/-! minutes -/
theorem sum_map {α : Type} {xs : List α} {h : α → D} {F : D → R D} {p : α → Int} (e : ∀ x ∈ xs, F (h x) = .ok (.int (p x))) : l1 sumD (lcR (R.ok (xs.map h)) F) = .ok (.int (xs.map p).sum) := by
  rw [lcR_map (g := fun x => D.int (p x)) e, show D.lst (xs.map fun x => D.int (p x)) = lI (xs.map p) from by rw [lI, List.map_map]; rfl, z_l1, sumD_lst]
theorem minon_ok {d : List Pt} (o : OkD d) (E : Int) : m_minutes_on (tP d) (.int 0) (.int E) = .ok (.int (sm (prt E) d)) := by
  unfold m_minutes_on
  rw [z_itT, sum_map (p := prt E) fun p hp => ?_]
  · rfl
  · show U2 _ (D.tup [.int p.1, .int p.2]) _ = _
    unfold U2
    rw [z_u2]
    show l2 max2D (R.ok (D.int 0)) (l2 subD (l2 min2D (R.ok (D.int p.2)) (R.ok (D.int E))) (l2 max2D (R.ok (D.int p.1)) (R.ok (D.int 0)))) = _
    rw [z_l2 min2D, z_min, z_l2 max2D, z_max, z_l2 subD, z_sub, z_l2 max2D, z_max]
    have := (o.b p hp).1
    rw [show (if (0 : Int) > p.1 then (0 : Int) else p.1) = p.1 from if_neg (by omega)]
    rfl
theorem prt_full {d : List Pt} (o : OkD d) : sm (prt 1440) d = sm full d := sm_congr fun p hp => by
  have := o.b p hp
  unfold prt mxi mni full
  split <;> split <;> omega
theorem fulls_ok {ds : List (List Pt)} (o : ∀ d ∈ ds, OkD d) : l1 sumD (lcR (R.ok (ds.map tP)) fun d => U1 _ d fun (v_t0 : D) => (l3 m_minutes_on (R.ok v_t0) (R.ok (D.int 0)) (R.ok (D.int 1440)))) = .ok (.int (ds.map (sm full)).sum) := by
  rw [sum_map (p := sm full) fun d hd => ?_]
  show l3 m_minutes_on (R.ok (tP d)) _ _ = _
  rw [z_l3, minon_ok (o d hd), prt_full (o d hd)]
/-- the minutes up to there -/
def tu (hs : List (List Pt)) (m : Nat) : Int := ((m / 10080 : Nat) : Int) * (hs.map (sm full)).sum + ((hs.take (m / 1440 % 7)).map (sm full)).sum + sm (prt ((m % 1440 : Nat) : Int)) (hs.getD (m / 1440 % 7) [])
theorem told_ok (o : OkH hs) (m : Nat) : m_told_up_to (tH hs) (.int (hs.map (sm full)).sum) (mo (m / 1440 : Nat) (m % 1440 : Nat)) = .ok (.int (tu hs m)) := by
  have wb := week_b o.d
  have hl := o.l
  unfold m_told_up_to
  rw [m_0, div7, z_bok, z_tkf, mod7, z_bok, z_tkf]
  have e1 : sliceR (R.ok (tH hs)) none (some (R.ok (D.int (m / 1440 % 7 : Nat)))) = .ok (tH (hs.take (m / 1440 % 7))) := by
    show R.ok (D.tup (cut (hs.map tP) none (some ((m / 1440 % 7 : Nat) : Int)))) = _
    rw [cut_to, tH, List.map_take]
  rw [e1, z_itT, fulls_ok fun d hd => o.d d (List.mem_of_mem_take hd), z_l2 mulD, mul_ok' (by omega), z_l2 addD, z_add, z_bok, idx_H (by omega), m_1, z_l3, minon_ok (getD_ok o _), z_l2, z_add]
  unfold tu
  rw [show m / 1440 / 7 = m / 10080 from by omega]
theorem lt_mo {a b x y : Int} : l2 ltD (R.ok (mo a x)) (R.ok (mo b y)) = .ok (.bl (if a = b then decide (x < y) else decide (a < b))) := by
  rw [z_l2]
  show (if flat 60 (mo a x) = true ∧ flat 60 (mo b y) = true ∧ cmpb (mo a x) (mo b y) = true then R.ok (D.bl (ltb (mo a x) (mo b y))) else R.stuck) = _
  rw [if_pos ⟨rfl, rfl, by
    unfold cmpb mo
    first | rfl | (simp [cmpb, cmpbL])⟩]
  congr 2
  unfold ltb mo
  rw [cmpw, cmpwL]
  by_cases q : a = b
  · rw [if_pos (by simp [eqv, q]), if_pos q, cmpwL]
    by_cases r : x = y
    · rw [if_pos (by simp [eqv, r]), cmpwL]
      simp [r]
    · rw [if_neg (by simp [eqv, r]), cmpw]
  · rw [if_neg (by simp [eqv, q]), if_neg q, cmpw]
theorem minutes_ok (o : OkH hs) {m n : Nat} (h : m ≤ n) : m_open_minutes (tH hs) (mo (m / 1440 : Nat) (m % 1440 : Nat)) (mo (n / 1440 : Nat) (n % 1440 : Nat)) = .ok (.int (tu hs n - tu hs m)) := by
  unfold m_open_minutes
  rw [z_l1 m_check_open, open_ok o, z_bok, z_l1, mom_ok (by omega) (by omega) (by omega), z_bok, z_l1, mom_ok (by omega) (by omega) (by omega), z_bok, lt_mo]
  have : (if ((n / 1440 : Nat) : Int) = ((m / 1440 : Nat) : Int) then decide (((n % 1440 : Nat) : Int) < ((m % 1440 : Nat) : Int)) else decide (((n / 1440 : Nat) : Int) < ((m / 1440 : Nat) : Int))) = false := by
    split
    · exact decide_eq_false (by omega)
    · exact decide_eq_false (by omega)
  rw [this, z_tst, z_tr, z_ifF, z_itT, fulls_ok o.d, z_bok, z_l3, told_ok o, z_l3, told_ok o, z_l2, z_sub]
end
section
variable {hs : List (List Pt)}
/-! ### stretches -/
theorem idx_end (ys : List Pt) (l : Pt) : l2 idxD (R.ok (D.lst ((ys ++ [l]).map dPr))) (l1 negD (R.ok (D.int 1))) = .ok (dPr l) := by
  rw [List.map_append]
  show idxD (.lst (ys.map dPr ++ [dPr l])) (.int (-1)) = _
  exact idx_last
theorem set_end (ys : List Pt) (l d : Pt) : setL ((ys ++ [l]).map dPr) (.int (-1)) (dPr d) = .ok ((ys ++ [d]).map dPr) := by
  show (match ixAt ((ys ++ [l]).map dPr).length (-1) with | some j => R.ok (((ys ++ [l]).map dPr).set j (dPr d)) | none => R.stuck) = _
  have e : ixAt ((ys ++ [l]).map dPr).length (-1) = some ys.length := by
    unfold ixAt
    rw [if_neg (by decide), List.length_map, List.length_append, List.length_singleton, if_pos (by omega)]
    congr 1; omega
  rw [e]
  simp only []
  rw [List.map_append, List.map_append, List.set_append_right _ _ (by rw [List.length_map]; exact Nat.le_refl _), List.length_map, Nat.sub_self]
  rfl
theorem mg_snoc (ys : List Pt) (l q : Pt) : mg (ys ++ [l]) q = if l.2 = q.1 then ys ++ [(l.1, q.2)] else ys ++ [l] ++ [q] := by
  unfold mg
  rw [List.getLast?_concat]
  simp only [List.dropLast_concat]
abbrev stF (k : Nat) : List D → D → R (List D) := fun (v_s4 : List D) d => U2 _ d fun (v_t5 : D × D) => ((ifR (andB (tst (l2 gtD (l1 lenD (R.ok (D.lst v_s4))) (R.ok (D.int 0)))) (tst (l2 eqD (l2 idxD (l2 idxD (R.ok (D.lst v_s4)) (l1 negD (R.ok (D.int 1)))) (R.ok (D.int 1))) (l2 addD (l2 mulD (R.ok (D.int 1440)) (R.ok (D.int (k : Nat)))) (R.ok v_t5.1))))) ((tupR [(l2 idxD (l2 idxD (R.ok (D.lst v_s4)) (l1 negD (R.ok (D.int 1)))) (R.ok (D.int 0))), (l2 addD (l2 mulD (R.ok (D.int 1440)) (R.ok (D.int (k : Nat)))) (R.ok v_t5.2))]).bind fun v_d6 => (l1 negD (R.ok (D.int 1))).bind fun v_j7 => (setL v_s4 v_j7 v_d6).bind fun v_found8 => (R.ok v_found8)) ((tupR [(l2 addD (l2 mulD (R.ok (D.int 1440)) (R.ok (D.int (k : Nat)))) (R.ok v_t5.1)), (l2 addD (l2 mulD (R.ok (D.int 1440)) (R.ok (D.int (k : Nat)))) (R.ok v_t5.2))]).bind fun v_d9 => (appL v_s4 v_d9).bind fun v_found10 => (R.ok v_found10)) : R (List D)).bind fun v_s11 => (R.ok v_s11))
theorem st_step (k : Nat) (acc : List Pt) (p : Pt) (hl : acc.length < 1000) : stF k (acc.map dPr) (dPr p) = .ok ((mg acc (sh k p)).map dPr) := by
  show U2 _ (D.tup [.int p.1, .int p.2]) _ = _
  unfold U2
  rw [z_u2]
  have em : l2 mulD (R.ok (D.int 1440)) (R.ok (D.int (k : Nat))) = .ok (.int (1440 * (k : Int))) := by rw [z_l2, mul_ok (by decide)]
  simp only []
  rw [em, z_l2 addD, z_add, z_l2 addD, z_add]
  have app : ((tupR [(R.ok (D.int (1440 * (k : Int) + p.1))), (R.ok (D.int (1440 * (k : Int) + p.2)))]).bind fun v_d9 => (appL (acc.map dPr) v_d9).bind fun v_found10 => (R.ok v_found10)) = .ok ((acc ++ [sh k p]).map dPr) := by
    rw [show tupR [(R.ok (D.int (1440 * (k : Int) + p.1))), (R.ok (D.int (1440 * (k : Int) + p.2)))] = .ok (dPr (sh k p)) from rfl, z_bok, appL_ok (by rw [List.length_map]; omega), z_bok, List.map_append]; rfl
  rcases List.eq_nil_or_concat acc with e | ⟨ys, l, e⟩
  · subst e
    rw [show tst (l2 gtD (l1 lenD (R.ok (D.lst (([] : List Pt).map dPr)))) (R.ok (D.int 0))) = .ok false from rfl, z_anF, z_ifF, app, z_bok]
    rfl
  · rw [List.concat_eq_append] at e
    subst e
    rw [z_l1 lenD, z_len, List.length_map, z_l2 gtD, z_gt, z_tst, z_tr, decide_eq_true (by rw [List.length_append, List.length_singleton]; omega), z_anT, idx_end, p_0, p_1, z_l2 eqD, eqD_int, z_tst, z_tr, mg_snoc]
    by_cases c : l.2 = (sh k p).1
    · rw [show (l.2 == 1440 * (k : Int) + p.1) = true from by rw [beq_iff_eq]; exact c, z_ifT, if_pos c, show tupR [(R.ok (D.int l.1)), (R.ok (D.int (1440 * (k : Int) + p.2)))] = .ok (dPr (l.1, (sh k p).2)) from rfl, z_bok, show l1 negD (R.ok (D.int 1)) = .ok (.int (-1)) from rfl, z_bok, set_end, z_bok, z_bok]
    · rw [show (l.2 == 1440 * (k : Int) + p.1) = false from by rw [Bool.eq_false_iff]; intro z; exact c (eq_of_beq z), z_ifF, if_neg c, app, z_bok]
theorem st_day (k : Nat) : ∀ (d acc : List Pt), acc.length + d.length < 1000 → forR (stF k) (acc.map dPr) (d.map dPr) = .ok (((d.map (sh k)).foldl mg acc).map dPr)
  | [], acc, _ => rfl
  | p :: d, acc, h => by
    rw [List.length_cons] at h
    have := mg_len acc (sh k p)
    rw [List.map_cons, forR_c, st_step k acc p (by omega), z_bok, st_day k d _ (by omega)]
    rfl
theorem st_all : ∀ (hs : List (List Pt)) (k : Nat) (acc : List Pt), acc.length + (spans k hs).length < 1000 → forR (fun (v_s2 : List D) d => U2 _ d fun (v_t3 : D × D) => (((itR (R.ok v_t3.2)).bind fun xs => forR (fun (v_s4 : List D) d => U2 _ d fun (v_t5 : D × D) => ((ifR (andB (tst (l2 gtD (l1 lenD (R.ok (D.lst v_s4))) (R.ok (D.int 0)))) (tst (l2 eqD (l2 idxD (l2 idxD (R.ok (D.lst v_s4)) (l1 negD (R.ok (D.int 1)))) (R.ok (D.int 1))) (l2 addD (l2 mulD (R.ok (D.int 1440)) (R.ok v_t3.1)) (R.ok v_t5.1))))) ((tupR [(l2 idxD (l2 idxD (R.ok (D.lst v_s4)) (l1 negD (R.ok (D.int 1)))) (R.ok (D.int 0))), (l2 addD (l2 mulD (R.ok (D.int 1440)) (R.ok v_t3.1)) (R.ok v_t5.2))]).bind fun v_d6 => (l1 negD (R.ok (D.int 1))).bind fun v_j7 => (setL v_s4 v_j7 v_d6).bind fun v_found8 => (R.ok v_found8)) ((tupR [(l2 addD (l2 mulD (R.ok (D.int 1440)) (R.ok v_t3.1)) (R.ok v_t5.1)), (l2 addD (l2 mulD (R.ok (D.int 1440)) (R.ok v_t3.1)) (R.ok v_t5.2))]).bind fun v_d9 => (appL v_s4 v_d9).bind fun v_found10 => (R.ok v_found10)) : R (List D)).bind fun v_s11 => (R.ok v_s11))) v_s2 xs).bind fun v_s12 => (R.ok v_s12))) (acc.map dPr) ((hs.zipIdx k).map fun p => D.tup [.int (p.2 : Nat), tP p.1]) = .ok (((spans k hs).foldl mg acc).map dPr)
  | [], k, acc, _ => rfl
  | d :: hs, k, acc, h => by
    rw [spans, List.length_append, List.length_map] at h
    have hl := mgs_len (d.map (sh k)) acc
    rw [List.length_map] at hl
    rw [List.zipIdx_cons, List.map_cons, forR_c]
    have e : ∀ f : D → D → R (List D), unp2 (D.tup [.int (k : Nat), tP d]) f = f (.int (k : Nat)) (tP d) := fun f => rfl
    refine (congrArg (fun m : R (List D) => m.bind _) ((?_ : _ = R.ok (((d.map (sh k)).foldl mg acc).map dPr)))).trans ?_
    · show U2 _ (D.tup [.int (k : Nat), tP d]) _ = _
      unfold U2
      rw [z_u2]
      show R.bind (forR (stF k) (acc.map dPr) (d.map dPr)) _ = _
      rw [st_day k d acc (by omega), z_bok]
    · rw [z_bok, st_all hs (k + 1) _ (by omega), spans, List.foldl_append]
theorem stretches_ok (o : OkH hs) : m_law_stretches (tH hs) = .ok (lP (M hs)) := by
  have hl := o.l
  have sl := spans_len hs 0 o.d
  unfold m_law_stretches
  rw [show lstR [] = .ok (.lst []) from rfl, z_bok, z_own, z_bok, z_enum, enumL_map, z_bok]
  have := st_all hs 0 [] (by rw [List.length_nil]; omega)
  refine (congrArg (fun m : R (List D) => m.bind fun v_s13 => (R.ok (D.lst v_s13))) this).trans ?_
  rfl
theorem lmin_ok (o : OkH hs) (m : Nat) : m_law_minutes (tH hs) (.int (m : Nat)) = .ok (.int (tu hs m)) := by
  have wb := week_b o.d
  have hl := o.l
  unfold m_law_minutes
  rw [div10080, z_bok, z_l2 mulD, mul_ok (by decide), z_l2 subD, z_sub, z_bok, z_l1 m_law_stretches, stretches_ok o, show itR (R.ok (lP (M hs))) = .ok ((M hs).map dPr) from rfl, sum_map (p := full) fun p hp => ?_, z_bok, sum_map (p := prt ((m % 10080 : Nat) : Int)) fun p hp => ?_, z_bok]
  · rw [show ((M hs).map full).sum = sm full (M hs) from rfl, full_M o, show ((M hs).map (prt ((m % 10080 : Nat) : Int))).sum = sm (prt ((m % 10080 : Nat) : Int)) (M hs) from rfl, show ((m % 10080 : Nat) : Int) = 1440 * ((m / 1440 % 7 : Nat) : Int) + ((m % 1440 : Nat) : Int) from by omega, prt_M o (by omega) (by omega) (by omega), z_l2 mulD, mul_ok' (by omega), z_l2, z_add]
    unfold tu
    rw [Int.add_assoc]
  · show U2 _ (D.tup [.int p.1, .int p.2]) _ = _
    unfold U2
    rw [z_u2]
    show l2 max2D (R.ok (D.int 0)) (l2 subD (l2 min2D (R.ok (D.int p.2)) (R.ok (D.int ((m : Int) - 10080 * ((m / 10080 : Nat) : Int))))) (R.ok (D.int p.1))) = _
    rw [z_l2 min2D, z_min, z_l2 subD, z_sub, z_l2 max2D, z_max, show (m : Int) - 10080 * ((m / 10080 : Nat) : Int) = ((m % 10080 : Nat) : Int) from by omega]
    rfl
  · show U2 _ (D.tup [.int p.1, .int p.2]) _ = _
    unfold U2
    rw [z_u2]
    show l2 subD (R.ok (D.int p.2)) (R.ok (D.int p.1)) = _
    rw [z_l2, z_sub]
    rfl
/-! ### shut -/
theorem ext_all : ∀ (hs : List (List Pt)) (k : Nat) (acc : List Pt), acc.length + (spans k hs).length < 1000 → forR (fun (v_s2 : List D) d => U2 _ d fun (v_t3 : D × D) => ((lcR (itR (R.ok v_t3.2)) fun d => U2 _ d fun (v_t4 : D × D) => (tupR [(l2 addD (l2 mulD (R.ok v_t3.1) (R.ok (D.int 1440))) (R.ok v_t4.1)), (l2 addD (l2 mulD (R.ok v_t3.1) (R.ok (D.int 1440))) (R.ok v_t4.2))])).bind fun v_d5 => (extL v_s2 v_d5).bind fun v_spans6 => (R.ok v_spans6))) (acc.map dPr) ((hs.zipIdx k).map fun p => D.tup [.int (p.2 : Nat), tP p.1]) = .ok ((acc ++ spans k hs).map dPr)
  | [], k, acc, _ => by rw [spans, List.append_nil]; rfl
  | d :: hs, k, acc, h => by
    rw [spans, List.length_append, List.length_map] at h
    rw [List.zipIdx_cons, List.map_cons, forR_c]
    refine (congrArg (fun m : R (List D) => m.bind _) ((?_ : _ = R.ok ((acc ++ d.map (sh k)).map dPr)))).trans ?_
    · show U2 _ (D.tup [.int (k : Nat), tP d]) _ = _
      unfold U2
      rw [z_u2]
      show R.bind (lcR (R.ok (d.map dPr)) _) _ = _
      rw [lcR_map (g := fun p => dPr (sh k p)) fun p _ => ?_, z_bok]
      · show (if _ then R.ok _ else R.stuck).bind _ = _
        rw [if_pos (sz_ok (by rw [List.length_map, List.length_map]; omega)), z_bok, List.map_append, List.map_map]
        rfl
      · show unp2 (D.tup [.int p.1, .int p.2]) _ = _
        rw [z_u2]
        show tupR [(l2 addD (l2 mulD (R.ok (D.int (k : Nat))) (R.ok (D.int 1440))) (R.ok (D.int p.1))), (l2 addD (l2 mulD (R.ok (D.int (k : Nat))) (R.ok (D.int 1440))) (R.ok (D.int p.2)))] = _
        rw [z_l2 mulD, mul_ok' (by decide), z_l2 addD, z_add, z_l2 addD, z_add, Int.mul_comm]
        rfl
    · rw [z_bok, ext_all hs (k + 1) _ (by rw [List.length_append, List.length_map]; omega), spans, List.append_assoc]
theorem gl_zip (f : Int) (y : Int) : ∀ (r : List Pt) (p : Pt), ((p :: r).zip (r ++ [(f + 10080, y)])).map (fun q => q.2.1 - q.1.2) = gl f p r
  | [], p => rfl
  | q :: r, p => by
    rw [List.cons_append, List.zip_cons_cons, List.map_cons, gl_zip f y r q]
    rfl
theorem gl_next (f : Int) : ∀ (r : List Pt) (p : Pt), ((p :: r).zip r).map (fun q => q.2.1 - q.1.2) ++ [f + 10080 - ((p :: r).getLast (by simp)).2] = gl f p r
  | [], p => rfl
  | q :: r, p => by
    rw [List.zip_cons_cons, List.map_cons, List.cons_append, List.getLast_cons (by simp), gl_next f r q]
    rfl
theorem flat_dPs {n : Nat} (ps : List Pt) : flatL (n + 1) (ps.map dPr) = true := flatL_all fun x hx => by
  obtain ⟨p, _, rfl⟩ := List.mem_map.mp hx
  rw [dPr, flat_tup]
  exact flatL_all fun x hx => by
    simp only [List.mem_cons, List.not_mem_nil, or_false] at hx
    rcases hx with rfl | rfl <;> exact flat_int _ _
theorem flat_lP (ps : List Pt) : flat 64 (lP ps) = true := flat_dPs ps
theorem ne_nil_P (ps : List Pt) : tst (l2 neD (R.ok (lP ps)) (lstR [])) = .ok (!ps.isEmpty) := by
  rw [show lstR [] = .ok (.lst []) from rfl, z_l2 neD, neD_of (flat_lP ps) rfl, z_tst, z_tr]
  cases ps <;> rfl
theorem flat_lI (xs : List Int) : flat 64 (lI xs) = true := by
  rw [flat_lst]
  refine flatL_all fun x hx => ?_
  obtain ⟨i, _, rfl⟩ := List.mem_map.mp hx
  exact flat_int _ _
theorem sub_zip {ps qs : List Pt} {r : R (List D)} (e : r = .ok ((ps.zip qs).map fun p => .tup [dPr p.1, dPr p.2])) : (lcR r fun d => U2 _ d fun (v_t9 : D × D) => (l2 subD (l2 idxD (R.ok v_t9.2) (R.ok (D.int 0))) (l2 idxD (R.ok v_t9.1) (R.ok (D.int 1))))) = .ok (lI ((ps.zip qs).map fun q => q.2.1 - q.1.2)) := by
  rw [e, lcR_map (g := fun q : Pt × Pt => D.int (q.2.1 - q.1.2)) fun q _ => ?_]
  · rw [lI, List.map_map]; rfl
  · show U2 _ (D.tup [dPr q.1, dPr q.2]) _ = _
    unfold U2
    rw [z_u2]
    show l2 subD (l2 idxD (R.ok (dPr q.2)) (R.ok (D.int 0))) (l2 idxD (R.ok (dPr q.1)) (R.ok (D.int 1))) = _
    rw [p_0, p_1, z_l2, z_sub]
def glL : List Pt → List Int
  | [] => []
  | p :: r => gl p.1 p r
theorem idx_0 (p : Pt) (r : List Pt) : l2 idxD (R.ok (lP (p :: r))) (R.ok (D.int 0)) = .ok (dPr p) := by
  rw [z_l2]
  exact idx_lst (i := 0) rfl
theorem shut_ok (o : OkH hs) : m_shut_spans (tH hs) = .ok (lI (glL (spans 0 hs))) := by
  have hl := o.l
  have sl := spans_len hs 0 o.d
  unfold m_shut_spans
  rw [show lstR [] = .ok (.lst []) from rfl, z_bok, z_own, z_bok, z_enum, enumL_map, z_bok]
  have := ext_all hs 0 [] (by rw [List.length_nil]; omega)
  rw [List.nil_append] at this
  refine (congrArg (fun m : R (List D) => m.bind _) this).trans ?_
  rw [z_bok]
  show R.bind (ifR (tst (l2 neD (R.ok (lP (spans 0 hs))) (lstR []))) _ _) _ = _
  rw [ne_nil_P]
  cases e : spans 0 hs with
  | nil =>
    rw [show (!([] : List Pt).isEmpty) = false from rfl, z_ifF, z_bok]
    exact sub_zip (ps := []) (qs := []) rfl
  | cons p r =>
    rw [show (!(p :: r).isEmpty) = true from rfl, z_ifT]
    have e1 : sliceR (R.ok (D.lst ((p :: r).map dPr))) (some (R.ok (D.int 1))) none = .ok (lP r) := by
      show R.ok (D.lst (cut ((p :: r).map dPr) (some 1) none)) = _
      rw [cut_1]; rfl
    have e2 : (lstR [(tupR [(l2 addD (l2 idxD (l2 idxD (R.ok (D.lst ((p :: r).map dPr))) (R.ok (D.int 0))) (R.ok (D.int 0))) (l2 mulD (R.ok (D.int 7)) (R.ok (D.int 1440)))), (R.ok (D.int 0))])]) = .ok (lP [(p.1 + 10080, 0)]) := by
      rw [idx_0 p r, p_0, show l2 mulD (R.ok (D.int 7)) (R.ok (D.int 1440)) = .ok (.int 10080) from rfl, z_l2, z_add]
      rfl
    have rl : r.length ≤ 21 := by
      rw [e, List.length_cons] at sl; omega
    have e3 : addD (lP r) (lP [(p.1 + 10080, 0)]) = .ok (lP (r ++ [(p.1 + 10080, 0)])) := by
      show (if _ then _ else _) = _
      rw [if_pos (sz_ok (by rw [List.length_map, List.length_map]; simp; omega)), lP, List.map_append]
    rw [e1, e2, z_l2, e3, z_bok]
    rw [sub_zip (ps := p :: r) (qs := r ++ [(p.1 + 10080, 0)]) ?_, gl_zip]
    · rfl
    · show (if (zipL ((p :: r).map dPr) ((r ++ [(p.1 + 10080, 0)]).map dPr)).length ≤ SZ then R.ok (zipL ((p :: r).map dPr) ((r ++ [(p.1 + 10080, 0)]).map dPr)) else .stuck) = _
      rw [zipL_map, if_pos (sz_ok (by rw [List.length_map, List.length_zip, List.length_cons]; omega))]
theorem cmps_ints (xs : List Int) : okAll (xs.map D.int) = true := by
  unfold okAll
  rw [Bool.and_eq_true, List.all_eq_true]
  refine ⟨flatL_all fun x hx => ?_, fun x hx => List.all_eq_true.mpr fun y hy => ?_⟩
  · obtain ⟨i, _, rfl⟩ := List.mem_map.mp hx
    exact flat_int _ _
  · obtain ⟨i, _, rfl⟩ := List.mem_map.mp hx
    obtain ⟨j, _, rfl⟩ := List.mem_map.mp hy
    rfl
theorem max_ok (a : Int) (ys : List Int) : maxLD (lI (a :: ys)) = .ok (.int (mx a ys)) := by
  show (if okAll ((a :: ys).map D.int) = true then R.ok ((ys.map D.int).foldl (fun a y => if ltb a y = true then y else a) (.int a)) else R.stuck) = _
  rw [if_pos (cmps_ints _)]
  congr 1
  induction ys generalizing a with
  | nil => rfl
  | cons y ys ih =>
    rw [List.map_cons, List.foldl_cons, mx]
    have e : (if ltb (.int a) (.int y) = true then D.int y else D.int a) = .int (if a < y then y else a) := by
      have : ltb (.int a) (.int y) = decide (a < y) := by unfold ltb; rw [cmpw]
      rw [this]
      by_cases q : a < y
      · rw [decide_eq_true q, if_pos rfl, if_pos q]
      · rw [decide_eq_false q, if_neg Bool.false_ne_true, if_neg q]
    rw [e, ih]
theorem maxL_ok {xs : List Int} (h : xs ≠ []) : maxLD (lI xs) = .ok (.int (mxL xs)) := by
  cases xs with
  | nil => exact absurd rfl h
  | cons a ys => exact max_ok a ys
theorem glL_ne {p : Pt} {r : List Pt} : gl p.1 p r ≠ [] := by cases r <;> simp [gl]
/-- the longest time that it is shut -/
def lo (hs : List (List Pt)) : D := if (spans 0 hs).isEmpty = true then .non else .int (gps (spans 0 hs))
theorem long_ok (o : OkH hs) : m_longest_shut (tH hs) = .ok (lo hs) := by
  unfold m_longest_shut
  rw [z_l1 m_check_open, open_ok o, z_bok, z_l1, shut_ok o, z_bok, show lstR [] = .ok (.lst []) from rfl, z_l2 neD, neD_of (flat_lI _) rfl, z_tst, z_tr]
  have sb := spans_b hs 0 o.d
  unfold lo
  cases e : spans 0 hs with
  | nil => rfl
  | cons p r =>
    rw [e] at sb
    rw [show (!eqv (lI (glL (p :: r))) (.lst [])) = true from by
      show (!eqv (lI (gl p.1 p r)) (.lst [])) = true
      cases r <;> rfl, z_ifT, z_l1]
    show maxLD (lI (gl p.1 p r)) = _
    rw [maxL_ok glL_ne, mxL_gl (by have := sb p List.mem_cons_self; omega) fun q hq => by
      have := sb q hq
      rw [o.l] at this
      omega]
    rfl
theorem llong_ok (o : OkH hs) : m_law_longest (tH hs) = .ok (lo hs) := by
  have e1 : (M hs).isEmpty = (spans 0 hs).isEmpty := M_inv List.isEmpty (fun l a b c r _ _ => by cases l <;> rfl) o.d
  have e2 : gps (M hs) = gps (spans 0 hs) := M_inv gps gps_inv o.d
  have mb := M_b o
  have ml := M_len o
  unfold m_law_longest lo
  rw [z_l1 m_law_stretches, stretches_ok o, z_bok, ← e1, ← e2]
  cases e : M hs with
  | nil => rfl
  | cons p r =>
    rw [e] at mb ml
    rw [z_l1 lenD, z_len, show tst (l2 eqD (R.ok (D.int (((p :: r).map dPr).length : Nat))) (R.ok (D.int 0))) = .ok false from by
      rw [z_l2, eqD_int, z_tst, z_tr, List.map_cons, List.length_cons]
      rfl, z_ifF, sub_zip (zip_next_l (p :: r) (by omega)), z_bok]
    have e3 : (lstR [(l2 subD (l2 addD (l2 idxD (l2 idxD (R.ok (lP (p :: r))) (R.ok (D.int 0))) (R.ok (D.int 0))) (R.ok (D.int 10080))) (l2 idxD (l2 idxD (R.ok (lP (p :: r))) (l1 negD (R.ok (D.int 1)))) (R.ok (D.int 1))))]) = .ok (lI [p.1 + 10080 - ((p :: r).getLast (by simp)).2]) := by
      have e4 : l2 idxD (R.ok (lP (p :: r))) (l1 negD (R.ok (D.int 1))) = .ok (dPr ((p :: r).getLast (by simp))) := by
        have := idx_end (p :: r).dropLast ((p :: r).getLast (by simp))
        rw [List.dropLast_concat_getLast] at this
        exact this
      rw [idx_0 p r, p_0, e4, p_1, z_l2 addD, z_add, z_l2, z_sub]
      rfl
    have e5 : l2 addD (R.ok (lI (((p :: r).zip ((p :: r).drop 1)).map fun q => q.2.1 - q.1.2))) (R.ok (lI [p.1 + 10080 - ((p :: r).getLast (by simp)).2])) = .ok (lI (gl p.1 p r)) := by
      rw [z_l2]
      show (if _ then R.ok _ else _) = _
      rw [if_pos (sz_ok (by
        rw [List.length_map, List.length_map, List.length_map, List.length_zip]
        rw [List.length_cons] at ml
        rw [List.length_cons, List.length_singleton]
        omega)), ← gl_next, ← List.map_append]
      rfl
    rw [e3, e5, z_l1, maxL_ok glL_ne, mxL_gl (mb p List.mem_cons_self).1 fun q hq => (mb q hq).2.2]
    rfl
end
section
variable {hs : List (List Pt)}
/-! ### the next -/
def oI : Option Int → D
  | some t => .int t
  | none => .non
theorem lnext_ok (o : OkH hs) (m : Nat) : m_law_next (tH hs) (.int (m : Nat)) = .ok (oI (lawN hs m (m / 10080 : Nat))) := by
  unfold m_law_next
  rw [div10080, z_bok, z_l2 addD, z_add, show itR (tupR [(R.ok (D.int ((m / 10080 : Nat) : Int))), (R.ok (D.int (((m / 10080 : Nat) : Int) + 1)))]) = .ok ([((m / 10080 : Nat) : Int), ((m / 10080 : Nat) : Int) + 1].map D.int) from rfl, z_bok]
  have inner : ∀ w : Int, ((itR (l1 m_law_stretches (R.ok (tH hs)))).bind fun xs => forC (fun (v_s3 : Unit) d => U2 _ d fun (v_t4 : D × D) => (ifR (tst (l2 ltD (R.ok (D.int (m : Nat))) (l2 addD (l2 mulD (R.ok (D.int 10080)) (R.ok (D.int w))) (R.ok v_t4.2)))) ((l2 max2D (R.ok (D.int (m : Nat))) (l2 addD (l2 mulD (R.ok (D.int 10080)) (R.ok (D.int w))) (R.ok v_t4.1))).map Ct.ret) (R.ok (Ct.go ())))) () xs) = .ok (match nxt m (10080 * w) (M hs) with | some t => Ct.ret (.int t) | none => .go ()) := fun w => by
    rw [z_l1, stretches_ok o, z_it, z_bok, forC_first (h := dPr) (q := fun p : Pt => decide ((m : Int) < 10080 * w + p.2)) (r := fun p => D.int (mxi m (10080 * w + p.1))) fun p _ => ?_]
    · unfold nxt
      cases (M hs).find? fun p : Pt => decide ((m : Int) < 10080 * w + p.2) <;> rfl
    · show unp2 (D.tup [.int p.1, .int p.2]) _ = _
      rw [z_u2]
      show ifR (tst (l2 ltD (R.ok (D.int (m : Nat))) (l2 addD (l2 mulD (R.ok (D.int 10080)) (R.ok (D.int w))) (R.ok (D.int p.2))))) ((l2 max2D (R.ok (D.int (m : Nat))) (l2 addD (l2 mulD (R.ok (D.int 10080)) (R.ok (D.int w))) (R.ok (D.int p.1)))).map Ct.ret) (R.ok (Ct.go ())) = _
      rw [z_l2 mulD, mul_ok (by decide), z_l2 addD, z_add, z_l2 addD, z_add, z_l2 ltD, z_lt, z_tst, z_tr, z_l2, z_max, z_map]
      cases decide ((m : Int) < 10080 * w + p.2) <;> rfl
  have outer : forC (fun (v_s1 : Unit) d => U1 _ d fun (v_t2 : D) => (thenC ((itR (l1 m_law_stretches (R.ok (tH hs)))).bind fun xs => forC (fun (v_s3 : Unit) d => U2 _ d fun (v_t4 : D × D) => (ifR (tst (l2 ltD (R.ok (D.int (m : Nat))) (l2 addD (l2 mulD (R.ok (D.int 10080)) (R.ok v_t2)) (R.ok v_t4.2)))) ((l2 max2D (R.ok (D.int (m : Nat))) (l2 addD (l2 mulD (R.ok (D.int 10080)) (R.ok v_t2)) (R.ok v_t4.1))).map Ct.ret) (R.ok (Ct.go ())))) () xs) (fun d => R.ok (Ct.ret d)) fun v_s5 => (R.ok (Ct.go ())))) () ([((m / 10080 : Nat) : Int), ((m / 10080 : Nat) : Int) + 1].map D.int) = (R.ok (match lawN hs m (m / 10080 : Nat) with | some t => Ct.ret (.int t) | none => .go ()) : R (Ct Unit)) := by
    rw [List.map_cons, List.map_cons, List.map_nil, forC]
    have step : ∀ w : Int, (U1 _ (D.int w) fun (v_t2 : D) => (thenC ((itR (l1 m_law_stretches (R.ok (tH hs)))).bind fun xs => forC (fun (v_s3 : Unit) d => U2 _ d fun (v_t4 : D × D) => (ifR (tst (l2 ltD (R.ok (D.int (m : Nat))) (l2 addD (l2 mulD (R.ok (D.int 10080)) (R.ok v_t2)) (R.ok v_t4.2)))) ((l2 max2D (R.ok (D.int (m : Nat))) (l2 addD (l2 mulD (R.ok (D.int 10080)) (R.ok v_t2)) (R.ok v_t4.1))).map Ct.ret) (R.ok (Ct.go ())))) () xs) (fun d => R.ok (Ct.ret d)) fun v_s5 => (R.ok (Ct.go ())))) = (R.ok (match nxt m (10080 * w) (M hs) with | some t => Ct.ret (.int t) | none => .go ()) : R (Ct Unit)) := fun w => by
      refine (congrArg (fun z : R (Ct Unit) => thenC z (fun d => R.ok (Ct.ret d)) fun v_s5 => (R.ok (Ct.go ()))) (inner w)).trans ?_
      cases nxt m (10080 * w) (M hs) <;> rfl
    rw [step, z_bok]
    unfold lawN
    cases nxt m (10080 * ((m / 10080 : Nat) : Int)) (M hs) with
    | some t => rfl
    | none =>
      show forC _ () [D.int (((m / 10080 : Nat) : Int) + 1)] = _
      rw [forC, step, z_bok, Option.none_or]
      cases nxt m (10080 * (((m / 10080 : Nat) : Int) + 1)) (M hs) <;> rfl
  refine (congrArg (fun z : R (Ct Unit) => thenC z (fun d => R.ok (id d)) fun v_s6 => (R.ok D.non)) outer).trans ?_
  cases lawN hs m (m / 10080 : Nat) <;> rfl
/-- the moment of a time, None -/
def oM : Option Int → D
  | some t => mo ((t.toNat / 1440 : Nat)) ((t.toNat % 1440 : Nat))
  | none => .non
theorem fC_first {α : Type} {xs : List α} {h : α → D} {q : α → Option D} {f : Unit → D → R (Ct Unit)} (e : ∀ x ∈ xs, f () (h x) = .ok (match q x with | some d => .ret d | none => .go ())) : forC f () (xs.map h) = .ok (match xs.findSome? q with
    | some d => .ret d
    | none => .go ()) := by
  induction xs with
  | nil => rfl
  | cons x xs ih =>
    rw [List.map_cons, forC, e x List.mem_cons_self, z_bok, List.findSome?_cons]
    cases q x with
    | some d => rfl
    | none => exact ih fun y hy => e y (List.mem_cons_of_mem _ hy)
theorem fs_map {α : Type} {xs : List α} {q : α → Option Int} {g : Int → D} : xs.findSome? (fun x => (q x).map g) = (xs.findSome? q).map g := by
  induction xs with
  | nil => rfl
  | cons x xs ih =>
    rw [List.findSome?_cons, List.findSome?_cons]
    cases q x with
    | some d => rfl
    | none => exact ih
theorem gt_is (x y : Int) : tst (l2 gtD (R.ok (D.int y)) (R.ok (D.int x))) = .ok (decide (x < y)) := by rw [z_l2, z_gt, z_tst, z_tr]
theorem rngL0 (n : Nat) : rngL 0 n = (List.range n).map fun i => D.int ((i : Nat) : Int) := by
  unfold rngL
  refine List.map_congr_left fun i _ => ?_
  rw [Int.zero_add]
theorem next_ok (o : OkH hs) (m : Nat) : m_next_open (tH hs) (mo (m / 1440 : Nat) (m % 1440 : Nat)) = .ok (oM (lawN hs m (m / 10080 : Nat))) := by
  unfold m_next_open
  rw [z_l1 m_check_open, open_ok o, z_bok, z_l1, mom_ok (by omega) (by omega) (by omega), z_bok, show l2 addD (R.ok (D.int 7)) (R.ok (D.int 1)) = .ok (.int 8) from rfl, rng1_ok (by omega) (by omega), show ((8 : Int)).toNat = 8 from rfl, rngL0, z_bok]
  have L := lawN_prog (hs := hs) o (m := m) (w := (m / 10080 : Nat)) (j := m / 1440 % 7) (by omega) (x := (m % 1440 : Nat)) (by omega) (by omega) (by omega)
  have e : ∀ i ∈ List.range 8, (U1 _ (D.int ((i : Nat) : Int)) fun (v_t1 : D) => ((tupR [(l2 addD (l2 idxD (R.ok (mo (m / 1440 : Nat) (m % 1440 : Nat))) (R.ok (D.int 0))) (R.ok v_t1)), (ifR (tst (l2 eqD (R.ok v_t1) (R.ok (D.int 0)))) (l2 idxD (R.ok (mo (m / 1440 : Nat) (m % 1440 : Nat))) (R.ok (D.int 1))) (R.ok (D.int 0)))]).bind fun v_d2 => U2 _ v_d2 fun (v_t3 : D × D) => ((lfR (itR (l2 idxD (R.ok (tH hs)) (l2 modD (R.ok v_t3.1) (R.ok (D.int 7))))) fun d => U2 _ d fun (v_t4 : D × D) => keep (tst (l2 gtD (R.ok v_t4.2) (R.ok v_t3.2))) (l2 max2D (R.ok v_t4.1) (R.ok v_t3.2))).bind fun v_some5 => (ifR (tst (l2 neD (R.ok v_some5) (lstR []))) ((tupR [(R.ok v_t3.1), (l2 idxD (R.ok v_some5) (R.ok (D.int 0)))]).map Ct.ret) (R.ok (Ct.go ())))))) = (R.ok (match (Fd' hs m (m / 10080 : Nat) (m / 1440 % 7 + i)).map (fun t => oM (some t)) with | some d => Ct.ret d | none => .go ()) : R (Ct Unit)) := fun i hi => by
    have hi := List.mem_range.mp hi
    show R.bind (tupR [(l2 addD (l2 idxD (R.ok (mo (m / 1440 : Nat) (m % 1440 : Nat))) (R.ok (D.int 0))) (R.ok (D.int (i : Nat)))), (ifR (tst (l2 eqD (R.ok (D.int (i : Nat))) (R.ok (D.int 0)))) (l2 idxD (R.ok (mo (m / 1440 : Nat) (m % 1440 : Nat))) (R.ok (D.int 1))) (R.ok (D.int 0)))]) _ = _
    have el : ifR (tst (l2 eqD (R.ok (D.int (i : Nat))) (R.ok (D.int 0)))) (R.ok (D.int ((m % 1440 : Nat) : Int))) (R.ok (D.int 0)) = .ok (.int (if i = 0 then ((m % 1440 : Nat) : Int) else 0)) := by
      rw [z_l2, eqD_int, z_tst, z_tr]
      by_cases q : i = 0
      · subst q; rfl
      · rw [show ((i : Int) == 0) = false from by rw [Bool.eq_false_iff]; intro z; have := eq_of_beq z; omega, if_neg q]; rfl
    rw [m_0, m_1, el, z_l2 addD, z_add, show ((m / 1440 : Nat) : Int) + (i : Int) = ((m / 1440 + i : Nat) : Int) from by omega]
    rw [show tupR [(R.ok (D.int ((m / 1440 + i : Nat) : Int))), (R.ok (D.int (if i = 0 then ((m % 1440 : Nat) : Int) else 0)))] = .ok (.tup [.int ((m / 1440 + i : Nat) : Int), .int (if i = 0 then ((m % 1440 : Nat) : Int) else 0)]) from rfl, z_bok]
    unfold U2
    rw [z_u2]
    simp only []
    rw [mod7, idx_H (by rw [o.l]; omega), z_itT]
    have hd := getD_ok o ((m / 1440 + i) % 7)
    have e7 : (m / 1440 % 7 + i) % 7 = (m / 1440 + i) % 7 := by omega
    unfold Fd'
    rw [e7]
    generalize hs.getD ((m / 1440 + i) % 7) [] = dd at hd
    rw [lfR_map (p := fun p : Pt => decide ((if i = 0 then ((m % 1440 : Nat) : Int) else 0) < p.2)) (g := fun p => D.int (mxi p.1 (if i = 0 then ((m % 1440 : Nat) : Int) else 0))) fun p hp => ?_]
    · rw [z_bok]
      have W : (1440 * (7 * ((m / 10080 : Nat) : Int) + ((m / 1440 % 7 + i : Nat) : Int))) = 1440 * ((m / 1440 + i : Nat) : Int) := by omega
      rw [W]
      have ec : ∀ p ∈ dd, decide ((if i = 0 then ((m % 1440 : Nat) : Int) else 0) < p.2) = decide ((m : Int) < 1440 * ((m / 1440 + i : Nat) : Int) + p.2) := fun p hp => by
        have := hd.b p hp
        rw [decide_eq_decide]
        split <;> omega
      have ef : (dd.filter fun p : Pt => decide ((if i = 0 then ((m % 1440 : Nat) : Int) else 0) < p.2)) = dd.filter fun p : Pt => decide ((m : Int) < 1440 * ((m / 1440 + i : Nat) : Int) + p.2) := List.filter_congr ec
      rw [ef]
      unfold nxt
      have eh : (dd.filter fun p : Pt => decide ((m : Int) < 1440 * ((m / 1440 + i : Nat) : Int) + p.2)).head? = dd.find? fun p : Pt => decide ((m : Int) < 1440 * ((m / 1440 + i : Nat) : Int) + p.2) := List.head?_filter
      cases er : dd.filter fun p : Pt => decide ((m : Int) < 1440 * ((m / 1440 + i : Nat) : Int) + p.2) with
      | nil =>
        rw [er] at eh
        rw [← eh]
        rfl
      | cons p r =>
        rw [er] at eh
        rw [← eh]
        have hp : p ∈ dd.filter fun p : Pt => decide ((m : Int) < 1440 * ((m / 1440 + i : Nat) : Int) + p.2) := by rw [er]; exact List.mem_cons_self
        have hp := List.mem_filter.mp hp
        have h1 := of_decide_eq_true hp.2
        have h2 := hd.b p hp.1
        rw [show lstR [] = .ok (.lst []) from rfl, z_l2 neD]
        have fl : flat 64 (.lst (((p :: r).map fun p => D.int (mxi p.1 (if i = 0 then ((m % 1440 : Nat) : Int) else 0))))) = true := by
          rw [flat_lst]
          refine flatL_all fun x hx => ?_
          obtain ⟨y, _, rfl⟩ := List.mem_map.mp hx
          exact flat_int _ _
        rw [neD_of fl rfl, z_tst, z_tr]
        rw [show (!eqv (D.lst ((p :: r).map fun p => D.int (mxi p.1 (if i = 0 then ((m % 1440 : Nat) : Int) else 0)))) (.lst [])) = true from rfl, z_ifT]
        have ei : l2 idxD (R.ok (D.lst ((p :: r).map fun p => D.int (mxi p.1 (if i = 0 then ((m % 1440 : Nat) : Int) else 0))))) (R.ok (D.int 0)) = .ok (.int (mxi p.1 (if i = 0 then ((m % 1440 : Nat) : Int) else 0))) := by
          rw [z_l2]; exact idx_lst (i := 0) rfl
        rw [ei]
        show R.ok (Ct.ret (D.tup [.int ((m / 1440 + i : Nat) : Int), .int (mxi p.1 (if i = 0 then ((m % 1440 : Nat) : Int) else 0))])) = R.ok (Ct.ret (mo (((mxi (m : Int) (1440 * ((m / 1440 + i : Nat) : Int) + p.1)).toNat / 1440 : Nat)) (((mxi (m : Int) (1440 * ((m / 1440 + i : Nat) : Int) + p.1)).toNat % 1440 : Nat))))
        have et : mxi (m : Int) (1440 * ((m / 1440 + i : Nat) : Int) + p.1) = 1440 * ((m / 1440 + i : Nat) : Int) + mxi p.1 (if i = 0 then ((m % 1440 : Nat) : Int) else 0) := by
          unfold mxi
          repeat' split
          all_goals omega
        have eb : 0 ≤ mxi p.1 (if i = 0 then ((m % 1440 : Nat) : Int) else 0) ∧ mxi p.1 (if i = 0 then ((m % 1440 : Nat) : Int) else 0) < 1440 := by
          unfold mxi
          repeat' split
          all_goals omega
        rw [et]
        generalize mxi p.1 (if i = 0 then ((m % 1440 : Nat) : Int) else 0) = y at eb
        unfold mo
        congr 4
        · congr 1; omega
        · congr 2; omega
    · show unp2 (D.tup [.int p.1, .int p.2]) _ = _
      rw [z_u2]
      refine keep_of (gt_is _ _) ?_
      show l2 max2D (R.ok (D.int p.1)) (R.ok (D.int _)) = _
      rw [z_l2, z_max]; rfl
  refine (congrArg (fun z : R (Ct Unit) => thenC z (fun d => R.ok (id d)) fun v_s6 => (R.ok D.non)) (fC_first e)).trans ?_
  rw [fs_map (q := fun i => Fd' hs m (m / 10080 : Nat) (m / 1440 % 7 + i)) (g := fun t => oM (some t)), ← L]
  cases lawN hs m (m / 10080 : Nat) <;> rfl
end
section
variable {hs gs : List (List Pt)}
/-! ### at once -/
theorem flatmap_len {a b : List Pt} (ha : a.length ≤ 3) (hb : b.length ≤ 3) : (a.flatMap fun x => b.map (cm x)).length ≤ 9 := by
  have : ∀ a : List Pt, (a.flatMap fun x => b.map (cm x)).length = a.length * b.length := by
    intro a
    induction a with
    | nil => rw [List.flatMap_nil, List.length_nil, Nat.zero_mul]
    | cons x a ih => rw [List.flatMap_cons, List.length_append, ih, List.length_map, List.length_cons, Nat.succ_mul, Nat.add_comm]
  rw [this]
  exact Nat.mul_le_mul ha hb
theorem cms_len {a b : List Pt} (ha : a.length ≤ 3) (hb : b.length ≤ 3) : (psort (cms a b)).length ≤ 9 := by
  rw [(psort_perm _).length_eq]
  exact Nat.le_trans (List.length_filter_le _ _) (flatmap_len ha hb)
theorem cms_b {a b : List Pt} (ha : OkD a) (hb : OkD b) : ∀ p ∈ psort (cms a b), (0 ≤ p.1 ∧ p.1 ≤ 1440) ∧ 0 ≤ p.2 ∧ p.2 ≤ 1440 := fun p hp => by
  have hp := (psort_perm _).mem_iff.mp hp
  obtain ⟨x, hx, hp⟩ := List.mem_flatMap.mp (List.mem_filter.mp hp).1
  obtain ⟨y, hy, rfl⟩ := List.mem_map.mp hp
  have h1 := ha.b x hx
  have h2 := hb.b y hy
  unfold cm mxi mni
  simp only []
  constructor <;> split <;> omega
theorem common_ok {a b : List Pt} (ha : a.length ≤ 3) (hb : b.length ≤ 3) : m_common_stretches (tP a) (tP b) = .ok (tP (psort (cms a b))) := by
  unfold m_common_stretches
  have e : (l2R (itR (R.ok (tP a))) U1 (fun (_ : D) => R.ok true) (fun (v_t0 : D) => (itR (R.ok (tP b)))) U1 (fun (_ : D) (_ : D) => R.ok true) (fun (v_t0 : D) (v_u1 : D) => (tupR [(l2 max2D (l2 idxD (R.ok v_t0) (R.ok (D.int 0))) (l2 idxD (R.ok v_u1) (R.ok (D.int 0)))), (l2 min2D (l2 idxD (R.ok v_t0) (R.ok (D.int 1))) (l2 idxD (R.ok v_u1) (R.ok (D.int 1))))]))) = .ok (lP (a.flatMap fun x => b.map (cm x))) := by
    rw [z_itT, l2R_map (h := dPr) (ys := fun _ => b) (h2 := fun _ => dPr) (m2 := fun (v_t0 : D) => (itR (R.ok (tP b)))) (g := fun x y => dPr (cm x y)) (fun x _ => z_itT _) (fun x _ y _ => ?_) ?_]
    · rw [lP, List.map_flatMap]
      congr 3
      funext x
      rw [List.map_map]; rfl
    · have := flatmap_len ha hb
      have e2 : (a.flatMap fun x => b.map fun y => dPr (cm x y)) = (a.flatMap fun x => b.map (cm x)).map dPr := by
        rw [List.map_flatMap]
        congr 1
        funext x
        rw [List.map_map]; rfl
      rw [e2, List.length_map]; omega
    · rw [p_0, p_0, p_1, p_1, z_l2, z_max, z_l2, z_min]; rfl
  rw [e, z_bok, z_it, lfR_map (p := fun p : Pt => decide (p.1 < p.2)) (g := dPr) fun p _ => ?_]
  · rw [z_l1 sortQD]
    have := sortQD_pairs (cms a b)
    rw [show D.lst (((a.flatMap fun x => b.map (cm x)).filter fun p => decide (p.1 < p.2)).map dPr) = .lst ((cms a b).map dPr) from rfl, this, z_l1, z_tupL]
  · show keep (tst (l2 ltD (l2 idxD (R.ok (dPr p)) (R.ok (D.int 0))) (l2 idxD (R.ok (dPr p)) (R.ok (D.int 1))))) (R.ok (dPr p)) = _
    refine keep_of ?_ rfl
    rw [p_0, p_1, z_l2, z_lt, z_tst, z_tr]
theorem both_in (x : Pt) : ∀ (b acc : List Pt), acc.length + b.length < 1000 → forR (fun (v_s4 : List D) d => U2 _ d fun (v_t5 : D × D) => ((ifR (tst (l2 ltD (l2 max2D (R.ok (D.int x.1)) (R.ok v_t5.1)) (l2 min2D (R.ok (D.int x.2)) (R.ok v_t5.2)))) ((tupR [(l2 max2D (R.ok (D.int x.1)) (R.ok v_t5.1)), (l2 min2D (R.ok (D.int x.2)) (R.ok v_t5.2))]).bind fun v_d6 => (appL v_s4 v_d6).bind fun v_found7 => (R.ok v_found7)) (R.ok v_s4) : R (List D)).bind fun v_s8 => (R.ok v_s8))) (acc.map dPr) (b.map dPr) = .ok ((acc ++ (b.map (cm x)).filter fun p => decide (p.1 < p.2)).map dPr)
  | [], acc, _ => by rw [show ((([] : List Pt).map (cm x)).filter fun p => decide (p.1 < p.2)) = [] from rfl, List.append_nil]; rfl
  | y :: b, acc, h => by
    rw [List.length_cons] at h
    rw [List.map_cons, forR_c]
    refine (congrArg (fun m : R (List D) => m.bind _) ((?_ : _ = R.ok ((if (cm x y).1 < (cm x y).2 then acc ++ [cm x y] else acc).map dPr)))).trans ?_
    · show unp2 (D.tup [.int y.1, .int y.2]) _ = _
      rw [z_u2]
      show R.bind (ifR (tst (l2 ltD (l2 max2D (R.ok (D.int x.1)) (R.ok (D.int y.1))) (l2 min2D (R.ok (D.int x.2)) (R.ok (D.int y.2))))) (R.bind (tupR [(l2 max2D (R.ok (D.int x.1)) (R.ok (D.int y.1))), (l2 min2D (R.ok (D.int x.2)) (R.ok (D.int y.2)))]) _) _) _ = _
      rw [z_l2 max2D, z_max, z_l2 min2D, z_min, z_l2 ltD, z_lt, z_tst, z_tr]
      by_cases q : (cm x y).1 < (cm x y).2
      · have q' : (if y.1 > x.1 then y.1 else x.1) < (if y.2 < x.2 then y.2 else x.2) := q
        rw [decide_eq_true q', z_ifT, if_pos q, show tupR [(R.ok (D.int (if y.1 > x.1 then y.1 else x.1))), (R.ok (D.int (if y.2 < x.2 then y.2 else x.2)))] = .ok (dPr (cm x y)) from rfl, z_bok, appL_ok (by rw [List.length_map]; omega), z_bok, z_bok, List.map_append]
        rfl
      · have q' : ¬ (if y.1 > x.1 then y.1 else x.1) < (if y.2 < x.2 then y.2 else x.2) := q
        rw [decide_eq_false q', z_ifF, if_neg q, z_bok]
    · rw [z_bok, both_in x b _ (by
        have : (if (cm x y).1 < (cm x y).2 then acc ++ [cm x y] else acc).length ≤ acc.length + 1 := by
          split
          · rw [List.length_append, List.length_singleton]; exact Nat.le_refl _
          · exact Nat.le_succ _
        omega), List.map_cons, List.filter_cons]
      by_cases q : (cm x y).1 < (cm x y).2
      · rw [if_pos q, if_pos (decide_eq_true q), List.append_assoc]; rfl
      · rw [if_neg q, if_neg (by simpa using q)]
theorem both_all : ∀ (a b acc : List Pt), b.length ≤ 3 → acc.length + 3 * a.length < 500 → forR (fun (v_s2 : List D) d => U2 _ d fun (v_t3 : D × D) => (((itR (R.ok (tP b))).bind fun xs => forR (fun (v_s4 : List D) d => U2 _ d fun (v_t5 : D × D) => ((ifR (tst (l2 ltD (l2 max2D (R.ok v_t3.1) (R.ok v_t5.1)) (l2 min2D (R.ok v_t3.2) (R.ok v_t5.2)))) ((tupR [(l2 max2D (R.ok v_t3.1) (R.ok v_t5.1)), (l2 min2D (R.ok v_t3.2) (R.ok v_t5.2))]).bind fun v_d6 => (appL v_s4 v_d6).bind fun v_found7 => (R.ok v_found7)) (R.ok v_s4) : R (List D)).bind fun v_s8 => (R.ok v_s8))) v_s2 xs).bind fun v_s9 => (R.ok v_s9))) (acc.map dPr) (a.map dPr) = .ok ((acc ++ cms a b).map dPr)
  | [], b, acc, _, _ => by rw [show cms [] b = [] from rfl, List.append_nil]; rfl
  | x :: a, b, acc, hb, h => by
    rw [List.length_cons] at h
    rw [List.map_cons, forR_c]
    refine (congrArg (fun m : R (List D) => m.bind _) ((?_ : _ = R.ok ((acc ++ (b.map (cm x)).filter fun p => decide (p.1 < p.2)).map dPr)))).trans ?_
    · show unp2 (D.tup [.int x.1, .int x.2]) _ = _
      rw [z_u2]
      refine (congrArg (fun m : R (List D) => m.bind fun v_s9 => (R.ok v_s9)) (both_in x b acc (by omega))).trans ?_
      rw [z_bok]
    · have l := List.length_filter_le (fun p : Pt => decide (p.1 < p.2)) (b.map (cm x))
      rw [List.length_map] at l
      rw [z_bok, both_all a b _ hb (by rw [List.length_append]; omega)]
      unfold cms
      rw [List.flatMap_cons, List.filter_append, List.append_assoc]
theorem both_ok {a b : List Pt} (ha : a.length ≤ 3) (hb : b.length ≤ 3) : m_law_both (tP a) (tP b) = .ok (tP (psort (cms a b))) := by
  unfold m_law_both
  rw [show lstR [] = .ok (.lst []) from rfl, z_bok, z_own, z_bok, z_itT, z_bok]
  refine (congrArg (fun m : R (List D) => m.bind _) (both_all a b [] hb (by rw [List.length_nil]; omega))).trans ?_
  rw [z_bok, List.nil_append, z_l1 sortQD, sortQD_pairs, z_l1, z_tupL]
def once (hs gs : List (List Pt)) : List (List Pt) := (hs.zip gs).map fun p => psort (cms p.1 p.2)
theorem once_sym : ∀ hs gs : List (List Pt), once hs gs = once gs hs
  | [], [] => rfl
  | [], _ :: _ => rfl
  | _ :: _, [] => rfl
  | a :: hs, b :: gs => by
    have := once_sym hs gs
    unfold once at *
    rw [List.zip_cons_cons, List.map_cons, this, List.zip_cons_cons, List.map_cons, cms_sym]
theorem zip_H (h1 : hs.length = 7) : zipD (R.ok (tH hs)) (R.ok (tH gs)) = .ok ((hs.zip gs).map fun p => .tup [tP p.1, tP p.2]) := by
  show (if (zipL (hs.map tP) (gs.map tP)).length ≤ SZ then R.ok (zipL (hs.map tP) (gs.map tP)) else .stuck) = _
  rw [zipL_map, if_pos (sz_ok (by rw [List.length_map, List.length_zip]; omega))]
theorem zip_mem (o : OkH hs) (o' : OkH gs) {p : List Pt × List Pt} (hp : p ∈ hs.zip gs) : OkD p.1 ∧ OkD p.2 := by
  have := List.of_mem_zip (show (p.1, p.2) ∈ hs.zip gs from hp)
  exact ⟨o.d _ this.1, o'.d _ this.2⟩
theorem once_ok (o : OkH hs) (o' : OkH gs) : m_at_once (tH hs) (tH gs) = .ok (tH (once hs gs)) := by
  unfold m_at_once
  rw [z_l1, open_ok o, z_bok, z_l1, open_ok o', z_bok, zip_H o.l, lcR_map (g := fun p : List Pt × List Pt => tP (psort (cms p.1 p.2))) fun p hp => ?_]
  · rw [z_l1, z_tupL, tH, once, List.map_map]; rfl
  · have q := zip_mem o o' hp
    show unp2 (D.tup [tP p.1, tP p.2]) _ = _
    rw [z_u2]
    show l2 m_common_stretches (R.ok (tP p.1)) (R.ok (tP p.2)) = _
    rw [z_l2, common_ok q.1.l q.2.l]
theorem lonce_ok (o : OkH hs) (o' : OkH gs) : l1 tupleD (lcR (zipD (R.ok (tH hs)) (R.ok (tH gs))) fun d => U2 _ d fun (v_t25 : D × D) => (l2 m_law_both (R.ok v_t25.1) (R.ok v_t25.2))) = .ok (tH (once hs gs)) := by
  rw [zip_H o.l, lcR_map (g := fun p : List Pt × List Pt => tP (psort (cms p.1 p.2))) fun p hp => ?_]
  · rw [z_l1, z_tupL, tH, once, List.map_map]; rfl
  · have q := zip_mem o o' hp
    show unp2 (D.tup [tP p.1, tP p.2]) _ = _
    rw [z_u2]
    show l2 m_law_both (R.ok (tP p.1)) (R.ok (tP p.2)) = _
    rw [z_l2, both_ok q.1.l q.2.l]
/-! ### days on which it is open -/
theorem flat_tP (ps : List Pt) : flat 64 (tP ps) = true := flat_dPs ps
def dop (hs : List (List Pt)) : List Int := ((List.range 7).filter fun i => decide (0 < (hs.getD i []).length)).map fun i => ((i : Nat) : Int)
theorem zip_range (hs : List (List Pt)) : hs.zipIdx = (List.range hs.length).map fun i => (hs.getD i [], i) := by
  refine List.ext_getElem (by simp) fun i h1 h2 => ?_
  rw [List.length_map, List.length_range] at h2
  simp only [List.getElem_zipIdx, List.getElem_map, List.getElem_range, Nat.zero_add]
  rw [List.getD_eq_getElem?_getD, List.getElem?_eq_getElem h2]
  rfl
theorem days_ok (o : OkH hs) : m_days_open (tH hs) = .ok (.tup ((dop hs).map .int)) := by
  unfold m_days_open
  rw [z_l1, open_ok o, z_bok, z_enum, enumL_map, zip_range, o.l, List.map_map, lfR_map (p := fun i : Nat => decide (0 < (hs.getD i []).length)) (g := fun i => D.int ((i : Nat) : Int)) fun i _ => ?_]
  · rw [z_l1, z_tupL, dop, List.map_map]; rfl
  · show unp2 (D.tup [.int (i : Nat), tP (hs.getD i [])]) _ = _
    rw [z_u2]
    refine keep_of ?_ rfl
    show tst (l2 neD (R.ok (tP (hs.getD i []))) (tupR [])) = _
    rw [show tupR [] = .ok (.tup []) from rfl, z_l2 neD, neD_of (flat_tP _) rfl, z_tst, z_tr]
    cases hs.getD i [] <;> rfl
theorem ldays_ok (o : OkH hs) : l1 tupleD (lfR (rng1 (R.ok (D.int 7))) fun d => U1 _ d fun (v_t24 : D) => keep (tst (l2 gtD (l1 lenD (l2 idxD (R.ok (tH hs)) (R.ok v_t24))) (R.ok (D.int 0)))) (R.ok v_t24)) = .ok (.tup ((dop hs).map .int)) := by
  rw [rng1_ok (by omega) (by omega), show ((7 : Int)).toNat = 7 from rfl, rngL0, lfR_map (p := fun i : Nat => decide (0 < (hs.getD i []).length)) (g := fun i => D.int ((i : Nat) : Int)) fun i hi => ?_]
  · rw [z_l1, z_tupL, dop, List.map_map]; rfl
  · have hi := List.mem_range.mp hi
    refine keep_of ?_ rfl
    show tst (l2 gtD (l1 lenD (l2 idxD (R.ok (tH hs)) (R.ok (D.int (i : Nat))))) (R.ok (D.int 0))) = _
    rw [idx_H (by rw [o.l]; exact hi), z_l1, z_lenT, List.length_map, gt_is]
    congr 1
    rw [decide_eq_decide]
    omega
/-! ### what can be told -/
def Sm (n M : Nat) (d : D) : Prop := flat n d = true ∧ wt d ≤ M
theorem sm_i {n : Nat} {i : Int} (h : i.natAbs < 10 ^ 40) : Sm n 140 (.int i) := ⟨flat_int _ _, by rw [wt, if_pos h]; exact Nat.le_refl _⟩
theorem sm_tup {n M k : Nat} {ds : List D} (h : ∀ d ∈ ds, Sm n M d) (hl : ds.length ≤ k) : Sm (n + 1) (k * (M + 2) + 3) (.tup ds) := by
  refine ⟨?_, ?_⟩
  · rw [flat_tup]; exact flatL_all fun x hx => (h x hx).1
  · have := wtL_le fun x hx => (h x hx).2
    have := Nat.mul_le_mul_right (M + 2) hl
    rw [wt]; omega
theorem Sm.mono {n M K : Nat} {d : D} (h : Sm n M d) (k : M ≤ K) : Sm n K d := ⟨h.1, Nat.le_trans h.2 k⟩
theorem sm_p {n : Nat} {p : Pt} (h : p.1.natAbs < 10 ^ 40 ∧ p.2.natAbs < 10 ^ 40) : Sm (n + 1) 300 (dPr p) :=
  (sm_tup (n := n) (M := 140) (k := 2) (fun d hd => by
    simp only [List.mem_cons, List.not_mem_nil, or_false] at hd
    rcases hd with rfl | rfl
    · exact sm_i h.1
    · exact sm_i h.2) (by simp)).mono (by decide)
theorem sm_d {n : Nat} {d : List Pt} (h : ∀ p ∈ d, p.1.natAbs < 10 ^ 40 ∧ p.2.natAbs < 10 ^ 40) (hl : d.length ≤ 9) : Sm (n + 2) 3000 (tP d) :=
  (sm_tup (n := n + 1) (M := 300) (k := 9) (fun x hx => by
    obtain ⟨p, hp, rfl⟩ := List.mem_map.mp hx
    exact sm_p (h p hp)) (by rw [List.length_map]; exact hl)).mono (by decide)
theorem sm_H {n : Nat} {hs : List (List Pt)} (h : ∀ d ∈ hs, (∀ p ∈ d, p.1.natAbs < 10 ^ 40 ∧ p.2.natAbs < 10 ^ 40) ∧ d.length ≤ 9) (hl : hs.length ≤ 7) : Sm (n + 3) 30000 (tH hs) :=
  (sm_tup (n := n + 2) (M := 3000) (k := 7) (fun x hx => by
    obtain ⟨d, hd, rfl⟩ := List.mem_map.mp hx
    exact sm_d (h d hd).1 (h d hd).2) (by rw [List.length_map]; exact hl)).mono (by decide)
theorem Sm.tell {M : Nat} {d : D} (h : Sm 64 M d) (k : M ≤ 8000000) : tellable d := ⟨h.1, Nat.le_trans h.2 k⟩
theorem sm_okH {n : Nat} (o : OkH hs) : Sm (n + 3) 30000 (tH hs) := sm_H (fun d hd => ⟨fun p hp => by
    have := (o.d d hd).b p hp
    omega, by have := (o.d d hd).l; omega⟩) (by rw [o.l]; decide)
theorem sm_once {n : Nat} (o : OkH hs) (o' : OkH gs) : Sm (n + 3) 30000 (tH (once hs gs)) := sm_H (fun d hd => by
    obtain ⟨q, hq, rfl⟩ := List.mem_map.mp hd
    have z := zip_mem o o' hq
    exact ⟨fun p hp => by
      have := cms_b z.1 z.2 p hp
      omega, cms_len z.1.l z.2.l⟩) (by
    unfold once
    rw [List.length_map, List.length_zip, o.l, o'.l]; decide)
theorem tell_both (o : OkH hs) (o' : OkH gs) : tellable (.tup [tH hs, tH gs]) := (sm_tup (n := 63) (M := 30000) (k := 2) (fun d hd => by
    simp only [List.mem_cons, List.not_mem_nil, or_false] at hd
    rcases hd with rfl | rfl
    · exact sm_okH o
    · exact sm_okH o') (by simp)).tell (by decide)
theorem tell_i {i : Int} (h : i.natAbs < 10 ^ 40) : tellable (.int i) := (sm_i h).tell (by decide)
theorem tell_bl (b : Bool) : tellable (.bl b) := by cases b <;> decide
theorem tell_n : tellable .non := by decide
theorem tell_mo {a x : Int} (h : a.natAbs < 10 ^ 40) (h' : x.natAbs < 10 ^ 40) : tellable (mo a x) := (sm_p (n := 63) (p := (a, x)) ⟨h, h'⟩).tell (by decide)
theorem gp_b (f : Int) (hf : f ≤ 10080) : ∀ (r : List Pt) (p : Pt), (∀ q ∈ p :: r, 0 ≤ q.1 ∧ q.1 < q.2 ∧ q.2 ≤ 10080) → gp f p r ≤ 20160
  | [], p, h => by
    have := h p List.mem_cons_self
    unfold gp mxi
    split <;> omega
  | q :: r, p, h => by
    have a := gp_b f hf r q fun x hx => h x (List.mem_cons_of_mem _ hx)
    have b := h p List.mem_cons_self
    have c := h q (List.mem_cons_of_mem _ List.mem_cons_self)
    unfold gp mxi
    split <;> omega
theorem tell_lo (o : OkH hs) : tellable (lo hs) := by
  have sb := spans_b hs 0 o.d
  unfold lo
  cases e : spans 0 hs with
  | nil => exact tell_n
  | cons p r =>
    rw [e, o.l] at sb
    have h1 := gp_0 p.1 r p
    have h2 := gp_b p.1 (by have := sb p List.mem_cons_self; omega) r p fun q hq => by
      have := sb q hq
      omega
    exact tell_i (by show (gp p.1 p r).natAbs < _; omega)
theorem tell_dop : tellable (.tup ((dop hs).map .int)) := by
  refine tell_tints ?_ fun x hx => ?_
  · unfold dop
    rw [List.length_map]
    have := List.length_filter_le (fun i : Nat => decide (0 < (hs.getD i []).length)) (List.range 7)
    rw [List.length_range] at this
    omega
  · obtain ⟨i, hi, rfl⟩ := List.mem_map.mp hx
    have := List.mem_range.mp (List.mem_filter.mp hi).1
    omega
theorem nxt_b {l : List Pt} {m W t : Int} (h : ∀ p ∈ l, p.1 ≤ 10080) (e : nxt m W l = some t) : m ≤ t ∧ (t = m ∨ t ≤ W + 10080) := by
  unfold nxt at e
  obtain ⟨p, e1, e2⟩ := Option.map_eq_some_iff.mp e
  have := h p (List.mem_of_find?_eq_some e1)
  unfold mxi at e2
  split at e2 <;> omega
theorem lawN_b (o : OkH hs) {m : Nat} {t : Int} (e : lawN hs m (m / 10080 : Nat) = some t) : 0 ≤ t ∧ t ≤ (m : Int) + 20160 := by
  have mb : ∀ p ∈ M hs, p.1 ≤ 10080 := fun p hp => by have := M_b o p hp; omega
  unfold lawN at e
  rcases Option.or_eq_some_iff.mp e with e | ⟨_, e⟩
  · have := nxt_b mb e; omega
  · have := nxt_b mb e; omega
theorem prt_b {d : List Pt} {x : Int} (o : OkD d) (x0 : 0 ≤ x) (x1 : x < 1440) : 0 ≤ sm (prt x) d ∧ sm (prt x) d ≤ 1440 * 3 := by
  have key : ∀ l : List Pt, (∀ p ∈ l, 0 ≤ p.1 ∧ p.1 < p.2 ∧ p.2 ≤ 1440) → 0 ≤ sm (prt x) l ∧ sm (prt x) l ≤ 1440 * l.length := by
    intro l
    induction l with
    | nil => intro _; exact ⟨Int.le_refl _, Int.le_refl _⟩
    | cons p l ih =>
      intro h
      have a := ih fun q hq => h q (List.mem_cons_of_mem _ hq)
      have b := h p List.mem_cons_self
      have c : 0 ≤ prt x p ∧ prt x p ≤ 1440 := by
        unfold prt mxi mni
        constructor <;> repeat' split
        all_goals omega
      unfold sm at *
      rw [List.map_cons, List.sum_cons, List.length_cons]
      omega
  have a := key d o.b
  have b := o.l
  omega
theorem tu_b (o : OkH hs) {m : Nat} (h : m ≤ 10 ^ 12) : 0 ≤ tu hs m ∧ tu hs m ≤ 10 ^ 20 := by
  have w := week_b o.d
  have t := week_b (hs := hs.take (m / 1440 % 7)) fun d hd => o.d d (List.mem_of_mem_take hd)
  have p := prt_b (getD_ok o (m / 1440 % 7)) (x := ((m % 1440 : Nat) : Int)) (by omega) (by omega)
  have hl := o.l
  have tl : (hs.take (m / 1440 % 7)).length ≤ 7 := by rw [List.length_take]; omega
  unfold tu
  generalize (hs.map (sm full)).sum = W at w
  generalize ((hs.take (m / 1440 % 7)).map (sm full)).sum = T at t
  generalize sm (prt ((m % 1440 : Nat) : Int)) (hs.getD (m / 1440 % 7) []) = S at p
  have q1 : 0 ≤ ((m / 10080 : Nat) : Int) * W := Int.mul_nonneg (by omega) w.1
  have q2 : ((m / 10080 : Nat) : Int) * W ≤ 10 ^ 12 * 30240 := Int.mul_le_mul (by omega) (by omega) w.1 (by decide)
  omega
end
theorem hA (x : D) : m_law_some x = l2 idxD (.ok x) (l1 drawD (l1 lenD (.ok x))) := (rfl)
def Wi (lo hi : Int) (d : D) : Prop := ∃ i : Int, d = .int i ∧ lo ≤ i ∧ i ≤ hi
section
variable {E : String → List (String × D) → Prop}
theorem draw_ok {n : Int} {P : D → Prop} (h0 : 0 < n) (h1 : n < 1073741824) (h : ∀ i : Int, 0 ≤ i → i < n → P (.int i)) : Sat (l1 m_law_pick (R.ok (.int n))) P E := by
  rw [z_l1]
  exact draw_sat h0 h1 h
theorem step_ints (xs : List Int) : stepR 2 (R.ok (lI xs)) none = .ok (lI (stepL xs 0 2)) ∧ stepR 2 (R.ok (lI xs)) (some (R.ok (D.int 1))) = .ok (lI (stepL xs 1 2)) := by
  have key : ∀ i : Nat, stepL (xs.map D.int) i 2 = (stepL xs i 2).map D.int := fun i => by
    rw [stepL_pick, stepL_pick, List.length_map, List.map_filterMap]
    congr 1
    funext j
    rw [List.getElem?_map]
  constructor
  · show (if (0 : Int) ≤ 0 then R.ok (D.lst (stepL (xs.map D.int) 0 2)) else .stuck) = _
    rw [if_pos (by decide), key]
  · show (if (0 : Int) ≤ 1 then R.ok (D.lst (stepL (xs.map D.int) 1 2)) else .stuck) = _
    rw [if_pos (by decide), key]
theorem step_mem {xs : List Int} {i : Nat} {x : Int} (h : x ∈ stepL xs i 2) : x ∈ xs := by
  rw [stepL_pick] at h
  obtain ⟨j, _, e⟩ := List.mem_filterMap.mp h
  exact List.mem_of_getElem? e
theorem sortQ_ints (xs : List Int) : sortQD (lI xs) = .ok (lI (isort xs)) := by
  have : sortQD (lI xs) = sortD (lI xs) := by cases xs <;> rfl
  rw [this]
  unfold sortD
  rw [show isLst (lI xs) = true from rfl, if_pos rfl, intsD_lst]; rfl
/-- a day's pairs so far -/
structure DayI (n : Nat) (s : D × List D) : Prop where
  ex : ∃ (l : Int) (d : List Pt), s = (.int l, d.map dPr) ∧ d.length ≤ n ∧ -1 ≤ l ∧ l ≤ 1440 ∧ (∀ p ∈ d, p.2 ≤ l) ∧ d.Pairwise (fun a b => a.2 < b.1) ∧ ∀ p ∈ d, 0 ≤ p.1 ∧ p.1 < p.2 ∧ p.2 ≤ 1440
theorem day_sat : Sat m_law_day (fun x => ∃ d, x = tP d ∧ OkD d) E := by
  unfold m_law_day
  refine sat_b (P := fun x => ∃ ns : List Int, x = lI ns ∧ ns.length = 6 ∧ ∀ i ∈ ns, 0 ≤ i ∧ i ≤ 1440) (sat_l1 (P := fun x => ∃ ns : List Int, x = lI ns ∧ ns.length = 6 ∧ ∀ i ∈ ns, 0 ≤ i ∧ i ≤ 1440) ?_ fun x ⟨ns, e, hl, hb⟩ => ?_) fun x ⟨ns, e, hl, hb⟩ => ?_
  · rw [rng1_ok (by omega) (by omega)]
    refine sat_mono (lcR_sat (P := Wi 0 1440) fun x _ => any_sat hA (by simp) (by simp) fun q hq => ?_) fun d ⟨zs, e, hdl, hzs⟩ => ?_
    · simp only [List.mem_cons, List.not_mem_nil, or_false] at hq
      rcases hq with rfl | rfl | rfl | rfl
      · exact sat_ok ⟨_, rfl, by omega, by omega⟩
      · exact sat_ok ⟨_, rfl, by omega, by omega⟩
      · exact draw_ok (by omega) (by omega) fun i a b => ⟨i, rfl, a, by omega⟩
      · exact draw_ok (by omega) (by omega) fun i a b => ⟨i, rfl, a, by omega⟩
    · subst e
      obtain ⟨ns, e, hns⟩ := ints_of (P := fun i => 0 ≤ i ∧ i ≤ 1440) (ds := zs) hzs
      subst e
      rw [List.length_map] at hdl
      exact ⟨ns, rfl, by rw [hdl]; rfl, hns⟩
  · subst e
    have hp := isort_perm ns
    exact sat_of (sortQ_ints ns) ⟨isort ns, rfl, by rw [hp.length_eq]; exact hl, fun i hi => hb i (hp.mem_iff.mp hi)⟩
  · subst e
    rw [show lstR [] = .ok (.lst []) from rfl, z_bok, z_tkt, show l1 negD (R.ok (D.int 1)) = .ok (.int (-1)) from rfl, z_bok, z_tkf, (step_ints ns).1, (step_ints ns).2]
    have l0 : (stepL ns 0 2).length ≤ 3 := by
      unfold stepL
      refine Nat.le_trans (List.length_filterMap_le _ _) ?_
      rw [List.length_range, hl]; decide
    have ez : zipD (R.ok (lI (stepL ns 0 2))) (R.ok (lI (stepL ns 1 2))) = .ok (((stepL ns 0 2).zip (stepL ns 1 2)).map dPr) := by
      show (if (zipL ((stepL ns 0 2).map D.int) ((stepL ns 1 2).map D.int)).length ≤ SZ then R.ok (zipL ((stepL ns 0 2).map D.int) ((stepL ns 1 2).map D.int)) else .stuck) = _
      rw [zipL_map, if_pos (sz_ok (by rw [List.length_map, List.length_zip]; omega))]
      rfl
    rw [ez, z_bok]
    have zl : (((stepL ns 0 2).zip (stepL ns 1 2)).map dPr).length ≤ 3 := by rw [List.length_map, List.length_zip]; omega
    refine sat_b (P := DayI 3) (sat_mono (forR_satI (k := 0) DayI 3 (by omega) ⟨-1, [], rfl, Nat.le_refl _, by decide, by decide, fun p hp => (by cases hp), .nil, fun p hp => (by cases hp)⟩ fun i s x hi hx ⟨l, d, e, dl, la, lb, hd, pw, db⟩ => ?_) fun s ⟨l, d, e, dl, z⟩ => ⟨l, d, e, by omega, z⟩) fun s ⟨l, d, e, dl, la, lb, hd, pw, db⟩ => ?_
    · obtain ⟨p, hp, rfl⟩ := List.mem_map.mp hx
      have hz := List.of_mem_zip (show (p.1, p.2) ∈ _ from hp)
      have b1 := hb _ (step_mem hz.1)
      have b2 := hb _ (step_mem hz.2)
      subst e
      show Sat (unp2 (D.tup [.int p.1, .int p.2]) _) _ _
      rw [z_u2]
      show Sat (R.bind (ifR (andB (tst (l2 gtD (R.ok (D.int p.1)) (R.ok (D.int l)))) (andB (tst (l2 ltD (R.ok (D.int p.1)) (R.ok (D.int p.2)))) (tst (l2 gtD (l1 m_law_pick (R.ok (D.int 3))) (R.ok (D.int 0)))))) (R.bind (tupR [(R.ok (D.int p.1)), (R.ok (D.int p.2))]) _) (R.ok (D.int l, d.map dPr))) _) _ _
      have keepI : DayI (i + 1) (D.int l, d.map dPr) := ⟨l, d, rfl, by omega, la, lb, hd, pw, db⟩
      rw [gt_is, z_l2 ltD, z_lt, z_tst, z_tr]
      refine sat_b (P := DayI (i + 1)) ?_ fun s h => sat_ok h
      by_cases q1 : l < p.1
      · rw [decide_eq_true q1, z_anT]
        by_cases q2 : p.1 < p.2
        · rw [decide_eq_true q2, z_anT]
          refine sat_ifR (sat_bnd (sat_l2 (P := Wi 0 2) (Q := fun d => d = .int 0) (draw_ok (by omega) (by omega) fun i a b => ⟨i, rfl, a, by omega⟩) (sat_ok rfl) fun u v ⟨j, eu, _, _⟩ ev => ?_))
          subst eu ev
          rw [z_gt]
          refine sat_ok ?_
          rw [z_tr]
          refine sat_ok ?_
          split
          · rw [show tupR [(R.ok (D.int p.1)), (R.ok (D.int p.2))] = .ok (dPr p) from rfl, z_bok]
            show Sat (R.bind (appL (d.map dPr) (dPr p)) _) _ _
            rw [appL_ok (by rw [List.length_map]; omega), z_bok, z_bok]
            refine sat_ok ⟨p.2, d ++ [p], by rw [List.map_append]; rfl, by rw [List.length_append, List.length_singleton]; omega, by omega, by omega, fun x hx => ?_, List.pairwise_append.mpr ⟨pw, List.pairwise_singleton _ _, fun x hx y hy => ?_⟩, fun x hx => ?_⟩
            · rcases List.mem_append.mp hx with hx | hx
              · have := hd x hx; omega
              · rw [List.mem_singleton.mp hx]; exact Int.le_refl _
            · rw [List.mem_singleton.mp hy]
              have := hd x hx
              omega
            · rcases List.mem_append.mp hx with hx | hx
              · exact db x hx
              · rw [List.mem_singleton.mp hx]; omega
          · exact sat_ok keepI
        · rw [decide_eq_false q2, z_anF, z_ifF]
          exact sat_ok keepI
      · rw [decide_eq_false q1, z_anF, z_ifF]
        exact sat_ok keepI
    · subst e
      exact sat_of (a := tP d) rfl ⟨d, rfl, pw, db, dl⟩
theorem days_of : ∀ {ds : List D}, (∀ y ∈ ds, ∃ d, y = tP d ∧ OkD d) → ∃ hs : List (List Pt), ds = hs.map tP ∧ ∀ d ∈ hs, OkD d
  | [], _ => ⟨[], rfl, fun d hd => by cases hd⟩
  | y :: ds, h => by
    obtain ⟨d, e, o⟩ := h y List.mem_cons_self
    obtain ⟨hs, e2, o2⟩ := days_of fun z hz => h z (List.mem_cons_of_mem _ hz)
    refine ⟨d :: hs, by rw [e, e2]; rfl, fun x hx => ?_⟩
    rcases List.mem_cons.mp hx with rfl | hx
    · exact o
    · exact o2 x hx
theorem okD_nil : OkD [] := ⟨.nil, fun p hp => (by cases hp), Nat.zero_le _⟩
theorem okD_all : OkD [(0, 1440)] := ⟨List.pairwise_singleton _ _, fun p hp => by rw [List.mem_singleton.mp hp]; decide, by decide⟩
def Hl (x : D) : Prop := ∃ hs : List (List Pt), x = .lst (hs.map tP) ∧ OkH hs
theorem hl_of {ds : List D} (hl : ds.length = 7) (h : ∀ y ∈ ds, ∃ d, y = tP d ∧ OkD d) : Hl (.lst ds) := by
  obtain ⟨hs, e, o⟩ := days_of h
  subst e
  rw [List.length_map] at hl
  exact ⟨hs, rfl, hl, o⟩
theorem hours_sat : Sat m_law_hours (fun x => ∃ hs, x = tH hs ∧ OkH hs) E := by
  unfold m_law_hours
  refine sat_b (P := Hl) ?_ fun some hs => ?_
  · rw [rng1_ok (by omega) (by omega)]
    refine sat_mono (lcR_sat (P := fun x => ∃ d, x = tP d ∧ OkD d) fun x _ => day_sat) fun d ⟨zs, e, hdl, hzs⟩ => ?_
    subst e
    exact hl_of (by rw [hdl]; rfl) hzs
  refine sat_b (P := Wi 0 5) (draw_ok (by omega) (by omega) fun i a b => ⟨i, rfl, a, by omega⟩) fun k ⟨k, e, _, _⟩ => ?_
  subst e
  refine sat_b (P := Hl) ?_ fun x ⟨hs, e, o⟩ => ?_
  · rw [z_l2 eqD, eqD_int, z_tst, z_tr]
    cases (k == 0) with
    | true =>
      rw [z_ifT]
      obtain ⟨hs, e, o⟩ := hs
      subst e
      refine sat_b (P := Hl) ?_ fun x h => sat_ok h
      rw [z_it]
      refine sat_mono (lcR_sat (P := fun x => ∃ d, x = tP d ∧ OkD d) fun x hx => ?_) fun d ⟨zs, e, hdl, hzs⟩ => ?_
      · obtain ⟨d, hd, rfl⟩ := List.mem_map.mp hx
        refine sat_ifR (sat_bnd (sat_l2 (P := Wi 0 4) (Q := fun d => d = .int 0) (draw_ok (by omega) (by omega) fun i a b => ⟨i, rfl, a, by omega⟩) (sat_ok rfl) fun u v ⟨j, eu, _, _⟩ ev => ?_))
        subst eu ev
        rw [eqD_int]
        refine sat_ok ?_
        rw [z_tr]
        refine sat_ok ?_
        split
        · exact sat_ok ⟨d, rfl, o.d d hd⟩
        · exact sat_of (a := tP []) rfl ⟨[], rfl, okD_nil⟩
      · subst e
        exact hl_of (by rw [hdl, List.length_map]; exact o.l) hzs
    | false =>
      rw [z_ifF]
      refine sat_b (P := Hl) ?_ fun x h => sat_ok h
      rw [z_l2 eqD, eqD_int, z_tst, z_tr]
      cases (k == 1) with
      | true =>
        rw [z_ifT]
        refine sat_bok (a := .lst ((List.replicate 7 [((0 : Int), (1440 : Int))]).map tP)) (by kernel_rfl) (sat_ok ⟨_, rfl, by decide, fun d hd => ?_⟩)
        rw [(List.mem_replicate.mp hd).2]; exact okD_all
      | false =>
        rw [z_ifF]
        refine sat_b (P := Hl) ?_ fun x h => sat_ok h
        rw [z_l2 eqD, eqD_int, z_tst, z_tr]
        cases (k == 2) with
        | true =>
          rw [z_ifT]
          refine sat_bok (a := .lst ((List.replicate 7 ([] : List Pt)).map tP)) (by kernel_rfl) (sat_ok ⟨_, rfl, by decide, fun d hd => ?_⟩)
          rw [(List.mem_replicate.mp hd).2]; exact okD_nil
        | false =>
          rw [z_ifF]
          exact sat_ok hs
  · subst e
    rw [z_l1, z_tupL]
    exact sat_ok ⟨hs, rfl, o⟩
/-! ### it is right -/
def Nt (b : Nat) (d : D) : Prop := ∃ n : Nat, d = .int (n : Nat) ∧ n ≤ b
theorem nats_of {b : Nat} {ds : List D} (h : ∀ y ∈ ds, Nt b y) : ∃ ns : List Nat, ds = ns.map (fun n => D.int ((n : Nat) : Int)) ∧ ∀ n ∈ ns, n ≤ b := by
  induction ds with
  | nil => exact ⟨[], rfl, fun n hn => by cases hn⟩
  | cons d ds ih =>
    obtain ⟨n, e, hn⟩ := h d List.mem_cons_self
    obtain ⟨ns, e2, h2⟩ := ih fun y hy => h y (List.mem_cons_of_mem _ hy)
    refine ⟨n :: ns, by rw [e, e2]; rfl, fun x hx => ?_⟩
    rcases List.mem_cons.mp hx with rfl | hx
    · exact hn
    · exact h2 x hx
theorem flag_ok {hs : List (List Pt)} (o : OkH hs) (m : Nat) : l1 anyD (lcR (itR (R.ok (lP (M hs)))) fun d => U2 _ d fun (v_t13 : D × D) => (chD leD ltD (R.ok v_t13.1) (R.ok (D.int ((m % 10080 : Nat) : Int))) (R.ok v_t13.2))) = .ok (.bl (fl ((m % 1440 : Nat) : Int) (hs.getD (m / 1440 % 7) []))) := by
  rw [z_it, any_map (p := fun p : Pt => decide (p.1 ≤ ((m % 10080 : Nat) : Int)) && decide (((m % 10080 : Nat) : Int) < p.2)) fun p hp => ?_]
  · rw [show ((M hs).any fun p : Pt => decide (p.1 ≤ ((m % 10080 : Nat) : Int)) && decide (((m % 10080 : Nat) : Int) < p.2)) = fl ((m % 10080 : Nat) : Int) (M hs) from rfl, ← fl_M o (j := m / 1440 % 7) (x := ((m % 1440 : Nat) : Int)) (by omega) (by omega) (by omega)]
    congr 3
    omega
  · show unp2 (D.tup [.int p.1, .int p.2]) _ = _
    rw [z_u2]
    show chD leD ltD (R.ok (D.int p.1)) (R.ok (D.int ((m % 10080 : Nat) : Int))) (R.ok (D.int p.2)) = _
    rw [chlt]
end
theorem oM_ok {L : Option Int} (h : ∀ t, L = some t → 0 ≤ t) : ifR (tst (l2 isD (R.ok (oI L)) (R.ok D.non))) (R.ok D.non) (l1 m_law_moment (R.ok (oI L))) = .ok (oM L) := by
  cases L with
  | none => rfl
  | some t =>
    have := h t rfl
    show l1 m_law_moment (R.ok (D.int t)) = _
    rw [z_l1, show t = ((t.toNat : Nat) : Int) from by omega, lmom_ok]
    rfl
theorem tell_oM {L : Option Int} {b : Nat} (hb : b ≤ 10 ^ 20) (h : ∀ t, L = some t → 0 ≤ t ∧ t ≤ (b : Int)) : tellable (oM L) := by
  cases L with
  | none => exact tell_n
  | some t =>
    have := h t rfl
    exact tell_mo (by omega) (by omega)
section
variable {E : String → List (String × D) → Prop} {hs gs : List (List Pt)}
theorem nat_list {b k : Nat} {d : D} (h : ∃ ds, d = .lst ds ∧ ds.length ≤ k ∧ ∀ y ∈ ds, Nt b y) : ∃ ds, d = .lst ds ∧ ds.length ≤ k ∧ ∀ y ∈ ds, Nt b y := h
theorem right_ok (o : OkH hs) (o' : OkH gs) (hr : Sat (m_law_are_refused (tH hs)) (fun d => d = .bl true) E) : Sat (m_law_is_right (tH hs) (tH gs)) (fun d => d = .bl true) E := by
  have mb := M_b o
  have ml := M_len o
  unfold m_law_is_right
  have er : l1 reprD (tupR [(R.ok (tH hs)), (R.ok (tH gs))]) = .ok (.str (shw (.tup [tH hs, tH gs]))) := by
    rw [show tupR [(R.ok (tH hs)), (R.ok (tH gs))] = .ok (.tup [tH hs, tH gs]) from rfl, z_l1, reprD_of (tell_both o o')]
  refine sat_bok er ?_
  rw [z_tkf]
  refine sat_bok (a := lP (M hs)) (by rw [z_l1, stretches_ok o]) ?_
  rw [z_tkf]
  refine sat_b (P := fun d => ∃ ds, d = .lst ds ∧ ds.length ≤ 8 ∧ ∀ y ∈ ds, Nt 10080 y) ?_ fun d ⟨es, e, el, eb⟩ => ?_
  · refine sat_l2 (P := fun d => d = .lst [.int 0, .int 10079]) (Q := fun d => ∃ ds, d = .lst ds ∧ ds.length ≤ 6 ∧ ∀ y ∈ ds, Nt 10080 y) (sat_of rfl rfl) ?_ fun p q ep ⟨ds, eq, dl, db⟩ => ?_
    · have es : sliceR (R.ok (lP (M hs))) none (some (R.ok (D.int 6))) = .ok (lP ((M hs).take 6)) := by
        show R.ok (D.lst (cut ((M hs).map dPr) none (some ((6 : Nat) : Int)))) = _
        rw [cut_to, lP, List.map_take]
      rw [es, z_it]
      refine sat_mono (lcR_sat (P := Nt 10080) fun x hx => ?_) fun d ⟨ds, e, dl, db⟩ => ⟨ds, e, by rw [dl, List.length_map, List.length_take]; omega, db⟩
      obtain ⟨p, hp, rfl⟩ := List.mem_map.mp hx
      have b := mb p (List.mem_of_mem_take hp)
      show Sat (unp2 (D.tup [.int p.1, .int p.2]) _) _ _
      rw [z_u2]
      show Sat (l1 m_law_some (lstR [(R.ok (D.int p.1)), (l2 subD (R.ok (D.int p.2)) (R.ok (D.int 1))), (R.ok (D.int p.2))])) _ _
      refine any_sat hA (by simp) (by simp) fun q hq => ?_
      simp only [List.mem_cons, List.not_mem_nil, or_false] at hq
      rcases hq with rfl | rfl | rfl
      · exact sat_ok ⟨p.1.toNat, by rw [Int.toNat_of_nonneg (by omega)], by omega⟩
      · rw [z_l2, z_sub]
        exact sat_ok ⟨(p.2 - 1).toNat, by rw [Int.toNat_of_nonneg (by omega)], by omega⟩
      · exact sat_ok ⟨p.2.toNat, by rw [Int.toNat_of_nonneg (by omega)], by omega⟩
    · subst ep eq
      refine sat_of (a := .lst ([.int 0, .int 10079] ++ ds)) (by
        show (if _ then _ else _) = _
        rw [if_pos (sz_ok (by simp only [List.length_cons, List.length_nil]; omega))]) ⟨_, rfl, by simp only [List.length_append, List.length_cons, List.length_nil]; omega, fun y hy => ?_⟩
      rcases List.mem_append.mp hy with hy | hy
      · simp only [List.mem_cons, List.not_mem_nil, or_false] at hy
        rcases hy with rfl | rfl
        · exact ⟨0, rfl, by decide⟩
        · exact ⟨10079, rfl, by decide⟩
      · exact db y hy
  subst e
  refine sat_bok rfl ?_
  refine thenC_go (fun s => s = .non ∨ Nt 20000000000 s) (sat_b (P := fun xs : List D => ∀ x ∈ xs, Nt 10080 x) ?_ fun xs hxs => forC_sat _ (.inl rfl) fun s x hx hs' => ?_) fun _ _ => ?_
  · refine sat_b (P := fun d => ∃ ds, d = .lst ds ∧ ∀ y ∈ ds, Nt 10080 y) (sat_l2 (P := fun d => d = .lst es) (Q := fun d => ∃ ds, d = .lst ds ∧ ds.length ≤ 4 ∧ ∀ y ∈ ds, Nt 10080 y) (sat_ok rfl) ?_ fun p q ep ⟨ds, eq, dl, db⟩ => ?_) fun d ⟨ds, e, db⟩ => by subst e; exact sat_ok db
    · rw [rng1_ok (by omega) (by omega)]
      refine sat_mono (lcR_sat (P := Nt 10080) fun x hx => draw_ok (by omega) (by omega) fun i a b => ⟨i.toNat, by rw [Int.toNat_of_nonneg a], by omega⟩) fun d ⟨ds, e, dl, db⟩ => ⟨ds, e, by rw [dl]; decide, db⟩
    · subst ep eq
      refine sat_of (a := .lst (es ++ ds)) (if_pos (sz_ok (by omega))) ⟨_, rfl, fun y hy => ?_⟩
      rcases List.mem_append.mp hy with hy | hy
      · exact eb y hy
      · exact db y hy
  · obtain ⟨n, e, hn⟩ := hxs x hx
    subst e
    refine sat_b (P := Nt 20000000000) (sat_l2 (P := fun d => d = .int (n : Nat)) (Q := Nt 10080000000) (sat_ok rfl) (sat_l2 (P := fun d => d = .int 10080) (Q := Nt 1000000) (sat_ok rfl) (any_sat hA (by simp) (by simp) fun q hq => ?_) fun p q ep ⟨k, eq, hk⟩ => ?_) fun p q ep ⟨k, eq, hk⟩ => ?_) fun d ⟨m, e, hm⟩ => ?_
    · simp only [List.mem_cons, List.not_mem_nil, or_false] at hq
      rcases hq with rfl | rfl | rfl | rfl
      · exact sat_ok ⟨0, rfl, by decide⟩
      · exact sat_ok ⟨0, rfl, by decide⟩
      · exact sat_ok ⟨1, rfl, by decide⟩
      · rw [show l2 powD (R.ok (D.int 10)) (R.ok (D.int 6)) = .ok (.int 1000000) from by kernel_rfl]
        exact draw_ok (by omega) (by omega) fun i a b => ⟨i.toNat, by rw [Int.toNat_of_nonneg a], by omega⟩
    · subst ep eq
      rw [mul_ok (by decide)]
      exact sat_ok ⟨10080 * k, by rw [Int.natCast_mul]; rfl, by omega⟩
    · subst ep eq
      rw [z_add]
      exact sat_ok ⟨n + k, by rw [Int.natCast_add], by omega⟩
    subst e
    have e1 : tupR [(l1 m_law_moment (R.ok (D.int (m : Nat)))), (l2 subD (R.ok (D.int (m : Nat))) (l2 mulD (R.ok (D.int 10080)) (l2 fdivD (R.ok (D.int (m : Nat))) (R.ok (D.int 10080)))))] = .ok (.tup [mo (m / 1440 : Nat) (m % 1440 : Nat), .int (m % 10080 : Nat)]) := by
      rw [z_l1, lmom_ok, div10080, z_l2 mulD, mul_ok (by decide), z_l2 subD, z_sub, show (m : Int) - 10080 * ((m / 10080 : Nat) : Int) = ((m % 10080 : Nat) : Int) from by omega]
      rfl
    refine sat_bok e1 ?_
    show Sat (unp2 (D.tup [mo (m / 1440 : Nat) (m % 1440 : Nat), .int (m % 10080 : Nat)]) _) _ _
    rw [z_u2]
    refine sat_bok (flag_ok o m) ?_
    refine sat_ifF (repr_ne (by
      show l2 m_is_open (R.ok (tH hs)) (R.ok (mo (m / 1440 : Nat) (m % 1440 : Nat))) = _
      rw [z_l2, isopen_ok o (by omega) (by omega)]) rfl (tell_bl _)) ?_
    refine sat_bok (a := oI (lawN hs m (m / 10080 : Nat))) (by rw [z_l2, lnext_ok o]) ?_
    have lb : ∀ t, lawN hs m (m / 10080 : Nat) = some t → 0 ≤ t ∧ t ≤ ((m + 20160 : Nat) : Int) := fun t e => by
      have := lawN_b o e
      omega
    refine sat_ifF (repr_ne (by
      show l2 m_next_open (R.ok (tH hs)) (R.ok (mo (m / 1440 : Nat) (m % 1440 : Nat))) = _
      rw [z_l2, next_ok o]) (oM_ok fun t e => (lb t e).1) (tell_oM (b := m + 20160) (by omega) lb)) ?_
    have inner : ∀ a b : Nat, a ≤ b → b ≤ 10 ^ 12 → Sat ((l2 subD (l2 m_law_minutes (R.ok (tH hs)) (R.ok (D.int (b : Nat)))) (l2 m_law_minutes (R.ok (tH hs)) (R.ok (D.int (a : Nat))))).bind fun v_due20 => (ifR (tst (l2 neD (l1 reprD (l3 m_open_minutes (R.ok (tH hs)) (l1 m_law_moment (R.ok (D.int (a : Nat)))) (l1 m_law_moment (R.ok (D.int (b : Nat)))))) (l1 reprD (R.ok v_due20)))) ((R.ok (D.bl false)).map Ct.ret) (R.ok (Ct.go ()) : R (Ct Unit)))) (fun c => ∃ s, c = .go s ∧ True) E := fun a b h hb => by
      have ta := tu_b o (m := a) (by omega)
      have tb := tu_b o (m := b) hb
      refine sat_bok (a := .int (tu hs b - tu hs a)) (by rw [z_l2 m_law_minutes, lmin_ok o, z_l2 m_law_minutes, lmin_ok o, z_l2, z_sub]) ?_
      refine sat_ifF (repr_ne (by rw [z_l1, lmom_ok, z_l1, lmom_ok, z_l3, minutes_ok o h]) rfl (tell_i (by omega))) (sat_ok ⟨(), rfl, True.intro⟩)
    refine thenC_go (fun _ : Unit => True) ?_ fun _ _ => sat_bok rfl (sat_ok ⟨_, rfl, .inr ⟨m, rfl, hm⟩⟩)
    rcases hs' with e | ⟨k, e, hk⟩
    · subst e
      exact sat_ok ⟨(), rfl, True.intro⟩
    · subst e
      refine sat_ifT rfl ?_
      by_cases q : m < k
      · refine sat_bok (a := .int (m : Nat)) (by rw [z_l2, z_min, if_pos (by omega)]) ?_
        rw [z_tkf]
        refine sat_bok (a := .int (k : Nat)) (by rw [z_l2, z_max, if_neg (by omega)]) ?_
        rw [z_tkf]
        exact inner m k (by omega) (by omega)
      · refine sat_bok (a := .int (k : Nat)) (by rw [z_l2, z_min, if_neg (by omega)]) ?_
        rw [z_tkf]
        refine sat_bok (a := .int (m : Nat)) (by
          rw [z_l2, z_max]
          split
          · rfl
          · rw [show k = m from by omega]) ?_
        rw [z_tkf]
        exact inner k m (by omega) (by omega)
  refine sat_ifF (repr_ne (by rw [z_l1, long_ok o]) (by rw [z_l1, llong_ok o]) (tell_lo o)) ?_
  refine sat_ifF (repr_ne (by rw [z_l1, days_ok o]) (ldays_ok o) tell_dop) ?_
  refine sat_bok (lonce_ok o o') ?_
  refine sat_ifF ?_ ?_
  · rw [repr_ne (by rw [z_l2, once_ok o o']) rfl ((sm_once o o').tell (by decide)), z_orF, ne_same (d := tH (once hs gs)) (by rw [z_l2, once_ok o' o, once_sym]) rfl (sm_once (n := 61) o o').1]
  · rw [er, z_l2, eqD_str, beq_self_eq_true, z_avT, z_l1]
    exact hr
/-! ### what is refused -/
def Dp (d : D) : Prop := ∃ x, m_is_stretch x = .ok (.bl false) ∧ (d = .tup [x] ∨ d = .lst [x] ∨ d = .dct [.int 0] [x])
theorem dp_str {d : D} (h : Dp d) : m_is_stretch d = .ok (.bl false) := by
  obtain ⟨x, _, rfl | rfl | rfl⟩ := h <;> rfl
theorem day_one {x : D} (h : m_is_stretch x = .ok (.bl false)) : m_is_day (.tup [x]) = .ok (.bl false) := by
  unfold m_is_day
  have e : (lcR (itR (R.ok (D.tup [x]))) fun d => U1 _ d fun (v_t0 : D) => (l1 m_is_stretch (R.ok v_t0))) = .ok (.lst [.bl false]) := by
    have := lcR_map (xs := [x]) (h := id) (g := fun _ => D.bl false) (f := fun d => U1 _ d fun (v_t0 : D) => (l1 m_is_stretch (R.ok v_t0))) fun y hy => by
      rw [List.mem_singleton.mp hy]
      show l1 m_is_stretch (R.ok x) = _
      rw [z_l1, h]
    exact this
  rw [e]
  rfl
theorem dp_day {d : D} (h : Dp d) : m_is_day d = .ok (.bl false) := by
  obtain ⟨x, hx, rfl | rfl | rfl⟩ := h
  · exact day_one hx
  · rfl
  · rfl
theorem dp_open {d : D} (h : Dp d) : m_check_open d = .exc "BadOpen" [] := by
  obtain ⟨x, hx, rfl | rfl | rfl⟩ := h <;> rfl
theorem dp_mom {d : D} (h : Dp d) : m_check_moment d = .exc "NoMoment" [] := by
  obtain ⟨x, hx, rfl | rfl | rfl⟩ := h <;> rfl
theorem deep_sat : Sat m_law_deep Dp E := by
  unfold m_law_deep
  refine sat_b (P := fun d => m_is_stretch d = .ok (.bl false)) (any_sat hA (by simp) (by simp) fun q hq => ?_) fun d0 h0 => ?_
  · simp only [List.mem_cons, List.not_mem_nil, or_false] at hq
    rcases hq with rfl | rfl | rfl
    · exact sat_ok rfl
    · exact sat_ok rfl
    · exact sat_ok rfl
  have step : ∀ d x : D, m_is_stretch d = .ok (.bl false) → Sat (U1 _ x fun (v_t2 : D) => ((l2 idxD (lstR [(tupR [(R.ok d)]), (lstR [(R.ok d)]), ((R.ok d).map fun d => D.dct [D.int 0] [d])]) (l1 m_law_pick (R.ok (D.int 3)))).bind fun v_found3 => (R.ok v_found3))) Dp E := fun d x h => by
    show Sat (R.bind _ _) _ _
    refine sat_b (P := Dp) ?_ fun d h => sat_ok h
    refine sat_l2 (P := fun l => l = .lst [.tup [d], .lst [d], .dct [.int 0] [d]]) (Q := Wi 0 2) (sat_of rfl rfl) (draw_ok (by omega) (by omega) fun i a b => ⟨i, rfl, a, by omega⟩) fun p q ep ⟨i, eq, i0, i1⟩ => ?_
    subst ep eq
    have hi : i = 0 ∨ i = 1 ∨ i = 2 := by omega
    rcases hi with rfl | rfl | rfl
    · exact sat_of (a := .tup [d]) rfl ⟨d, h, .inl rfl⟩
    · exact sat_of (a := .lst [d]) rfl ⟨d, h, .inr (.inl rfl)⟩
    · exact sat_of (a := .dct [.int 0] [d]) rfl ⟨d, h, .inr (.inr rfl)⟩
  refine sat_b (P := Dp) ?_ fun d h => sat_ok h
  refine sat_b (P := fun xs : List D => xs ≠ []) (sat_b (P := Wi 1 28) (sat_l2 (P := fun d => d = .int 1) (Q := Wi 0 27) (sat_ok rfl) (draw_ok (by omega) (by omega) fun i a b => ⟨i, rfl, a, by omega⟩) fun p q ep ⟨i, eq, i0, i1⟩ => ?_) fun d ⟨i, e, i0, i1⟩ => ?_) fun xs hx => ?_
  · subst ep eq
    rw [z_add]
    exact sat_ok ⟨_, rfl, by omega, by omega⟩
  · subst e
    refine sat_of (rng1_ok (by omega) (by omega)) ?_
    rw [rngL]
    intro z
    have := congrArg List.length z
    rw [List.length_map, List.length_range, List.length_nil] at this
    omega
  · cases xs with
    | nil => exact absurd rfl hx
    | cons x xs =>
      rw [forR_c]
      exact sat_b (step d0 x h0) fun d h => forR_sat Dp h fun s y _ hs => step s y (dp_str hs)
end
def wH : D := .str [104, 111, 117, 114, 115]
def wM : D := .str [109, 111, 109, 101, 110, 116]
def wB : D := .str [98, 101, 104, 105, 110, 100]
theorem said_H : m_law_word (.exc "BadOpen" []) = .ok wH := by kernel_rfl
theorem said_M : m_law_word (.exc "NoMoment" []) = .ok wM := by kernel_rfl
theorem said_B : m_law_word (.exc "NotBehind" []) = .ok wB := by kernel_rfl
theorem disp2 (s : String) (F : D → D → R D) (e : tbl2.lookup s = some (un2 F)) (a b : D) : l3 m_law_of_two (R.ok (D.fn s)) (R.ok a) (R.ok b) = nx (m_law_word (F a b)) := by
  rw [z_l3]
  unfold m_law_of_two
  have : (disp tbl2 (.fn s) fun F => (args [(R.ok a), (R.ok b)]).bind F) = F a b := by
    show (match List.lookup s tbl2 with
      | some f => (args [(R.ok a), (R.ok b)]).bind f
      | none => R.stuck) = _
    rw [e]
    rfl
  rw [this]
theorem disp1 (s : String) (F : D → R D) (e : tbl1.lookup s = some (un1 F)) (a : D) : l2 m_law_of_one (R.ok (D.fn s)) (R.ok a) = nx (m_law_word (F a)) := by
  rw [z_l2]
  unfold m_law_of_one
  have : (disp tbl1 (.fn s) fun F => (args [(R.ok a)]).bind F) = F a := by
    show (match List.lookup s tbl1 with
      | some f => (args [(R.ok a)]).bind f
      | none => R.stuck) = _
    rw [e]
    rfl
  rw [this]
theorem all_last {ds : List D} {y : D} {F : D → R D} (h1 : ∀ d ∈ ds, F d = .ok (.bl true)) (h2 : F y = .ok (.bl false)) : l1 allD (lcR (R.ok (ds ++ [y])) F) = .ok (.bl false) := by
  have e : ds ++ [y] = (ds.map (fun d => (d, true)) ++ [(y, false)]).map (fun p : D × Bool => p.1) := by
    rw [List.map_append, List.map_map]
    congr 1
    exact (List.map_id _).symm
  rw [e, lcR_map (g := fun p : D × Bool => D.bl p.2) fun p hp => ?_]
  · rw [show D.lst ((ds.map (fun d => (d, true)) ++ [(y, false)]).map fun p : D × Bool => D.bl p.2) = .lst (((ds.map (fun d => (d, true)) ++ [(y, false)]).map (·.2)).map D.bl) from by rw [List.map_map]; rfl, z_l1, allD_lst]
    congr 2
    rw [List.map_append, List.all_append]
    simp
  · rcases List.mem_append.mp hp with hp | hp
    · obtain ⟨d, hd, rfl⟩ := List.mem_map.mp hp
      exact h1 d hd
    · rw [List.mem_singleton.mp hp]; exact h2
theorem open_len {ds : List D} (h : ds.length ≠ 7) : m_check_open (.tup ds) = .exc "BadOpen" [] := by
  unfold m_check_open
  rw [show l1 (isiD "tuple") (R.ok (D.tup ds)) = .ok (.bl true) from rfl, show notB (tst (R.ok (D.bl true))) = .ok false from rfl, z_orF, z_l1 lenD, z_lenT, z_l2, neD_int, z_tst, z_tr, show (!((ds.length : Nat) : Int) == 7) = true from by
    rw [Bool.not_eq_true', Bool.eq_false_iff]
    intro z
    have := eq_of_beq z
    omega]
  rfl
section
variable {E : String → List (String × D) → Prop} {hs : List (List Pt)}
theorem open_day {d : D} (o : OkH hs) (h : m_is_day d = .ok (.bl false)) : m_check_open (.tup ((hs.take 6).map tP ++ [d])) = .exc "BadOpen" [] := by
  have hl := o.l
  unfold m_check_open
  rw [show l1 (isiD "tuple") (R.ok (D.tup ((hs.take 6).map tP ++ [d]))) = .ok (.bl true) from rfl, show notB (tst (R.ok (D.bl true))) = .ok false from rfl, z_orF, z_l1 lenD, z_lenT, List.length_append, List.length_map, List.length_take, hl, show tst (l2 neD (R.ok (D.int ((min 6 7 + [d].length : Nat) : Int))) (R.ok (D.int 7))) = .ok false from rfl, z_orF, z_itT, all_last (fun x hx => ?_) ?_]
  · rfl
  · show l1 m_is_day (R.ok d) = _
    rw [z_l1, h]
  · obtain ⟨y, hy, rfl⟩ := List.mem_map.mp hx
    show l1 m_is_day (R.ok (tP y)) = _
    rw [z_l1, day_ok (o.d y (List.mem_of_mem_take hy))]
def someL : List D := [.tup [.int 5, .int 5], .tup [.int 9, .int 5], .tup [.int (-1), .int 5], .tup [.int 5, .int 1441], .tup [.int 5], .tup [.int 1, .int 2, .int 3], .lst [.int 1, .int 5], .non, .int 5, .tup [.bl true, .int 5], .tup [.int 1, .non]]
theorem some_bad : ∀ d ∈ someL, m_is_stretch d = .ok (.bl false) := by
  intro d hd
  simp only [someL, List.mem_cons, List.not_mem_nil, or_false] at hd
  rcases hd with rfl | rfl | rfl | rfl | rfl | rfl | rfl | rfl | rfl | rfl | rfl <;> kernel_rfl
def four : D := .tup [.tup [.int 1, .int 2], .tup [.int 4, .int 5], .tup [.int 7, .int 8], .tup [.int 10, .int 11]]
theorem refused (o : OkH hs) : Sat (m_law_are_refused (tH hs)) (fun d => d = .bl true) E := by
  have hl := o.l
  unfold m_law_are_refused
  refine sat_bok (a := .lst someL) rfl (sat_bok (a := four) rfl ?_)
  refine sat_b (P := fun d => m_is_day d = .ok (.bl false)) (any_sat hA (by simp) (by simp) fun q hq => ?_) fun day hday => ?_
  · simp only [List.mem_cons, List.not_mem_nil, or_false] at hq
    rcases hq with rfl | rfl | rfl | rfl | rfl
    · refine tup_sat (args_cons_sat (P := fun d => m_is_stretch d = .ok (.bl false)) ?_ fun d hd => args_nil_sat (day_one hd))
      rw [z_l1]
      exact sat_mono (any_of hA (by decide) (by decide)) some_bad
    · exact sat_of rfl (by kernel_rfl)
    · exact sat_ok (by kernel_rfl)
    · exact sat_of rfl (by kernel_rfl)
    · exact sat_ok (by kernel_rfl)
  refine sat_b (P := fun d => m_is_day d = .ok (.bl false)) (any_sat hA (by simp) (by simp) fun q hq => ?_) fun day2 hday2 => ?_
  · simp only [List.mem_cons, List.not_mem_nil, or_false] at hq
    rcases hq with rfl | rfl | rfl | rfl | rfl | rfl | rfl
    · exact sat_ok hday
    · exact sat_ok hday
    · exact sat_of rfl (by kernel_rfl)
    · exact sat_of rfl (by kernel_rfl)
    · exact sat_ok (by kernel_rfl)
    · exact sat_ok (by kernel_rfl)
    · exact sat_mono deep_sat fun d h => dp_day h
  refine sat_b (P := fun d => m_check_open d = .exc "BadOpen" []) (any_sat hA (by simp) (by simp) fun q hq => ?_) fun bad hbad => ?_
  · simp only [List.mem_cons, List.not_mem_nil, or_false] at hq
    rcases hq with rfl | rfl | rfl | rfl | rfl | rfl | rfl | rfl | rfl
    · refine sat_of (a := .tup ((hs.take 6).map tP ++ [day2])) ?_ (open_day o hday2)
      have es : sliceR (R.ok (tH hs)) none (some (R.ok (D.int 6))) = .ok (tH (hs.take 6)) := by
        show R.ok (D.tup (cut (hs.map tP) none (some ((6 : Nat) : Int)))) = _
        rw [cut_to, tH, List.map_take]
      rw [es]
      show (if _ then _ else _) = _
      rw [if_pos (sz_ok (by rw [List.length_map, List.length_take]; simp only [List.length_cons, List.length_nil]; omega))]
    · refine sat_of (a := .tup (hs.map tP ++ [.tup []])) ?_ (open_len (by rw [List.length_append, List.length_map, hl]; decide))
      show (if _ then _ else _) = _
      rw [if_pos (sz_ok (by rw [List.length_map]; simp only [List.length_cons, List.length_nil]; omega))]
    · refine sat_of (a := tH (hs.drop 1)) ?_ (open_len (by rw [List.length_map, List.length_drop, hl]; decide))
      show R.ok (D.tup (cut (hs.map tP) (some 1) none)) = _
      rw [cut_1, tH, List.map_drop]
    · exact sat_of (a := .lst (hs.map tP)) rfl rfl
    · exact sat_ok (by kernel_rfl)
    · exact sat_ok (by kernel_rfl)
    · exact sat_ok (by kernel_rfl)
    · exact sat_of rfl (by kernel_rfl)
    · exact sat_mono deep_sat fun d h => dp_open h
  refine sat_b (P := fun d => m_check_moment d = .exc "NoMoment" []) (any_sat hA (by simp) (by simp) fun q hq => ?_) fun odd hodd => ?_
  · simp only [List.mem_cons, List.not_mem_nil, or_false] at hq
    rcases hq with rfl | rfl | rfl | rfl | rfl | rfl | rfl | rfl | rfl | rfl
    · exact sat_of rfl (by kernel_rfl)
    · exact sat_of rfl (by kernel_rfl)
    · exact sat_of rfl (by kernel_rfl)
    · exact sat_of rfl (by kernel_rfl)
    · exact sat_of rfl (by kernel_rfl)
    · exact sat_of rfl (by kernel_rfl)
    · exact sat_ok (by kernel_rfl)
    · exact sat_ok (by kernel_rfl)
    · exact sat_of rfl (by kernel_rfl)
    · exact sat_of rfl (by kernel_rfl)
  refine sat_b (P := fun d => m_check_moment d = .exc "NoMoment" []) (any_sat hA (by simp) (by simp) fun q hq => ?_) fun no hno => ?_
  · simp only [List.mem_cons, List.not_mem_nil, or_false] at hq
    rcases hq with rfl | rfl | rfl | rfl | rfl
    · exact sat_ok hodd
    · exact sat_ok hodd
    · exact sat_ok (by kernel_rfl)
    · exact sat_ok (by kernel_rfl)
    · exact sat_mono deep_sat fun d h => dp_mom h
  have ok := open_ok o
  have a1 : l3 m_law_of_two (R.ok (D.fn "is_open")) (R.ok bad) (R.ok no) = .ok wH := by
    rw [disp2 "is_open" m_is_open (by kernel_rfl)]; unfold m_is_open; rw [z_l1 m_check_open, hbad, z_bexc, said_H, nxok]
  have a2 : l3 m_law_of_two (R.ok (D.fn "is_open")) (R.ok (tH hs)) (R.ok no) = .ok wM := by
    rw [disp2 "is_open" m_is_open (by kernel_rfl)]; unfold m_is_open; rw [z_l1 m_check_open, ok, z_bok, z_l1, hno, z_bexc, said_M, nxok]
  have a3 : l3 m_law_of_two (R.ok (D.fn "next_open")) (R.ok bad) (R.ok no) = .ok wH := by
    rw [disp2 "next_open" m_next_open (by kernel_rfl)]; unfold m_next_open; rw [z_l1 m_check_open, hbad, z_bexc, said_H, nxok]
  have a4 : l3 m_law_of_two (R.ok (D.fn "next_open")) (R.ok (tH hs)) (R.ok no) = .ok wM := by
    rw [disp2 "next_open" m_next_open (by kernel_rfl)]; unfold m_next_open; rw [z_l1 m_check_open, ok, z_bok, z_l1, hno, z_bexc, said_M, nxok]
  refine sat_bok (a := .lst []) rfl (sat_bok (a := .lst [wH, wM, wH, wM]) ?_ ?_)
  · have step : ∀ (s : String) (ws : List D), l3 m_law_of_two (R.ok (D.fn s)) (R.ok bad) (R.ok no) = .ok wH → l3 m_law_of_two (R.ok (D.fn s)) (R.ok (tH hs)) (R.ok no) = .ok wM → ws.length ≤ 10 → (U1 _ (D.fn s) fun (v_t9 : D) => ((l2 addD (R.ok (D.lst ws)) (lstR [(l3 m_law_of_two (R.ok v_t9) (R.ok bad) (R.ok no)), (l3 m_law_of_two (R.ok v_t9) (R.ok (tH hs)) (R.ok no))])).bind fun v_words10 => (R.ok v_words10))) = .ok (.lst (ws ++ [wH, wM])) := fun s ws e1 e2 hw => by
      show R.bind (l2 addD (R.ok (D.lst ws)) (lstR [(l3 m_law_of_two (R.ok (D.fn s)) (R.ok bad) (R.ok no)), (l3 m_law_of_two (R.ok (D.fn s)) (R.ok (tH hs)) (R.ok no))])) _ = _
      rw [e1, e2]
      show R.bind (if _ then _ else _) _ = _
      rw [if_pos (sz_ok (by simp only [List.length_cons, List.length_nil]; omega)), z_bok]
    show R.bind (R.ok [D.fn "is_open", D.fn "next_open"]) _ = _
    rw [z_bok, forR_c]
    refine (congrArg (fun m : R D => m.bind _) (step "is_open" [] a1 a2 (by decide))).trans ?_
    rw [z_bok, forR_c]
    refine (congrArg (fun m : R D => m.bind _) (step "next_open" ([] ++ [wH, wM]) a3 a4 (by decide))).trans ?_
    rfl
  have m11 : m_check_moment (mo 1 1) = .ok .non := mom_ok (by decide) (by decide) (by decide)
  have m10 : m_check_moment (mo 1 0) = .ok .non := mom_ok (by decide) (by decide) (by decide)
  have t11 : tupR [(R.ok (D.int 1)), (R.ok (D.int 1))] = .ok (mo 1 1) := rfl
  have t10 : tupR [(R.ok (D.int 1)), (R.ok (D.int 0))] = .ok (mo 1 0) := rfl
  have b1 : l3 m_law_of_three (R.ok bad) (R.ok no) (R.ok no) = .ok wH := by
    rw [z_l3]; unfold m_law_of_three m_open_minutes; rw [z_l3, z_l1 m_check_open, hbad, z_bexc, said_H, nxok]
  have b2 : l3 m_law_of_three (R.ok (tH hs)) (R.ok no) (R.ok no) = .ok wM := by
    rw [z_l3]; unfold m_law_of_three m_open_minutes; rw [z_l3, z_l1 m_check_open, ok, z_bok, z_l1, hno, z_bexc, said_M, nxok]
  have b3 : l3 m_law_of_three (R.ok (tH hs)) (R.ok (mo 1 1)) (R.ok no) = .ok wM := by
    rw [z_l3]; unfold m_law_of_three m_open_minutes; rw [z_l3, z_l1 m_check_open, ok, z_bok, z_l1, m11, z_bok, z_l1, hno, z_bexc, said_M, nxok]
  have b4 : l3 m_law_of_three (R.ok (tH hs)) (R.ok (mo 1 1)) (R.ok (mo 1 0)) = .ok wB := by
    rw [z_l3]; unfold m_law_of_three m_open_minutes; rw [z_l3, z_l1 m_check_open, ok, z_bok, z_l1, m11, z_bok, z_l1, m10, z_bok, lt_mo, show (if (1 : Int) = 1 then decide ((0 : Int) < 1) else decide ((1 : Int) < 1)) = true from by decide, z_tst, z_tr, z_ifT, said_B, nxok]
  have c1 : l2 m_law_of_one (R.ok (D.fn "longest_shut")) (R.ok bad) = .ok wH := by
    rw [disp1 "longest_shut" m_longest_shut (by kernel_rfl)]; unfold m_longest_shut; rw [z_l1 m_check_open, hbad, z_bexc, said_H, nxok]
  have c2 : l2 m_law_of_one (R.ok (D.fn "days_open")) (R.ok bad) = .ok wH := by
    rw [disp1 "days_open" m_days_open (by kernel_rfl)]; unfold m_days_open; rw [z_l1 m_check_open, hbad, z_bexc, said_H, nxok]
  have c3 : l3 m_law_of_two (R.ok (D.fn "at_once")) (R.ok bad) (R.ok bad) = .ok wH := by
    rw [disp2 "at_once" m_at_once (by kernel_rfl)]; unfold m_at_once; rw [z_l1 m_check_open, hbad, z_bexc, said_H, nxok]
  have c4 : l3 m_law_of_two (R.ok (D.fn "at_once")) (R.ok (tH hs)) (R.ok bad) = .ok wH := by
    rw [disp2 "at_once" m_at_once (by kernel_rfl)]; unfold m_at_once; rw [z_l1 m_check_open, ok, z_bok, z_l1, hbad, z_bexc, said_H, nxok]
  rw [t11, t10, b1, b2, b3, b4, c1, c2]
  refine sat_bok (a := .lst [wH, wM, wH, wM, wH, wM, wM]) (by kernel_rfl) (sat_bok (a := .lst [wH, wM, wH, wM, wH, wM, wM, wB, wH, wH]) (by kernel_rfl) ?_)
  rw [c3, c4]
  refine sat_bok (a := .lst [wH, wM, wH, wM, wH, wM, wM, wB, wH, wH, wH, wH]) (by kernel_rfl) (sat_of (a := .bl true) (by kernel_rfl) rfl)
end
theorem hand_ok (ns : List Int) (hl : ns.length ≤ 63) : ∃ cs k, m_law_bag (.src (ns.map .int)) = .ok (handD cs 0 0 k 0) ∧ handC cs 0 0 k 0 = true := by
  refine ⟨(ns.take 63).map fun n => (if n < 0 then -n else n), 4165 + 5 * (((ns.take 63).map fun n => (if n < 0 then -n else n)).length : Int), ?_, ?_⟩
  · unfold m_law_bag
    rw [hand_cells (fun n => (if n < 0 then -n else n)) fun n _ => rfl]
    simp only [z_bok, z_bexc, z_map, z_mapexc, z_tkt, z_tkf, z_own, z_l1, z_l1e, z_l2, z_l2e, z_l3, z_l4, z_a0, z_acG, z_lst, z_tup, z_add, z_sub, z_neg, z_abs, z_int, z_min, z_max, z_len, z_lenT, z_tst, z_tste, z_tr, z_ifT, z_ifF, z_ife, z_anT, z_anF, z_orT, z_orF, z_no, z_avT, z_avF, z_ovT, z_ovF, z_nv, z_lt, z_le, z_gt, z_ge, z_ch, z_tupT, z_tupL, z_lsL, z_it, z_itT, z_u2, z_u3, eqD_int, neD_int, z_thG, z_thR, U1, List.length_map]
    rw [mul_ok (by decide)]
    simp only [z_bok, z_bexc, z_map, z_mapexc, z_tkt, z_tkf, z_own, z_l1, z_l1e, z_l2, z_l2e, z_l3, z_l4, z_a0, z_acG, z_lst, z_tup, z_add, z_sub, z_neg, z_abs, z_int, z_min, z_max, z_len, z_lenT, z_tst, z_tste, z_tr, z_ifT, z_ifF, z_ife, z_anT, z_anF, z_orT, z_orF, z_no, z_avT, z_avF, z_ovT, z_ovF, z_nv, z_lt, z_le, z_gt, z_ge, z_ch, z_tupT, z_tupL, z_lsL, z_it, z_itT, z_u2, z_u3, eqD_int, neD_int, z_thG, z_thR, U1]; rfl
  · unfold handC
    simp only [Bool.and_eq_true, List.all_eq_true, decide_eq_true_eq]
    refine ⟨⟨⟨⟨fun c hc => ?_, by decide⟩, by decide⟩, by omega⟩, by decide⟩
    obtain ⟨n, _, rfl⟩ := List.mem_map.mp hc
    split <;> omega
theorem all_bl : ∀ {ds : List D}, (∀ y ∈ ds, y = .bl true) → allD (.lst ds) = .ok (.bl true) := by
  intro ds h
  have e : ds = (List.replicate ds.length true).map D.bl := by
    induction ds with
    | nil => rfl
    | cons d ds ih =>
      rw [List.length_cons, List.replicate_succ, List.map_cons, ← ih fun y hy => h y (List.mem_cons_of_mem _ hy), h d List.mem_cons_self]
  rw [e, allD_lst]
  congr 2
  simp
theorem plainS (ns : List Int) (hl : ns.length ≤ 63) : Sat (un1 m_law [.src (ns.map .int)]) (fun d => d = .bl true) fun _ _ => False := by
  show Sat (m_law _) _ _
  unfold m_law
  obtain ⟨cs, k, e, hc⟩ := hand_ok ns hl
  rw [z_l1 m_law_bag, e, z_bok]
  refine sat_seal (handB_of hc) ?_
  refine sat_bok (a := tH [[(60, 120)], [], [(0, 30), (1000, 1440)], [(0, 10)], [], [], []]) rfl ?_
  refine sat_ifF (by kernel_rfl) (sat_ifF (by kernel_rfl) (sat_ifF (by kernel_rfl) (sat_ifF (by kernel_rfl) ?_)))
  refine sat_l1 (P := fun d => ∃ ds, d = .lst ds ∧ ∀ y ∈ ds, y = .bl true) ?_ fun d ⟨ds, e, h⟩ => by subst e; exact sat_of (all_bl h) rfl
  rw [rng1_ok (by omega) (by omega)]
  refine sat_mono (lcR_sat (P := fun d => d = .bl true) fun x _ => ?_) fun d ⟨ds, e, _, h⟩ => ⟨ds, e, h⟩
  refine sat_l2 hours_sat hours_sat fun p q ⟨hs, ep, o⟩ ⟨gs, eq, o'⟩ => ?_
  subst ep eq
  exact right_ok o o' (refused o)
theorem plain (ns : List Int) (hl : ns.length ≤ 63) : (un1 m_law [.src (ns.map .int)]).sat (fun d => d = .bl true) fun _ _ => False := (plainS ns hl).s
end LW


open PySem PySem.W PySem.Calls PyProof.Rows
theorem PySem.Challenge.cw_postshire_k15_whole_hours_open_holds : PySem.Challenge.rw_postshire_k15_whole_hours_open.Holds := by
  w_on; o_law
  refine HandSHeadRun.head_any (r := OpenLaw.row PySem.Challenge.rw_postshire_k15_whole_hours_open) (q := view (OpenLaw.row PySem.Challenge.rw_postshire_k15_whole_hours_open).prog [48]) (H := LW.hk) (ob := LW.ob) (M := 6000) (loose := LW.loose) (d := HandSHeadRun.topDef (OpenLaw.row PySem.Challenge.rw_postshire_k15_whole_hours_open).prog 48) (kwd := []) LW.ob_eq
    (by kernel_rfl) (fun s => by kernel_rfl) LW.run (by kernel_rfl) (by kernel_rfl) (by kernel_rfl) (by rfl) (by first | assumption | decide +kernel) (by decide +kernel) ⟨rfl, rfl, rfl, rfl, rfl, by decide +kernel⟩ ?hw ?hc
  case hw => w_witness2
  case hc => exact Ev.law_end (l := PySem.Challenge.rw_postshire_k15_whole_hours_open) (k := 12) rfl (by kernel_rfl) (by kernel_rfl) ⟨rfl, by decide, by decide⟩ LW.okL LW.plain

