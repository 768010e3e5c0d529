import PyProof.Rows.All
import Wide.All
import OpenK.AllK
import Wide.FinOn
import Lean
import PySem.Challenge.RW_tk0043_01
set_option Elab.async false
set_option autoImplicit false
set_option tactic.hygienic false
set_option maxRecDepth 100000
set_option linter.unusedVariables false
set_option genSizeOf false
set_option genInjectivity false
set_option bootstrap.genMatcherCode false
section
namespace Mine
theorem noS {α : Type} {a : α} {M : Prop} (h : none = some a) : M := by cases h
theorem sNo {α : Type} {a : α} {M : Prop} (h : some a = none) : M := by cases h
theorem fTr {M : Prop} (h : false = true) : M := by cases h
theorem tFa {M : Prop} (h : true = false) : M := by cases h
theorem elim1 {α : Type} {a b : α} {M : α → Prop} (h : some a = some b) (k : M a) : M b := by cases h; exact k
theorem elim2 {α β : Type} {a b : α} {c d : β} {M : α → β → Prop} (h : some (a, c) = some (b, d)) (k : M a c) : M b d := by cases h; exact k
theorem some2 {α β : Type} {a b : α} {c d : β} (h : some (a, c) = some (b, d)) : a = b ∧ c = d := by cases h; exact ⟨rfl, rfl⟩
theorem noP {α β : Type} {a : α} {c d : β} {M : Prop} (h : some (some a, c) = some (none, d)) : M := by cases h
theorem nPo {α β : Type} {a : α} {c d : β} {M : Prop} (h : some (none, c) = some (some a, d)) : M := by cases h
theorem if_some {α : Type} {c : Prop} [Decidable c] {a : Option α} {b : α} (h : (if c then a else none) = some b) : c ∧ a = some b := by
  by_cases k : c
  · rw [if_pos k] at h; exact ⟨k, h⟩
  · rw [if_neg k] at h; cases h
theorem if_not {α : Type} {c : Prop} [Decidable c] {a : Option α} {b : α} (h : (if c then none else a) = some b) : ¬c ∧ a = some b := by
  by_cases k : c
  · rw [if_pos k] at h; cases h
  · rw [if_neg k] at h; exact ⟨k, h⟩
theorem andB {a b : Bool} (h : (a && b) = true) : a = true ∧ b = true := by cases a <;> cases b <;> first | exact ⟨rfl, rfl⟩ | cases h
theorem notB {a : Bool} (h : (!a) = true) : a = false := by cases a <;> first | rfl | cases h
theorem if_or {α : Type} {c : Prop} [Decidable c] {a b r : α} {M : Prop} (h : (if c then a else b) = r) (k1 : c → a = r → M) (k2 : ¬c → b = r → M) : M := by
  by_cases k : c
  · rw [if_pos k] at h; exact k1 k h
  · rw [if_neg k] at h; exact k2 k h
theorem bindE {α β : Type} {o : Option α} {f : α → Option β} {b : β} {M : Prop} (h : o.bind f = some b) (k : ∀ a, o = some a → f a = some b → M) : M := by
  cases o with
  | none => cases h
  | some a => exact k a rfl h
theorem mapE {α β : Type} {o : Option α} {f : α → β} {b : β} {M : Prop} (h : o.map f = some b) (k : ∀ a, o = some a → f a = b → M) : M := by
  cases o with
  | none => cases h
  | some a => exact k a rfl (Option.some.inj h)
theorem mapR {α β : Type} {o : Option α} {f : α → β} {b : β} {M : β → Prop} (h : o.map f = some b) (k : ∀ a, o = some a → M (f a)) : M b := by
  cases o with
  | none => cases h
  | some a => cases h; exact k a rfl
theorem and2 {A B M : Prop} (h : A ∧ B) (k : A → B → M) : M := k h.1 h.2
theorem and3 {A B C M : Prop} (h : A ∧ B ∧ C) (k : A → B → C → M) : M := k h.1 h.2.1 h.2.2
theorem and5 {A B C D E M : Prop} (h : A ∧ B ∧ C ∧ D ∧ E) (k : A → B → C → D → E → M) : M := k h.1 h.2.1 h.2.2.1 h.2.2.2.1 h.2.2.2.2
theorem and4 {A B C D M : Prop} (h : A ∧ B ∧ C ∧ D) (k : A → B → C → D → M) : M := k h.1 h.2.1 h.2.2.1 h.2.2.2
theorem e11 {α : Type} {P : α → Prop} {M : Prop} (h : ∃ a, P a) (k : ∀ a, P a → M) : M := h.elim fun a h => k a h
theorem e12 {α : Type} {P Q : α → Prop} {M : Prop} (h : ∃ a, P a ∧ Q a) (k : ∀ a, P a → Q a → M) : M := e11 h fun a h => and2 h (k a)
theorem e13 {α : Type} {P Q R : α → Prop} {M : Prop} (h : ∃ a, P a ∧ Q a ∧ R a) (k : ∀ a, P a → Q a → R a → M) : M := e11 h fun a h => and3 h (k a)
theorem e14 {α : Type} {P Q R S : α → Prop} {M : Prop} (h : ∃ a, P a ∧ Q a ∧ R a ∧ S a) (k : ∀ a, P a → Q a → R a → S a → M) : M := e11 h fun a h => and4 h (k a)
theorem e15 {α : Type} {P Q R S T : α → Prop} {M : Prop} (h : ∃ a, P a ∧ Q a ∧ R a ∧ S a ∧ T a) (k : ∀ a, P a → Q a → R a → S a → T a → M) : M := e11 h fun a h => and5 h (k a)
theorem e21 {α : Type} {β : Type} {P : α → β → Prop} {M : Prop} (h : ∃ a b, P a b) (k : ∀ a b, P a b → M) : M := h.elim fun a h => h.elim fun b h => k a b h
theorem e22 {α : Type} {β : Type} {P Q : α → β → Prop} {M : Prop} (h : ∃ a b, P a b ∧ Q a b) (k : ∀ a b, P a b → Q a b → M) : M := e21 h fun a b h => and2 h (k a b)
theorem e23 {α : Type} {β : Type} {P Q R : α → β → Prop} {M : Prop} (h : ∃ a b, P a b ∧ Q a b ∧ R a b) (k : ∀ a b, P a b → Q a b → R a b → M) : M := e21 h fun a b h => and3 h (k a b)
theorem e24 {α : Type} {β : Type} {P Q R S : α → β → Prop} {M : Prop} (h : ∃ a b, P a b ∧ Q a b ∧ R a b ∧ S a b) (k : ∀ a b, P a b → Q a b → R a b → S a b → M) : M := e21 h fun a b h => and4 h (k a b)
theorem e31 {α : Type} {β : Type} {γ : Type} {P : α → β → γ → Prop} {M : Prop} (h : ∃ a b c, P a b c) (k : ∀ a b c, P a b c → M) : M := h.elim fun a h => h.elim fun b h => h.elim fun c h => k a b c h
theorem e32 {α : Type} {β : Type} {γ : Type} {P Q : α → β → γ → Prop} {M : Prop} (h : ∃ a b c, P a b c ∧ Q a b c) (k : ∀ a b c, P a b c → Q a b c → M) : M := e31 h fun a b c h => and2 h (k a b c)
theorem e33 {α : Type} {β : Type} {γ : Type} {P Q R : α → β → γ → Prop} {M : Prop} (h : ∃ a b c, P a b c ∧ Q a b c ∧ R a b c) (k : ∀ a b c, P a b c → Q a b c → R a b c → M) : M := e31 h fun a b c h => and3 h (k a b c)
theorem e34 {α : Type} {β : Type} {γ : Type} {P Q R S : α → β → γ → Prop} {M : Prop} (h : ∃ a b c, P a b c ∧ Q a b c ∧ R a b c ∧ S a b c) (k : ∀ a b c, P a b c → Q a b c → R a b c → S a b c → M) : M := e31 h fun a b c h => and4 h (k a b c)
theorem e35 {α : Type} {β : Type} {γ : Type} {P Q R S T : α → β → γ → Prop} {M : Prop} (h : ∃ a b c, P a b c ∧ Q a b c ∧ R a b c ∧ S a b c ∧ T a b c) (k : ∀ a b c, P a b c → Q a b c → R a b c → S a b c → T a b c → M) : M := e31 h fun a b c h => and5 h (k a b c)
theorem e41 {α : Type} {β : Type} {γ : Type} {δ : Type} {P : α → β → γ → δ → Prop} {M : Prop} (h : ∃ a b c d, P a b c d) (k : ∀ a b c d, P a b c d → M) : M := h.elim fun a h => h.elim fun b h => h.elim fun c h => h.elim fun d h => k a b c d h
theorem e43 {α : Type} {β : Type} {γ : Type} {δ : Type} {P Q R : α → β → γ → δ → Prop} {M : Prop} (h : ∃ a b c d, P a b c d ∧ Q a b c d ∧ R a b c d) (k : ∀ a b c d, P a b c d → Q a b c d → R a b c d → M) : M := e41 h fun a b c d h => and3 h (k a b c d)
theorem e44 {α : Type} {β : Type} {γ : Type} {δ : Type} {P Q R S : α → β → γ → δ → Prop} {M : Prop} (h : ∃ a b c d, P a b c d ∧ Q a b c d ∧ R a b c d ∧ S a b c d) (k : ∀ a b c d, P a b c d → Q a b c d → R a b c d → S a b c d → M) : M := e41 h fun a b c d h => and4 h (k a b c d)
noncomputable def Dn (c : Int.Internal.Linear.Context) : List (Nat × Int.Internal.Linear.Expr × Int.Internal.Linear.Expr) → Prop
  | [] => False
  | (_, l, r) :: t => l.denote c ≤ r.denote c → Dn c t
noncomputable def lchk : List (Nat × Int.Internal.Linear.Expr × Int.Internal.Linear.Expr) → Int.Internal.Linear.Expr → Int.Internal.Linear.Expr → Bool
  | [], a, b => (a.sub b).norm.isUnsatLe
  | (m, l, r) :: t, a, b => lchk t (.add a (.mulL m l)) (.add b (.mulL m r))
theorem fkA (c : Int.Internal.Linear.Context) : ∀ (hs : List (Nat × Int.Internal.Linear.Expr × Int.Internal.Linear.Expr)) (a b : Int.Internal.Linear.Expr), lchk hs a b = true → a.denote c ≤ b.denote c → Dn c hs
  | [], a, b, k, h => (Int.Internal.Linear.le_eq_false c a b k).mp h
  | (m, l, r) :: t, a, b, k, h => fun h1 => fkA c t (.add a (.mulL m l)) (.add b (.mulL m r)) k (Int.add_le_add h (Int.mul_le_mul_of_nonneg_left h1 (Int.natCast_nonneg m)))
theorem fk (c : Int.Internal.Linear.Context) (hs : List (Nat × Int.Internal.Linear.Expr × Int.Internal.Linear.Expr)) (k : lchk hs (.num 0) (.num 0) = true) : Dn c hs := fkA c hs _ _ k (Int.le_refl 0)
theorem sA (a b : Nat) : a ≤ a - b + b := Nat.le_add_of_sub_le (Nat.le_refl _)
theorem n0 (a : Nat) : (0 : Int) ≤ a := Int.natCast_nonneg a
theorem nl {a b : Nat} (h : a ≤ b) : (a : Int) ≤ b := Int.ofNat_le.mpr h
theorem nt {a b : Nat} (h : a < b) : (a : Int) + 1 ≤ b := Int.ofNat_le.mpr h
theorem ne {a b : Nat} (h : a = b) : (a : Int) ≤ b := Int.ofNat_le.mpr (Nat.le_of_eq h)
theorem nle {a b : Nat} (h : (b : Int) + 1 ≤ a → False) : a ≤ b := Nat.le_of_not_lt fun k => h (Int.ofNat_le.mpr k)
theorem nlt {a b : Nat} (h : (b : Int) ≤ a → False) : a < b := Nat.lt_of_not_le fun k => h (Int.ofNat_le.mpr k)
theorem ile {a b : Int} (h : b + 1 ≤ a → False) : a ≤ b := Int.not_lt.mp h
theorem ilt {a b : Int} (h : b ≤ a → False) : a < b := Int.not_le.mp h
noncomputable def c1 (a : Int) : Int.Internal.Linear.Context := .leaf a
noncomputable def c2 (a b : Int) : Int.Internal.Linear.Context := .branch 1 (.leaf a) (.leaf b)
noncomputable def c3 (a b c : Int) : Int.Internal.Linear.Context := .branch 1 (.leaf a) (.branch 2 (.leaf b) (.leaf c))
noncomputable def c4 (a b c d : Int) : Int.Internal.Linear.Context := .branch 1 (.leaf a) (.branch 2 (.leaf b) (.branch 3 (.leaf c) (.leaf d)))
noncomputable def c5 (a b c d e : Int) : Int.Internal.Linear.Context := .branch 1 (.leaf a) (.branch 2 (.leaf b) (.branch 3 (.leaf c) (.branch 4 (.leaf d) (.leaf e))))
noncomputable def c6 (a b c d e f : Int) : Int.Internal.Linear.Context := .branch 1 (.leaf a) (.branch 2 (.leaf b) (.branch 3 (.leaf c) (.branch 4 (.leaf d) (.branch 5 (.leaf e) (.leaf f)))))
theorem leA {a b m : Nat} (h : b ≤ m) (k : Nat.ble a b = true) : a ≤ m := Nat.le_trans (Nat.le_of_ble_eq_true k) h
theorem leC {a b m : Nat} (h : b ≤ m) (k : Nat.ble (a + 1) b = true) : a ≤ m - 1 := Nat.le_sub_one_of_lt (leA h k)
theorem leI {b n m : Nat} (h : n + 1 + b ≤ m) : n + b ≤ m - 1 := by exact nle (fk (c4 n b m (m - 1 : Nat)) [(1, .add (.add (.var 0) (.num 1)) (.var 1), .var 2), (1, .var 2, .add (.var 3) (.num 1)), (1, .add (.var 3) (.num 1), .add (.var 0) (.var 1))] rfl (nl h) (nl (sA m 1)))
theorem leE {a b c : Nat} (h : a ≤ b) (k : Nat.ble b c = true) : a ≤ c := Nat.le_trans h (Nat.le_of_ble_eq_true k)
theorem leF {a b c d : Nat} (h : a + b ≤ c) (k : Nat.ble c d = true) : a ≤ d := leE (Nat.le_trans (Nat.le_add_right a b) h) k
theorem leG {a b c d : Nat} (h : a + b ≤ c) (k : Nat.ble c d = true) : b ≤ d := leE (Nat.le_trans (Nat.le_add_left b a) h) k
theorem ltE {a b c : Nat} (h : a ≤ b) (k : Nat.ble (b + 1) c = true) : a < c := leE (Nat.succ_le_succ h) k
theorem leS {a b c : Nat} (h : a ≤ b) (k : Nat.ble (b + 1) c = true) : a + 1 ≤ c := leE (Nat.succ_le_succ h) k
theorem leP {a b c d : Nat} (h : a + b ≤ c) (k : Nat.ble (c + 1) d = true) : a + 1 ≤ d := leS (Nat.le_trans (Nat.le_add_right a b) h) k
theorem leT {a b c d : Nat} (h : a ≤ b) (h2 : b ≤ c) (k : Nat.ble c d = true) : a ≤ d := leE (Nat.le_trans h h2) k
theorem eqL {a b c : Nat} (h : a = b) (h2 : b ≤ c) : a ≤ c := h ▸ h2
theorem eqE {a b c d : Nat} (h : a = b) (h2 : b ≤ c) (k : Nat.ble c d = true) : a ≤ d := h ▸ leE h2 k
theorem ltX {a b c m : Nat} (h : a < b) (h2 : b + c ≤ m) : a + c ≤ m - 1 := by exact nle (fk (c5 a b c m (m - 1 : Nat)) [(1, .add (.var 0) (.num 1), .var 1), (1, .add (.var 1) (.var 2), .var 3), (1, .var 3, .add (.var 4) (.num 1)), (1, .add (.var 4) (.num 1), .add (.var 0) (.var 2))] rfl (nt h) (nl h2) (nl (sA m 1)))
theorem leZ {a b c : Nat} (h : a + (b + 1) ≤ c) : a + 1 + b ≤ c := by exact nle (fk (c3 a b c) [(1, .add (.var 0) (.add (.var 1) (.num 1)), .var 2), (1, .add (.var 2) (.num 1), .add (.add (.var 0) (.num 1)) (.var 1))] rfl (nl h))
theorem leW {a b c d : Nat} (h : a + (b + 1) ≤ c) (k : Nat.ble c d = true) : a + 1 ≤ d := by have := Nat.le_of_ble_eq_true k; exact nle (fk (c4 a b c d) [(1, .add (.var 0) (.add (.var 1) (.num 1)), .var 2), (1, .var 2, .var 3), (1, .num 0, .var 1), (1, .add (.var 3) (.num 1), .add (.var 0) (.num 1))] rfl (nl h) (nl this) (n0 b))
theorem le0 {a b c : Nat} (h : a ≤ b) (k : Nat.ble b c = true) : 0 + a ≤ c := by have := Nat.le_of_ble_eq_true k; exact nle (fk (c3 a b c) [(1, .var 0, .var 1), (1, .var 1, .var 2), (1, .add (.var 2) (.num 1), .add (.num 0) (.var 0))] rfl (nl h) (nl this))
theorem mxA {a b c m : Nat} (h : max a b + c ≤ m) : a + c ≤ m := by exact nle (fk (c4 (max a b : Nat) c m a) [(1, .add (.var 0) (.var 1), .var 2), (1, .var 3, .var 0), (1, .add (.var 2) (.num 1), .add (.var 3) (.var 1))] rfl (nl h) (nl (Nat.le_max_left _ _)))
theorem mxB {a b c m : Nat} (h : max a b + c ≤ m) : b + c ≤ m := by exact nle (fk (c4 (max a b : Nat) c m b) [(1, .add (.var 0) (.var 1), .var 2), (1, .var 3, .var 0), (1, .add (.var 2) (.num 1), .add (.var 3) (.var 1))] rfl (nl h) (nl (Nat.le_max_right _ _)))
theorem dec1 {i n : Nat} (h : i ≤ n) : n + 1 - (i + 1) < n + 1 - i := Nat.sub_lt_sub_left (Nat.lt_succ_of_le h) (Nat.lt_succ_self i)
theorem rg1 {n : Nat} (h : n ≤ 100) : -1048576 ≤ (n : Int) + 1 ∧ (n : Int) + 1 ≤ 1048576 := ⟨ile (fk (c1 n) [(1, .num 0, .var 0), (1, .add (.add (.var 0) (.num 1)) (.num 1), .neg (.num 1048576))] rfl (n0 n)), ile (fk (c1 n) [(1, .var 0, .num 100), (1, .add (.num 1048576) (.num 1), .add (.var 0) (.num 1))] rfl (nl h))⟩
theorem abL (a : Int) {k : Nat} (h : a.natAbs < k) : a < k := Int.lt_of_le_of_lt Int.le_natAbs (Int.ofNat_lt.mpr h)
theorem abN (a : Int) {k : Nat} (h : a.natAbs < k) : -a < k := Int.lt_of_le_of_lt (by rw [← Int.natAbs_neg]; exact Int.le_natAbs) (Int.ofNat_lt.mpr h)
theorem eqJ {a j t : Nat} (h : a = j + (t + 1)) : a = j + 1 + t := by exact Nat.le_antisymm (nle (fk (c3 a j t) [(1, .var 0, .add (.var 1) (.add (.var 2) (.num 1))), (1, .add (.add (.add (.var 1) (.num 1)) (.var 2)) (.num 1), .var 0)] rfl (ne h))) (nle (fk (c3 a j t) [(1, .add (.var 1) (.add (.var 2) (.num 1)), .var 0), (1, .add (.var 0) (.num 1), .add (.add (.var 1) (.num 1)) (.var 2))] rfl (ne h.symm)))
theorem nlB {a i b : Nat} (h : a = i + (b + 1)) : ¬a ≤ i := by exact fun g0 => fk (c3 a i b) [(1, .add (.var 1) (.add (.var 2) (.num 1)), .var 0), (1, .var 0, .var 1), (1, .num 0, .var 2)] rfl (ne h.symm) (nl g0) (n0 b)
theorem ltB {a i b : Nat} (h : a = i + (b + 1)) : i < a := by exact nlt (fk (c3 a i b) [(1, .add (.var 1) (.add (.var 2) (.num 1)), .var 0), (1, .num 0, .var 2), (1, .var 0, .var 1)] rfl (ne h.symm) (n0 b))
end Mine
end
section
open PySem PySem.W PyProof.Rows
namespace Mine
abbrev FN := Nat
inductive Bf where
  | abs | max | min | len | list | tuple | range | sorted | sum | enumerate
  deriving DecidableEq
set_option genCtorIdx false
inductive Tgt where
  | one (i : Nat)
  | two (i j : Nat)
inductive SK where
  | it | enum | range1 | range2
  | items (i : Nat)
inductive CE where
  | k (d : PyData)
  | v (i : Nat)
  | tup (es : List CE)
  | lst (es : List CE)
  | bin (op : Operator) (a b : CE)
  | neg (a : CE)
  | cmp (op : CmpOp) (a b : CE)
  | inv (a : CE) (i : Nat)
  | isN (a : CE)
  | not (a : CE)
  | and (es : List CE)
  | or (es : List CE)
  | ite (t a b : CE)
  | idx (a b : CE)
  | gidx (kvs : List (Str × PyData)) (b : CE)
  | upto (a hi : CE)
  | from (a lo : CE)
  | rev (a : CE)
  | call (f : FN) (es : List CE)
  | take (i : Nat) (e : CE)
  | len (a : CE)
  | bif (f : Bf) (es : List CE)
  | dget (i : Nat) (k d : CE)
  | dpop (i : Nat) (k d : CE)
  | pop (i : Nat)
  | comp (init : List (Option Nat)) (tgt : Tgt) (sk : SK) (es : List CE) (conds : List CE) (elt : CE)
  | comp2 (init : List (Option Nat)) (tgt : Nat) (sk : SK) (es : List CE) (tgt2 : Nat) (e2 : CE) (elt : CE)
  | sdc (init : List (Option Nat)) (tgt : Nat) (e : CE) (cond : CE) (key : CE)
inductive RH where
  | e (c : CE)
  | l (es : List CE)
  | d
  | ds (ks : List Str) (vs : List CE)
inductive CS where
  | asg (i : Nat) (r : RH)
  | asgC (i : Nat) (c : CE)
  | asgT (is : List Nat) (rs : List RH)
  | asgU (is : List Nat) (e : CE)
  | setv (i : Nat) (k e : CE)
  | aug (i : Nat) (op : Operator) (e : CE)
  | app (i : Nat) (e : CE)
  | ext (i : Nat) (e : CE)
  | cond (t : CE) (a b : List CS)
  | whl (t : CE) (b : List CS)
  | loop (tgt : Tgt) (sk : SK) (es : List CE) (b : List CS)
  | ret (e : CE)
  | raise
noncomputable def CS.ctorIdx (c : CS) : Nat := c.casesOn (fun _ _ => 0) (fun _ _ => 1) (fun _ _ => 2) (fun _ _ => 3) (fun _ _ _ => 4) (fun _ _ _ => 5) (fun _ _ => 6) (fun _ _ => 7) (fun _ _ _ => 8) (fun _ _ => 9) (fun _ _ _ _ => 10) (fun _ => 11) 12
structure FnC where
  np : Nat
  nl : Nat
  body : List CS
inductive Slot where
  | un
  | d (x : PyData)
  | ol (xs : List PyData)
  | od (kvs : List (PyData × PyData))
  | os (kvs : List (Str × PyData))
noncomputable def Slot.ctorIdx (s : Slot) : Nat := s.casesOn 0 (fun _ => 1) (fun _ => 2) (fun _ => 3) fun _ => 4
abbrev St := List Slot
noncomputable def St.at (st : St) (i : Nat) : Slot := st.getD i .un
noncomputable def St.put (st : St) (i : Nat) (s : Slot) : St := st.set i s
structure Or where
  call : FN → List PyData → Option PyData
  take : List PyData → PyData → Option (PyData × List PyData)
noncomputable def sm (i : Int) : Bool := Nat.blt i.natAbs 4611686018427387904
noncomputable def lenOk {α : Type} (l : List α) : Bool := Nat.ble l.length 1048576
abbrev Ans (α : Type) := Option (α × St)
noncomputable def Slot.any : Slot → Bool
  | .un => false
  | _ => true
noncomputable def Slot.isL : Slot → Bool
  | .ol _ => true
  | _ => false
noncomputable def Slot.isD : Slot → Bool
  | .od _ => true
  | _ => false
noncomputable def gd {α : Type} (p : Slot → Bool) (i : Nat) (f : St → Ans α) (st : St) : Ans α := match p (st.at i) with
  | true => f st
  | false => none
noncomputable def bd {α β : Type} (o : Ans α) (f : α → St → Ans β) : Ans β := match o with
  | some (a, st) => f a st
  | none => none
noncomputable def bd2 {α β γ : Type} (o : Ans α) (g : St → Ans β) (f : α → β → St → Ans γ) : Ans γ := match o with
  | some (a, st) => bd (g st) (f a)
  | none => none
noncomputable def iteK {β : Type} (o : Ans PyData) (g h : St → Ans β) : Ans β := match o with
  | some (.bool true, st) => g st
  | some (.bool false, st) => h st
  | _ => none
noncomputable def lift {α : Type} (o : Option α) (st : St) : Option (α × St) := match o with
  | some a => some (a, st)
  | none => none
noncomputable def dueHash : Nat → PyData → Bool
  | _, .int _ => true
  | _, .str _ => true
  | n + 1, .tuple xs => xs.all (dueHash n)
  | _, _ => false
noncomputable def keyOk (d : PyData) : Bool := match d with
  | .tuple _ => dueHash 8 d
  | _ => false
noncomputable def eqOk (a b : PyData) : Bool := Nat.ble (Nat.min a.depth b.depth) 64
noncomputable def eqD (a b : PyData) : Option Bool := if eqOk a b then some (PyData.eqv a b) else none
noncomputable def inD (a : PyData) (xs : List PyData) : Option Bool := if Nat.ble (Nat.min (PyData.depthAll xs) a.depth) 64 then some (xs.any fun y => PyData.eqv y a) else none
inductive Two where
  | ints (a b : Int)
  | lists (a b : List PyData)
  | tups (a b : List PyData)
  | strs (a b : Str)
  | no
noncomputable def two (x y : PyData) : Two := match x with
  | .int a => (match y with
    | .int b => .ints a b
    | _ => .no)
  | .list a => (match y with
    | .list b => .lists a b
    | _ => .no)
  | .tuple a => (match y with
    | .tuple b => .tups a b
    | _ => .no)
  | .str a => (match y with
    | .str b => .strs a b
    | _ => .no)
  | _ => .no
theorem two_elim {M : PyData → PyData → Two → Prop} (h1 : ∀ a b, M (.int a) (.int b) (.ints a b)) (h2 : ∀ a b, M (.list a) (.list b) (.lists a b)) (h3 : ∀ a b, M (.tuple a) (.tuple b) (.tups a b)) (h4 : ∀ a b, M (.str a) (.str b) (.strs a b)) (h5 : ∀ x y, M x y .no) (x y : PyData) : M x y (two x y) := by
  cases x with
  | int a => cases y with
    | int b => exact h1 a b
    | _ => exact h5 _ _
  | list a => cases y with
    | list b => exact h2 a b
    | _ => exact h5 _ _
  | tuple a => cases y with
    | tuple b => exact h3 a b
    | _ => exact h5 _ _
  | str a => cases y with
    | str b => exact h4 a b
    | _ => exact h5 _ _
  | _ => exact h5 _ _
noncomputable def binI (op : Operator) (a b : Int) : Option PyData := match op with
  | .Add => some (.int (a + b))
  | .Sub => some (.int (a - b))
  | .Mult => if sm a || sm b then some (.int (a * b)) else none
  | .FloorDiv => if b ≠ 0 ∧ sm b = true then some (.int (a.fdiv b)) else none
  | .Mod => if b ≠ 0 ∧ sm b = true then some (.int (a.fmod b)) else none
  | .Pow => if sm a && decide (0 ≤ b) && decide (b ≤ 100000) then some (.int (a ^ b.toNat)) else none
  | _ => none
noncomputable def catD (k : List PyData → PyData) (op : Operator) (l : List PyData) : Option PyData := match op with
  | .Add => if lenOk l then some (k l) else none
  | _ => none
noncomputable def binW (op : Operator) : Two → Option PyData
  | .ints a b => binI op a b
  | .lists a b => catD .list op (a ++ b)
  | .tups a b => catD .tuple op (a ++ b)
  | _ => none
noncomputable def binV (op : Operator) (x y : PyData) : Option PyData := binW op (two x y)
noncomputable def itemsOf : PyData → Option (List PyData)
  | .list xs => some xs
  | .tuple xs => some xs
  | _ => none
noncomputable def cmpI (op : CmpOp) (a b : Int) : Option Bool := match op with
  | .Lt => some (decide (a < b))
  | .LtE => some (decide (a ≤ b))
  | .Gt => some (decide (a > b))
  | .GtE => some (decide (a ≥ b))
  | _ => none
noncomputable def cmpS (op : CmpOp) (a b : Str) : Option Bool := match op with
  | .Lt => some (decide (a.cps.toList < b.cps.toList))
  | _ => none
noncomputable def cmpW (op : CmpOp) : Two → Option Bool
  | .ints a b => cmpI op a b
  | .strs a b => cmpS op a b
  | _ => none
noncomputable def inItems (a y : PyData) : Option Bool := match y with
  | .list xs => inD a xs
  | .tuple xs => inD a xs
  | _ => none
noncomputable def cmpV (op : CmpOp) (a b : PyData) : Option Bool := match op with
  | .Eq => eqD a b
  | .NotEq => (eqD a b).map not
  | .In => inItems a b
  | op => cmpW op (two a b)
noncomputable def itemV (xs : List PyData) (i : Int) : Option PyData := match seqIndex? i xs.length with
  | some j => xs[j]?
  | none => none
noncomputable def idxV : PyData → PyData → Option PyData
  | .list xs, .int i => itemV xs i
  | .tuple xs, .int i => itemV xs i
  | _, _ => none
noncomputable def lookD (kvs : List (PyData × PyData)) (k : PyData) : Option PyData := match kvs with
  | [] => none
  | (k', v) :: r => if PyData.eqv k' k then some v else lookD r k
noncomputable def putD (kvs : List (PyData × PyData)) (k v : PyData) : List (PyData × PyData) := match kvs with
  | [] => [(k, v)]
  | (k', v') :: r => if PyData.eqv k' k then (k', v) :: r else (k', v') :: putD r k v
noncomputable def delD (kvs : List (PyData × PyData)) (k : PyData) : List (PyData × PyData) := match kvs with
  | [] => []
  | (k', v') :: r => if PyData.eqv k' k then r else (k', v') :: delD r k
noncomputable def lookS (kvs : List (Str × PyData)) (k : Str) : Option PyData := match kvs with
  | [] => none
  | (k', v) :: r => if k' = k then some v else lookS r k
noncomputable def uptoV : PyData → PyData → Option PyData
  | .list xs, .int i => if 0 ≤ i ∧ i ≤ 1048576 then some (.list (xs.take i.toNat)) else none
  | .tuple xs, .int i => if 0 ≤ i ∧ i < xs.length then some (.tuple (xs.take i.toNat)) else none
  | _, _ => none
noncomputable def fromV : PyData → PyData → Option PyData
  | .list xs, .int i => if 0 ≤ i ∧ i ≤ 1048576 then some (.list (xs.drop i.toNat)) else none
  | .tuple xs, .int i => if 1 ≤ i ∧ i ≤ xs.length then some (.tuple (xs.drop i.toNat)) else none
  | _, _ => none
noncomputable def revV : PyData → Option PyData
  | .list xs => some (.list xs.reverse)
  | _ => none
noncomputable def lenV (d : PyData) : Option PyData := match d with
  | .list xs => some (.int xs.length)
  | .tuple xs => some (.int xs.length)
  | _ => none
noncomputable def intsD : List PyData → Option (List Int)
  | [] => some []
  | .int i :: r => (intsD r).map (i :: ·)
  | _ => none
noncomputable def oneL {α : Type} (f : PyData → Option α) : List PyData → Option α
  | [a] => f a
  | _ => none
noncomputable def twoL {α : Type} (f : Two → Option α) : List PyData → Option α
  | [a, b] => f (two a b)
  | _ => none
theorem oneL_some {α : Type} {f : PyData → Option α} {l : List PyData} {d : α} (h : oneL f l = some d) : ∃ a, l = [a] ∧ f a = some d := by
  cases l with
  | nil => exact noS h
  | cons a r => cases r with
    | nil => exact ⟨a, rfl, h⟩
    | cons => exact noS h
theorem twoL_some {α : Type} {f : Two → Option α} {l : List PyData} {d : α} (h : twoL f l = some d) : ∃ a b, l = [a, b] ∧ f (two a b) = some d := by
  cases l with
  | nil => exact noS h
  | cons a r => cases r with
    | nil => exact noS h
    | cons b r => cases r with
      | nil => exact ⟨a, b, rfl, h⟩
      | cons => exact noS h
noncomputable def absV : PyData → Option PyData
  | .int a => some (.int (if a < 0 then -a else a))
  | _ => none
noncomputable def maxW : Two → Option PyData
  | .ints a b => some (.int (if b > a then b else a))
  | _ => none
noncomputable def minW : Two → Option PyData
  | .ints a b => some (.int (if b < a then b else a))
  | _ => none
noncomputable def tupV : PyData → Option PyData
  | .list xs => some (.tuple xs)
  | _ => none
noncomputable def sumV : PyData → Option PyData
  | .list xs => (intsD xs).map fun is => .int is.sum
  | _ => none
noncomputable def bifV (f : Bf) (l : List PyData) : Option PyData := match f with
  | .abs => oneL absV l
  | .max => twoL maxW l
  | .min => twoL minW l
  | .list => oneL (fun x => (itemsOf x).map .list) l
  | .tuple => oneL tupV l
  | .sum => oneL sumV l
  | _ => none
noncomputable def rdv (st : St) (i : Nat) : Option (PyData × St) := match st.at i with
  | .d x => some (x, st)
  | .ol xs => some (.list xs, st.put i (.d (.list xs)))
  | _ => none
noncomputable def rdp (st : St) (i : Nat) : Option (PyData × St) := match st.at i with
  | .d x => some (x, st)
  | .ol xs => some (.list xs, st)
  | _ => none
noncomputable def bindT : Tgt → PyData → St → Option St
  | .one i, d, st => some (st.put i (.d d))
  | .two i j, .tuple [a, b], st => some ((st.put i (.d a)).put j (.d b))
  | _, _, _ => none
noncomputable def enumD : Nat → List PyData → List PyData
  | _, [] => []
  | n, d :: r => .tuple [.int n, d] :: enumD (n + 1) r
noncomputable def rangeD (a : Int) : Nat → List PyData
  | 0 => []
  | n + 1 => .int a :: rangeD (a + 1) n
noncomputable def enumV : PyData → Option (List PyData)
  | .tuple xs => some (enumD 0 xs)
  | _ => none
noncomputable def rng1 : PyData → Option (List PyData)
  | .int b => if -1048576 ≤ b ∧ b ≤ 1048576 then some (rangeD 0 b.toNat) else none
  | _ => none
noncomputable def rng2 : Two → Option (List PyData)
  | .ints a b => if 0 ≤ a ∧ a ≤ 1048576 ∧ -1048576 ≤ b ∧ b ≤ 1048576 then some (rangeD a (b - a).toNat) else none
  | _ => none
noncomputable def srcV (sk : SK) (l : List PyData) : Option (List PyData) := match sk with
  | .it => oneL itemsOf l
  | .enum => oneL enumV l
  | .range1 => oneL rng1 l
  | .range2 => twoL rng2 l
  | _ => none
noncomputable def initSt (init : List (Option Nat)) (st : St) : St := init.map fun
  | some i => st.at i
  | none => .un
noncomputable def negK : PyData → St → Ans PyData
  | .int i, st => some (.int (-i), st)
  | _, _ => none
noncomputable def notK : PyData → St → Ans PyData
  | .bool b, st => some (.bool (!b), st)
  | _, _ => none
noncomputable def isNK : PyData → St → Ans PyData
  | .none, st => some (.bool true, st)
  | .tuple _, st => some (.bool false, st)
  | _, _ => none
noncomputable def boolK (o : Option Bool) (st : St) : Ans PyData := match o with
  | some c => some (.bool c, st)
  | none => none
noncomputable def binK (op : Operator) (x y : PyData) (st : St) : Ans PyData := lift (binV op x y) st
noncomputable def cmpK (op : CmpOp) (x y : PyData) (st : St) : Ans PyData := boolK (cmpV op x y) st
noncomputable def inK (i : Nat) (x : PyData) (st : St) : Ans PyData := match st.at i with
  | .od kvs => if keyOk x then some (.bool (lookD kvs x).isSome, st) else none
  | .d y => cmpK .In x y st
  | _ => none
noncomputable def idxK (x y : PyData) (st : St) : Ans PyData := lift (idxV x y) st
noncomputable def lookK (kvs : List (Str × PyData)) (y : PyData) (st : St) : Ans PyData := match y with
  | .str k => lift (lookS kvs k) st
  | _ => none
noncomputable def idxN (i : Nat) (y : PyData) (st : St) : Ans PyData := match st.at i with
  | .d x => idxK x y st
  | .ol xs => idxK (.list xs) y st
  | .od kvs => if keyOk y then lift (lookD kvs y) st else none
  | .os kvs => lookK kvs y st
  | .un => none
noncomputable def uptoK (x y : PyData) (st : St) : Ans PyData := lift (uptoV x y) st
noncomputable def fromK (x y : PyData) (st : St) : Ans PyData := lift (fromV x y) st
noncomputable def revK (x : PyData) (st : St) : Ans PyData := lift (revV x) st
noncomputable def lenK (x : PyData) (st : St) : Ans PyData := lift (lenV x) st
noncomputable def callK (K : Or) (f : FN) (ds : List PyData) (st : St) : Ans PyData := lift (K.call f ds) st
noncomputable def takeK (K : Or) (i : Nat) (y : PyData) (st : St) : Ans PyData := match st.at i with
  | .ol xs => match K.take xs y with
    | some (r, xs') => some (r, st.put i (.ol xs'))
    | none => none
  | _ => none
noncomputable def bifK (f : Bf) (ds : List PyData) (st : St) : Ans PyData := lift (bifV f ds) st
noncomputable def dgetK (i : Nat) (x y : PyData) (st : St) : Ans PyData := match st.at i with
  | .od kvs => if keyOk x then some ((lookD kvs x).getD y, st) else none
  | _ => none
noncomputable def dpopK (i : Nat) (x y : PyData) (st : St) : Ans PyData := match st.at i with
  | .od kvs => if keyOk x then some ((lookD kvs x).getD y, st.put i (.od (delD kvs x))) else none
  | _ => none
noncomputable def popK (i : Nat) (st : St) : Ans PyData := match st.at i with
  | .ol xs => match xs.getLast? with
    | some x => some (x, st.put i (.ol xs.dropLast))
    | none => none
  | _ => none
noncomputable def tupK (ds : List PyData) (st : St) : Ans PyData := some (.tuple ds, st)
noncomputable def lstK (ds : List PyData) (st : St) : Ans PyData := some (.list ds, st)
noncomputable def consK (x : PyData) (l : List PyData) (st : St) : Ans (List PyData) := some (x :: l, st)
noncomputable def trueK (st : St) : Ans PyData := some (.bool true, st)
noncomputable def falseK (st : St) : Ans PyData := some (.bool false, st)
noncomputable def falseA (st : St) : Ans Bool := some (false, st)
noncomputable def srcK (sk : SK) (ds : List PyData) (st : St) : Ans (List PyData) := lift (srcV sk ds) st
noncomputable def itemsK (i : Nat) (st : St) : Ans (List PyData) := match st.at i with
  | .od kvs => some (kvs.map fun p => .tuple [p.1, p.2], st.put i .un)
  | _ => none
noncomputable def app0 (a : Option PyData) (l : List PyData) (st : St) : Ans (List PyData) := some (a.toList ++ l, st)
noncomputable def app2 (a l : List PyData) (st : St) : Ans (List PyData) := some (a ++ l, st)
noncomputable def step {α : Type} (tgt : Tgt) (f : St → Ans α) (d : PyData) (st : St) : Ans α := match bindT tgt d st with
  | some st => f st
  | none => none
noncomputable def compL (f : St → Ans (Option PyData)) (tgt : Tgt) : List PyData → St → Ans (List PyData)
  | [], st => some ([], st)
  | d :: r, st => bd2 (step tgt f d st) (compL f tgt r) app0
noncomputable def comp2L (f : St → Ans (List PyData)) (tgt : Nat) : List PyData → St → Ans (List PyData)
  | [], st => some ([], st)
  | d :: r, st => bd2 (step (.one tgt) f d st) (comp2L f tgt r) app2
noncomputable def someK (d : PyData) (st : St) : Ans (Option PyData) := some (some d, st)
noncomputable def noneK (st : St) : Ans (Option PyData) := some (none, st)
noncomputable def oneF (f : St → Ans PyData) (st : St) : Ans (Option PyData) := bd (f st) someK
noncomputable def allK (g : St → Ans (Option PyData)) (c : Bool) (st : St) : Ans (Option PyData) := match c with
  | true => g st
  | false => some (none, st)
noncomputable def compF (cs : St → Ans Bool) (f : St → Ans PyData) (st : St) : Ans (Option PyData) := bd (cs st) (allK (oneF f))
noncomputable def innK (f : St → Ans PyData) (tgt2 : Nat) (x : PyData) (st : St) : Ans (List PyData) := match itemsOf x with
  | some ds2 => compL (oneF f) (.one tgt2) ds2 st
  | none => none
noncomputable def comp2F (g : St → Ans PyData) (f : St → Ans PyData) (tgt2 : Nat) (st : St) : Ans (List PyData) := bd (g st) (innK f tgt2)
noncomputable def outK (st : St) (o : Ans (List PyData)) : Ans PyData := match o with
  | some (l, _) => if lenOk l then some (.list l, st) else none
  | none => none
noncomputable def compK (init : List (Option Nat)) (f : St → Ans (Option PyData)) (tgt : Tgt) (ds : List PyData) (st : St) : Ans PyData :=
  outK st (compL f tgt ds (initSt init st))
noncomputable def comp2K (init : List (Option Nat)) (f : St → Ans (List PyData)) (tgt : Nat) (ds : List PyData) (st : St) : Ans PyData :=
  outK st (comp2L f tgt ds (initSt init st))
noncomputable def putKey (d : PyData) (k : PyData) : Option PyData := match d, k with
  | .list [], .str x => some (.list [.str x])
  | .list [.str y], .str x => if x = y then some d else none
  | _, _ => none
noncomputable def sdcL (f : St → Ans (Option PyData)) (tgt : Nat) : List PyData → PyData → St → Option PyData
  | [], acc, _ => some acc
  | d :: r, acc, st => match f (st.put tgt (.d d)) with
    | none => none
    | some (none, st) => sdcL f tgt r acc st
    | some (some k, st) => match putKey acc k with
      | none => none
      | some acc => sdcL f tgt r acc st
noncomputable def sdcF (c : St → Ans PyData) (f : St → Ans PyData) (st : St) : Ans (Option PyData) := iteK (c st) (oneF f) noneK
noncomputable def sdcK (init : List (Option Nat)) (f : St → Ans (Option PyData)) (tgt : Nat) (x : PyData) (st : St) : Ans PyData := match itemsOf x with
  | some ds => lift (sdcL f tgt ds (.list []) (initSt init st)) st
  | none => none
noncomputable def srcF (f : St → Ans (List PyData)) (sk : SK) (st : St) : Ans (List PyData) := match sk with
  | .items i => itemsK i st
  | .it => bd (f st) (srcK .it)
  | .enum => bd (f st) (srcK .enum)
  | .range1 => bd (f st) (srcK .range1)
  | .range2 => bd (f st) (srcK .range2)
section
variable (K : Or)
mutual
noncomputable def ev : CE → St → Ans PyData
  | .k d, st => some (d, st)
  | .v i, st => rdv st i
  | .tup es, st => bd (evs es st) tupK
  | .lst es, st => bd (evs es st) lstK
  | .bin op a b, st => bd2 (ev a st) (ev b) (binK op)
  | .neg a, st => bd (ev a st) negK
  | .cmp op a b, st => bd2 (ev a st) (ev b) (cmpK op)
  | .inv a i, st => bd (ev a st) (inK i)
  | .isN a, st => bd (ev a st) isNK
  | .not a, st => bd (ev a st) notK
  | .and es, st => evAnd es st
  | .or es, st => evOr es st
  | .ite t a b, st => iteK (ev t st) (ev a) (ev b)
  | .idx a b, st => match a with
    | .v i => gd Slot.any i (fun st => bd (ev b st) (idxN i)) st
    | a => bd2 (ev a st) (ev b) idxK
  | .gidx kvs b, st => bd (ev b st) (lookK kvs)
  | .upto a b, st => bd2 (ev a st) (ev b) uptoK
  | .from a b, st => bd2 (ev a st) (ev b) fromK
  | .rev a, st => bd (ev a st) revK
  | .call f es, st => bd (evs es st) (callK K f)
  | .take i e, st => gd Slot.isL i (fun st => bd (ev e st) (takeK K i)) st
  | .len a, st => match a with
    | .v i => bd (rdp st i) lenK
    | a => bd (ev a st) lenK
  | .bif f es, st => bd (evs es st) (bifK f)
  | .dget i k d, st => gd Slot.isD i (fun st => bd2 (ev k st) (ev d) (dgetK i)) st
  | .dpop i k d, st => gd Slot.isD i (fun st => bd2 (ev k st) (ev d) (dpopK i)) st
  | .pop i, st => popK i st
  | .comp init tgt sk es conds elt, st => bd (srcF (evs es) sk st) (compK init (compF (evAll conds) (ev elt)) tgt)
  | .comp2 init tgt sk es tgt2 e2 elt, st => bd (srcF (evs es) sk st) (comp2K init (comp2F (ev e2) (ev elt) tgt2) tgt)
  | .sdc init tgt e cond key, st => bd (ev e st) (sdcK init (sdcF (ev cond) (ev key)) tgt)
noncomputable def evs : List CE → St → Ans (List PyData)
  | [], st => some ([], st)
  | e :: r, st => bd2 (ev e st) (evs r) consK
noncomputable def evAnd : List CE → St → Ans PyData
  | [], st => some (.bool true, st)
  | e :: r, st => iteK (ev e st) (evAnd r) falseK
noncomputable def evOr : List CE → St → Ans PyData
  | [], st => some (.bool false, st)
  | e :: r, st => iteK (ev e st) trueK (evOr r)
noncomputable def evAll : List CE → St → Ans Bool
  | [], st => some (true, st)
  | e :: r, st => iteK (ev e st) (evAll r) falseA
end
noncomputable def evSrc (sk : SK) (es : List CE) (st : St) : Ans (List PyData) := srcF (evs K es) sk st
end
noncomputable def seqK (o : Ans (Option PyData)) (f : St → Ans (Option PyData)) : Ans (Option PyData) := match o with
  | some (none, st) => f st
  | some (some d, st) => some (some d, st)
  | none => none
noncomputable def whileN (t : St → Ans PyData) (b : St → Ans (Option PyData)) : Nat → St → Ans (Option PyData)
  | 0, _ => none
  | n + 1, st => match t st with
    | some (.bool false, st) => some (none, st)
    | some (.bool true, st) => seqK (b st) (whileN t b n)
    | _ => none
open Classical in
noncomputable def whileC (t : St → Ans PyData) (b : St → Ans (Option PyData)) (st : St) : Ans (Option PyData) :=
  if h : ∃ n, (whileN t b n st).isSome = true then whileN t b (Classical.choose h) st else none
set_option tactic.hygienic true in
theorem whileN_mono {t b} : ∀ {n : Nat} {st : St} {r}, whileN t b n st = some r → whileN t b (n + 1) st = some r := by
  intro n
  induction n with
  | zero => intro st r h; cases h
  | succ n ih =>
    intro st r h
    rw [whileN] at h ⊢
    split at h
    · exact h
    · rename_i st1 ht
      cases hb : b st1 with
      | none => rw [hb] at h; cases h
      | some p =>
        obtain ⟨o, st2⟩ := p
        rw [hb] at h
        cases o with
        | some d => exact h
        | none => exact ih h
    · cases h
theorem whileN_le {t b} {n m : Nat} {st : St} {r} (h : whileN t b n st = some r) (hm : n ≤ m) : whileN t b m st = some r := by
  induction hm with
  | refl => exact h
  | step _ ih => exact whileN_mono ih
theorem whileC_of {t b} {n : Nat} {st : St} {r} (h : whileN t b n st = some r) : whileC t b st = some r := by
  have e : ∃ n, (whileN t b n st).isSome = true := ⟨n, by rw [h]; rfl⟩
  unfold whileC
  rw [dif_pos e]
  have hc := Classical.choose_spec e
  obtain ⟨r', hr'⟩ := Option.isSome_iff_exists.mp hc
  rcases Nat.le_total n (Classical.choose e) with hl | hl
  · exact whileN_le h hl
  · have := whileN_le hr' hl
    rw [h] at this
    rw [hr', ← this]
theorem of_whileC {t b} {st : St} {r} (h : whileC t b st = some r) : ∃ n, whileN t b n st = some r := by
  unfold whileC at h
  split at h
  · exact ⟨_, h⟩
  · cases h
noncomputable def forL (f : St → Ans (Option PyData)) (tgt : Tgt) : List PyData → St → Ans (Option PyData)
  | [], st => some (none, st)
  | d :: r, st => seqK (step tgt f d st) (forL f tgt r)
noncomputable def putAll : List Nat → List Slot → St → Option St
  | [], [], st => some st
  | i :: r, s :: t, st => putAll r t (st.put i s)
  | _, _, _ => none
noncomputable def putBack : List Nat → List Slot → St → Option St
  | [], [], st => some st
  | i :: r, s :: t, st => match putBack r t st with
    | some st => some (st.put i s)
    | none => none
  | _, _, _ => none
noncomputable def doneK (o : Option St) : Ans (Option PyData) := match o with
  | some st => some (none, st)
  | none => none
noncomputable def dK (d : PyData) (st : St) : Ans Slot := some (.d d, st)
noncomputable def olK (ds : List PyData) (st : St) : Ans Slot := some (.ol ds, st)
noncomputable def osK (ks : List Str) (ds : List PyData) (st : St) : Ans Slot := some (.os (ks.zip ds), st)
noncomputable def consS (s : Slot) (l : List Slot) (st : St) : Ans (List Slot) := some (s :: l, st)
noncomputable def putK (i : Nat) (s : Slot) (st : St) : Ans (Option PyData) := some (none, st.put i s)
noncomputable def ownK (i : Nat) (x : PyData) (st : St) : Ans (Option PyData) := match x with
  | .list l => some (none, st.put i (.ol l))
  | _ => none
noncomputable def putsK (is : List Nat) (ss : List Slot) (st : St) : Ans (Option PyData) := doneK (putBack is ss st)
noncomputable def unpK (is : List Nat) (x : PyData) (st : St) : Ans (Option PyData) := match x with
  | .tuple ds => doneK (putAll is (ds.map .d) st)
  | _ => none
noncomputable def setV (i : Nat) (k v : PyData) (st : St) : Option St := match st.at i with
  | .ol xs => match k with
    | .int j => if 0 ≤ j ∧ j < xs.length then some (st.put i (.ol (xs.set j.toNat v))) else none
    | _ => none
  | .od kvs => if keyOk k && lenOk kvs then some (st.put i (.od (putD kvs k v))) else none
  | _ => none
noncomputable def setK (i : Nat) (v k : PyData) (st : St) : Ans (Option PyData) := doneK (setV i k v st)
noncomputable def augK (i : Nat) (op : Operator) (x y : PyData) (st : St) : Ans (Option PyData) := match x, y with
  | .int _, .int _ => match binV op x y with
    | some r => some (none, st.put i (.d r))
    | none => none
  | _, _ => none
noncomputable def rdd (i : Nat) (st : St) : Ans PyData := match st.at i with
  | .d x => some (x, st)
  | _ => none
noncomputable def appK (i : Nat) (y : PyData) (st : St) : Ans (Option PyData) := match st.at i with
  | .ol xs => if lenOk (xs ++ [y]) then some (none, st.put i (.ol (xs ++ [y]))) else none
  | _ => none
noncomputable def extK (i : Nat) (y : PyData) (st : St) : Ans (Option PyData) := match y with
  | .list ys => match st.at i with
    | .ol xs => if lenOk (xs ++ ys) then some (none, st.put i (.ol (xs ++ ys))) else none
    | _ => none
  | _ => none
noncomputable def retK (d : PyData) (st : St) : Ans (Option PyData) := some (some d, st)
section
variable (K : Or)
noncomputable def evRH : RH → St → Ans Slot
  | .e c, st => bd (ev K c st) dK
  | .l es, st => bd (evs K es st) olK
  | .d, st => some (.od [], st)
  | .ds ks vs, st => bd (evs K vs st) (osK ks)
noncomputable def evRHs : List RH → St → Ans (List Slot)
  | [], st => some ([], st)
  | r :: t, st => bd2 (evRH K r st) (evRHs t) consS
mutual
noncomputable def exec : CS → St → Ans (Option PyData)
  | .asg i r, st => bd (evRH K r st) (putK i)
  | .asgC i c, st => bd (ev K c st) (ownK i)
  | .asgT is rs, st => bd (evRHs K rs st) (putsK is)
  | .asgU is e, st => bd (ev K e st) (unpK is)
  | .setv i k e, st => bd2 (ev K e st) (gd Slot.any i (ev K k)) (setK i)
  | .aug i op e, st => bd2 (rdd i st) (ev K e) (augK i op)
  | .app i e, st => gd Slot.isL i (fun st => bd (ev K e st) (appK i)) st
  | .ext i e, st => gd Slot.isL i (fun st => bd (ev K e st) (extK i)) st
  | .cond t a b, st => iteK (ev K t st) (execs a) (execs b)
  | .whl t b, st => whileC (ev K t) (execs b) st
  | .loop tgt sk es b, st => bd (evSrc K sk es st) (forL (execs b) tgt)
  | .ret e, st => bd (ev K e st) retK
  | .raise, _ => none
noncomputable def execs : List CS → St → Ans (Option PyData)
  | [], st => some (none, st)
  | c :: r, st => seqK (exec c st) (execs r)
end
noncomputable def retV (o : Ans (Option PyData)) : Option PyData := match o with
  | some (some d, _) => some d
  | some (none, _) => some .none
  | none => none
noncomputable def retT (o : Ans (Option PyData)) : Option (PyData × List PyData) := match o with
  | some (some d, st) => match st.at 0 with
    | .ol xs' => some (d, xs')
    | _ => none
  | _ => none
noncomputable def runF (fc : FnC) (args : List PyData) : Option PyData :=
  if args.length = fc.np then retV (execs K fc.body (args.map .d ++ List.replicate (fc.nl - fc.np) .un)) else none
noncomputable def runT (fc : FnC) (xs : List PyData) (y : PyData) : Option (PyData × List PyData) :=
  retT (execs K fc.body (.ol xs :: .d y :: List.replicate (fc.nl - 2) .un))
end
set_option genCtorIdx false in
inductive GV where
  | fn (f : FN)
  | dat (d : PyData)
  | tab (kvs : List (Str × PyData))
  | bf (f : Bf)
noncomputable def GV.ctorIdx (g : GV) : Nat := g.casesOn (fun _ => 0) (fun _ => 1) (fun _ => 2) fun _ => 3
noncomputable def posOf (x : Str) : List (Str × NameKind) → Nat → Option (Nat × NameKind)
  | [], _ => none
  | (y, k) :: r, n => if x == y then some (n, k) else posOf x r (n + 1)
section
variable (gt : Str → Option GV)
noncomputable def locK : NameKind → Nat → Option Nat
  | .local, i => some i
  | _, _ => none
noncomputable def locOf (ns : List (Str × NameKind)) (e : Expr) : Option Nat := match e with
  | .Name x _ => if x == ("__debug__" : Str) then none else (posOf x ns 0).bind fun p => locK p.2 p.1
  | _ => none
noncomputable def globOf (ns : List (Str × NameKind)) (x : Str) : Option GV :=
  if x == ("__debug__" : Str) || x == ("__name__" : Str) then none else match posOf x ns 0 with
    | some (_, .globalImplicit) => gt x
    | _ => none
noncomputable def relab (ns l : List (Str × NameKind)) : List (Str × NameKind) := l.map fun p => if (p.2 == .free && ns.lookup p.1 == some .cell) = true then (p.1, .cell) else p
noncomputable def initK (p : Option (Nat × NameKind)) (t : Option (List (Option Nat))) : NameKind → Option (List (Option Nat))
  | .cell => p.bind fun p => if p.2 == .cell then t.map (some p.1 :: ·) else none
  | .local => t.map (none :: ·)
  | .globalImplicit => t.map (none :: ·)
  | _ => none
noncomputable def initOf (ns : List (Str × NameKind)) : List (Str × NameKind) → Option (List (Option Nat))
  | [] => some []
  | p :: r => initK (posOf p.1 ns 0) (initOf ns r) p.2
noncomputable def nodupS : List (Str × NameKind) → Bool
  | [] => true
  | (x, _) :: r => !(r.any fun y => y.1 == x) && nodupS r
noncomputable def scopeOk (ns : List (Str × NameKind)) (s : Scope) : Bool := s.kind == .function && !(s.names.any fun p => p.2 == .cell) && nodupS s.names && nodupS (relab ns s.names)
noncomputable def tgtPair (ns : List (Str × NameKind)) : List Expr → Option Tgt
  | [a, b] => (locOf ns a).bind fun i => (locOf ns b).bind fun j => if i == j then none else some (.two i j)
  | _ => none
noncomputable def tgtOf (ns : List (Str × NameKind)) (e : Expr) : Option Tgt := match e with
  | .Tuple es _ _ => tgtPair ns es
  | e => (locOf ns e).map .one
noncomputable def tgtFits : Tgt → SK → Bool
  | .two _ _, .enum => true
  | .two _ _, .items _ => true
  | .one _, .it => true
  | .one _, .range1 => true
  | .one _, .range2 => true
  | _, _ => false
noncomputable def isComp : CE → Bool
  | .comp .. => true
  | .comp2 .. => true
  | _ => false
noncomputable def both (r : Expr → Option CE) (f : CE → CE → CE) (a b : Expr) : Option CE := (r a).bind fun x => (r b).map fun y => f x y
noncomputable def nameOf : Expr → Option Str
  | .Name x _ => some x
  | _ => none
noncomputable def isV : CE → Bool
  | .v _ => true
  | _ => false
noncomputable def nov (o : Option CE) : Option CE := o.filter fun c => !isV c
noncomputable def conOf : Const → Option PyData
  | .int i => some (.int i)
  | .str s => if PyData.strOk s then some (.str s) else none
  | .bool b => some (.bool b)
  | .none => some .none
  | _ => none
noncomputable def datOf : Option GV → Option PyData
  | some (.dat d) => some d
  | _ => none
noncomputable def stN (ns : List (Str × NameKind)) (x : Str) : Option CE := if x == ("__debug__" : Str) then none else (posOf x ns 0).bind fun p => match p.2 with
  | .local => some (.v p.1)
  | .cell => some (.v p.1)
  | .free => if x == ("__classdict__" : Str) then none else some (.v p.1)
  | .globalImplicit => (datOf (globOf gt ns x)).map .k
  | _ => none
noncomputable def isNoneC : Const → Bool
  | .none => true
  | _ => false
noncomputable def isNoneE : Expr → Bool
  | .Constant c _ _ => isNoneC c
  | _ => false
noncomputable def stCmp (r : Expr → Option CE) (ns : List (Str × NameKind)) (op : CmpOp) (a b : Expr) : Option CE :=
  if op == .Is then (if isNoneE b then (r a).map .isN else none) else if op == .IsNot || op == .NotIn then none else
  if op == .In then (match locOf ns b with
    | some i => (r a).map (.inv · i)
    | none => both r (.cmp .In) a b) else both r (.cmp op) a b
noncomputable def is1C : Const → Bool
  | .int i => decide (i = 1)
  | _ => false
noncomputable def is1E : Expr → Bool
  | .Constant c _ _ => is1C c
  | _ => false
noncomputable def isM1 : Expr → Bool
  | .UnaryOp op a _ => op == .USub && is1E a
  | _ => false
noncomputable def stCut (r : Expr → Option CE) (a : Expr) : Option Expr → Option Expr → Option Expr → Option CE
  | none, some b, none => both r .upto a b
  | some b, none, none => both r .from a b
  | none, none, some e => if isM1 e then (r a).map .rev else none
  | _, _, _ => none
noncomputable def tabOf (ns : List (Str × NameKind)) (x : Str) : Option (List (Str × PyData)) := match globOf gt ns x with
  | some (.tab kvs) => some kvs
  | _ => none
noncomputable def stIdx (r : Expr → Option CE) (ns : List (Str × NameKind)) (a b : Expr) : Option CE := match (nameOf a).bind (tabOf gt ns) with
  | some kvs => (r b).map (.gidx kvs)
  | none => both r .idx a b
noncomputable def stFn (r : Expr → Option CE) (rs : List Expr → Option (List CE)) (ns : List (Str × NameKind)) (f : FN) (args : List Expr) : Option CE :=
  if f == 492 then (match args with
    | [b, e] => (locOf ns b).bind fun i => (r e).map (.take i)
    | _ => none) else if args.isEmpty then none else (rs args).map (.call f)
noncomputable def isTrueC : Const → Bool
  | .bool b => b
  | _ => false
noncomputable def isTrueE : Expr → Bool
  | .Constant c _ _ => isTrueC c
  | _ => false
noncomputable def stIf (r : Expr → Option CE) : List Expr → Option CE
  | [c] => r c
  | _ => none
noncomputable def stSd1 (r : List (Str × NameKind) → Expr → Option CE) (ns : List (Str × NameKind)) (key : Expr) (scope : Scope) : List Comprehension → Option CE
  | [g] => if g.is_async == 0 && scopeOk ns scope then (initOf ns (relab ns scope.names)).bind fun init => (locOf (relab ns scope.names) g.target).bind fun i => (r ns g.iter).bind fun it => (stIf (r (relab ns scope.names)) g.ifs).bind fun c => (r (relab ns scope.names) key).map fun k => .sdc init i it c k
      else none
  | _ => none
noncomputable def stSdE (r : List (Str × NameKind) → Expr → Option CE) (ns : List (Str × NameKind)) : Expr → Option CE
  | .DictComp key v gens scope _ => if isTrueE v then stSd1 r ns key scope gens else none
  | _ => none
noncomputable def stSd (r : List (Str × NameKind) → Expr → Option CE) (ns : List (Str × NameKind)) : List Expr → Option CE
  | [e] => stSdE r ns e
  | _ => none
noncomputable def stBf (r : List (Str × NameKind) → Expr → Option CE) (rs : List Expr → Option (List CE)) (ns : List (Str × NameKind)) (f : Bf) (args : List Expr) : Option CE :=
  if f == .len then (match args with
    | [a] => (r ns a).map .len
    | _ => none) else if f == .sorted then stSd r ns args else if f == .range || f == .enumerate || args.isEmpty then none else (rs args).map (.bif f)
noncomputable def stCall (r : List (Str × NameKind) → Expr → Option CE) (rs : List Expr → Option (List CE)) (ns : List (Str × NameKind)) (x : Str) (args : List Expr) : Option CE := match globOf gt ns x with
  | some (.fn f) => stFn (r ns) rs ns f args
  | some (.bf f) => stBf r rs ns f args
  | _ => none
noncomputable def stMeth (r : Expr → Option CE) (i : Nat) (m : Str) : List Expr → Option CE
  | [] => if m == ("pop" : Str) then some (.pop i) else none
  | [k, d] => if m == ("pop" : Str) then both r (.dpop i) k d else if m == ("get" : Str) then both r (.dget i) k d else none
  | _ => none
noncomputable def stComp (r : List (Str × NameKind) → Expr → Option CE) (rs : List (Str × NameKind) → List Expr → Option (List CE)) (src : Expr → Option (SK × List CE)) (ns : List (Str × NameKind)) (elt : Expr) (scope : Scope) : List Comprehension → Option CE
  | [g] => if g.is_async == 0 && scopeOk ns scope then (initOf ns (relab ns scope.names)).bind fun init => (tgtOf (relab ns scope.names) g.target).bind fun t => (src g.iter).bind fun se => if tgtFits t se.1 then
      (rs (relab ns scope.names) g.ifs).bind fun cs => (r (relab ns scope.names) elt).map fun e => .comp init t se.1 se.2 cs e else none else none
  | [g, g2] => if g.is_async == 0 && g2.is_async == 0 && g.ifs.isEmpty && g2.ifs.isEmpty && scopeOk ns scope then (initOf ns (relab ns scope.names)).bind fun init => (locOf (relab ns scope.names) g.target).bind fun t => (src g.iter).bind fun se => if tgtFits (.one t) se.1 then
      (locOf (relab ns scope.names) g2.target).bind fun t2 => both (r (relab ns scope.names)) (fun e2 e => .comp2 init t se.1 se.2 t2 e2 e) g2.iter elt else none else none
  | _ => none
noncomputable def stE (r : List (Str × NameKind) → Expr → Option CE) (rs : List (Str × NameKind) → List Expr → Option (List CE)) (src : Expr → Option (SK × List CE)) (ns : List (Str × NameKind)) : Expr → Option CE
  | .Constant c _ _ => (conOf c).map .k
  | .BoolOp op es _ => if es.isEmpty then none else (match op with
    | .And => (rs ns es).map .and
    | .Or => (rs ns es).map .or)
  | .BinOp a op b _ => both (r ns) (.bin op) a b
  | .UnaryOp op a _ => if op == .USub then (r ns a).map .neg else if op == .Not then (r ns a).map .not else none
  | .IfExp t a b _ => (r ns t).bind fun t => both (r ns) (.ite t) a b
  | .Compare a ops bs _ => match ops, bs with
    | [op], [b] => stCmp (r ns) ns op a b
    | _, _ => none
  | .Tuple es _ _ => if Nat.ble es.length 1000 then (rs ns es).map .tup else none
  | .List es _ => if Nat.ble es.length 1000 then (rs ns es).map .lst else none
  | .Subscript a b _ => match b with
    | .Slice x y z _ => stCut (r ns) a x y z
    | b => stIdx gt (r ns) ns a b
  | .Call f args kws pos => if kws.isEmpty then (match f with
    | .Name x _ => stCall gt r (rs ns) ns x args
    | .Attribute o m ap => if ap.endLine == pos.line && (nameOf o).isSome then (locOf ns o).bind fun i => stMeth (r ns) i m args else none
    | _ => none) else none
  | .ListComp elt gens scope _ => stComp r rs src ns elt scope gens
  | _ => none
noncomputable def stSrcR (r : Expr → Option CE) : List Expr → Option (SK × List CE)
  | [a] => (r a).map fun a => (.range1, [a])
  | [a, b] => (r a).bind fun a => (r b).map fun b => (.range2, [a, b])
  | _ => none
noncomputable def stSrcE (r : Expr → Option CE) : List Expr → Option (SK × List CE)
  | [a] => (r a).map fun a => (.enum, [a])
  | _ => none
noncomputable def stSrcB (r : Expr → Option CE) (g : Bf) (l : List Expr) : Option (SK × List CE) := match g with
  | .range => stSrcR r l
  | .enumerate => stSrcE r l
  | _ => none
noncomputable def srcBf (ns : List (Str × NameKind)) (x : Str) : Option Bf := match globOf gt ns x with
  | some (.bf f) => if f == .range || f == .enumerate then some f else none
  | _ => none
noncomputable def stSrcN (r : Expr → Option CE) (e : Expr) (args : List Expr) : Option Bf → Option (SK × List CE)
  | some g => stSrcB r g args
  | none => (r e).map fun a => (.it, [a])
noncomputable def stSrc (r : Expr → Option CE) (ns : List (Str × NameKind)) (e : Expr) : Option (SK × List CE) := match e with
  | .Call f args kws q => if kws.isEmpty then (match f with
    | .Name x _ => stSrcN r e args (srcBf gt ns x)
    | .Attribute o m ap => if args.isEmpty then (if m == ("items" : Str) && ap.endLine == q.line && (nameOf o).isSome then (locOf ns o).map fun i => (.items i, []) else none) else (r e).map fun a => (.it, [a])
    | _ => (r e).map fun a => (.it, [a])) else (r e).map fun a => (.it, [a])
  | _ => (r e).map fun a => (.it, [a])
mutual
noncomputable def strip : Nat → List (Str × NameKind) → Expr → Option CE
  | 0, _, _ => none
  | n + 1, ns, e => match nameOf e with
    | some x => stN gt ns x
    | none => nov (stE gt (strip n) (strips n) (stripSrc n ns) ns e)
noncomputable def strips : Nat → List (Str × NameKind) → List Expr → Option (List CE)
  | _, _, [] => some []
  | 0, _, _ => none
  | n + 1, ns, e :: r => (strip n ns e).bind fun a => (strips n ns r).map fun l => a :: l
noncomputable def stripSrc : Nat → List (Str × NameKind) → Expr → Option (SK × List CE)
  | 0, _, _ => none
  | n + 1, ns, e => stSrc gt (strip n ns) ns e
end
noncomputable def mapO {α β : Type} (f : α → Option β) : List α → Option (List β)
  | [] => some []
  | a :: r => (f a).bind fun b => (mapO f r).map fun l => b :: l
noncomputable def keyC : Const → Option Str
  | .str s => if PyData.strOk s then some s else none
  | _ => none
noncomputable def keyE : Expr → Option Str
  | .Constant c _ _ => keyC c
  | _ => none
noncomputable def keyStr (o : Option Expr) : Option Str := o.bind keyE
noncomputable def stRHd (ks : List (Option Expr)) (vs : List Expr) (cs : Option (List CE)) : Option RH := if ks.isEmpty && vs.isEmpty then some .d else (mapO keyStr ks).bind fun ks => cs.bind fun vs => if ks.length == vs.length && ks.length ≤ 15 && decide ks.Nodup then some (.ds ks vs) else none
noncomputable def stRHe (c : Option CE) : Option RH := c.bind fun c => if isComp c then none else some (.e c)
noncomputable def stripRH (n : Nat) (ns : List (Str × NameKind)) (e : Expr) : Option RH := match e with
  | .List es _ => if Nat.ble es.length 1000 then (strips gt n ns es).map .l else none
  | .Dict ks vs _ => stRHd ks vs (strips gt n ns vs)
  | e => stRHe (strip gt n ns e)
noncomputable def locsOf (ns : List (Str × NameKind)) : List Expr → Option (List Nat)
  | [] => some []
  | e :: r => (locOf ns e).bind fun i => (locsOf ns r).bind fun l => if l.contains i then none else some (i :: l)
noncomputable def tnames : List Expr → List Str
  | .Name x _ :: r => x :: tnames r
  | _ :: r => tnames r
  | [] => []
noncomputable def onLine (n : Nat) : List Expr → Bool
  | .Name _ p :: r => p.line == n && onLine n r
  | _ :: r => onLine n r
  | [] => true
noncomputable def swOk (ts vs : List Expr) : Bool :=
  onLine ((ts.head?.map (·.pos.line)).getD 0) ts && (tnames ts).eraseDups.length == (tnames ts).length && !(vs.all (foldedForSure 8)) && !(vs.all (constantsAlone 8))
noncomputable def tupOf : Expr → Option (List Expr)
  | .Tuple es _ _ => some es
  | _ => none
noncomputable def stPair (n : Nat) (ns : List (Str × NameKind)) (ts : List Expr) (v : Expr) : Option CS := match tupOf v with
  | some vs => if ts.length == vs.length && (ts.length == 2 || ts.length == 3) && swOk ts vs then (locsOf ns ts).bind fun is => (mapO (stripRH gt n ns) vs).map fun rs => .asgT is rs else none
  | none => (locsOf ns ts).bind fun is => (strip gt n ns v).bind fun e => if isComp e then none else some (.asgU is e)
noncomputable def compAt : Expr → Option (Scope × Pos)
  | .ListComp _ _ scope q => some (scope, q)
  | _ => none
noncomputable def stName (n : Nat) (ns : List (Str × NameKind)) (x : Str) (p : Pos) (i : Nat) (v : Expr) : Option CS := match compAt v with
  | some (scope, q) => if p.line == q.line && !(scope.names.any fun y => y.1 == x && (y.2 == .local || y.2 == .cell)) then (strip gt n ns v).map (.asgC i) else none
  | none => (stripRH gt n ns v).map (.asg i)
noncomputable def stAsg (n : Nat) (ns : List (Str × NameKind)) (t v : Expr) : Option CS := match t with
  | .Tuple ts _ _ => stPair gt n ns ts v
  | .Subscript o k _ => (locOf ns o).bind fun i => (strip gt n ns k).bind fun k => (strip gt n ns v).bind fun e => if isComp e then none else some (.setv i k e)
  | .Name x p => (locOf ns (.Name x p)).bind fun i => stName gt n ns x p i v
  | _ => none
noncomputable def appOf : Expr → Option (Expr × Str × Expr)
  | .Call f args kws pos => if kws.isEmpty then (match f, args with
    | .Attribute o m ap, [a] => if ap.endLine == pos.line then some (o, m, a) else none
    | _, _ => none) else none
  | _ => none
noncomputable def stApp (n : Nat) (ns : List (Str × NameKind)) (o : Expr) (m : Str) (a : Expr) : Option CS :=
  (locOf ns o).bind fun i => (strip gt n ns a).bind fun e => if m == ("append" : Str) then some (.app i e) else if m == ("extend" : Str) then some (.ext i e) else none
mutual
noncomputable def stripS : Nat → List (Str × NameKind) → Stmt → Option CS
  | 0, _, _ => none
  | n + 1, ns, s => match s with
    | .Assign ts v _ => (match ts with
      | [t] => stAsg gt n ns t v
      | _ => none)
    | .AugAssign t op v _ => if op == .Add then (locOf ns t).bind fun i => (strip gt n ns v).map (.aug i op) else none
    | .Expr e _ => (appOf e).bind fun x => stApp gt n ns x.1 x.2.1 x.2.2
    | .If t a b _ => (strip gt n ns t).bind fun t => (stripSs n ns a).bind fun a => (stripSs n ns b).map (.cond t a)
    | .While t b o _ => if o.isEmpty then (strip gt n ns t).bind fun t => (stripSs n ns b).map (.whl t) else none
    | .For t it b o _ => if o.isEmpty then (tgtOf ns t).bind fun t => (stripSrc gt n ns it).bind fun se => if tgtFits t se.1 then (stripSs n ns b).map (.loop t se.1 se.2) else none else none
    | .Return v _ => v.bind fun e => (strip gt n ns e).map .ret
    | .Raise _ _ _ => some .raise
    | _ => none
noncomputable def stripSs : Nat → List (Str × NameKind) → List Stmt → Option (List CS)
  | _, _, [] => some []
  | 0, _, _ => none
  | n + 1, ns, s :: r => (stripS n ns s).bind fun a => (stripSs n ns r).map fun l => a :: l
end
end
noncomputable def gfns : List (Str × FN) := [(Str.ofString "gcd", 41), (Str.ofString "bits_of", 48), (Str.ofString "least_divisor", 55), (Str.ofString "prime_factors", 62), (Str.ofString "rat", 69), (Str.ofString "radd", 76), (Str.ofString "rmul", 83), (Str.ofString "rinv", 90), (Str.ofString "rpower", 97), (Str.ofString "rfloor", 104), (Str.ofString "t_num", 114), (Str.ofString "t_sym", 121), (Str.ofString "t_sum", 128), (Str.ofString "t_prod", 135), (Str.ofString "t_pow", 142), (Str.ofString "t_call", 149), (Str.ofString "t_quotient", 156), (Str.ofString "is_num", 163), (Str.ofString "num_of", 170), (Str.ofString "is_whole_num", 177)] ++ ([(Str.ofString "inner_terms", 184), (Str.ofString "all_terms", 191), (Str.ofString "is_too_great", 196), (Str.ofString "free_letters", 201), (Str.ofString "contains_letter", 208), (Str.ofString "sign_between", 216), (Str.ofString "compare_values", 223), (Str.ofString "bare_factors", 228), (Str.ofString "front_value", 235), (Str.ofString "base_and_exponent", 242), (Str.ofString "compare_rows", 249), (Str.ofString "compare_exponents", 256), (Str.ofString "compare_bases", 263), (Str.ofString "compare_factors", 270), (Str.ofString "compare_terms", 277), (Str.ofString "merged_terms", 284), (Str.ofString "sort_terms", 291), (Str.ofString "number_term", 305), (Str.ofString "number_and_rest", 312), (Str.ofString "with_number", 319)] ++ ([(Str.ofString "flat_parts", 326), (Str.ofString "gathered_sum", 331), (Str.ofString "is_one_call", 338), (Str.ofString "as_power", 345), (Str.ofString "gathered_product", 352), (Str.ofString "power_of", 357), (Str.ofString "split_power", 364), (Str.ofString "number_power", 371), (Str.ofString "radical_of", 378), (Str.ofString "begins_below", 385), (Str.ofString "negated_term", 390), (Str.ofString "exp_of", 397), (Str.ofString "log_of", 404), (Str.ofString "factorial_of", 411), (Str.ofString "call_of", 418), (Str.ofString "simplify", 423), (Str.ofString "one_less_square", 432), (Str.ofString "one_more_square", 439), (Str.ofString "call_slope", 446), (Str.ofString "product_slope", 451)] ++ ([(Str.ofString "power_slope", 458), (Str.ofString "slope_of", 463), (Str.ofString "derive_term", 470), (Str.ofString "derive_up_to", 477), (Str.ofString "derive_many", 484), (Str.ofString "_law_take", 492), (Str.ofString "_law_under", 499), (Str.ofString "_law_call", 506), (Str.ofString "_law_value", 513), (Str.ofString "_law_factor", 520), (Str.ofString "_law_slopes", 527), (Str.ofString "_law_powers", 534), (Str.ofString "law", 541)])))
noncomputable def gdats : List (Str × PyData) := [("MOST_BITS", .int 200000), ("T_ZERO", .tuple [.str "num", .int (0), .int 1]), ("T_ONE", .tuple [.str "num", .int (1), .int 1]), ("T_MINUS", .tuple [.str "num", .int (-1), .int 1]), ("MOST_NARROW", .int 100), ("ZERO", .tuple [.str "num", .int (0), .int 1]), ("ONE", .tuple [.str "num", .int (1), .int 1]), ("MINUS_ONE", .tuple [.str "num", .int (-1), .int 1]), ("HALF", .tuple [.str "num", .int (1), .int 2]), ("EXP_ONE", .tuple [.str "call", .str "exp", .tuple [.tuple [.str "num", .int (1), .int 1]]]), ("MOST_FACTORED", .int 1000000), ("MOST_FACTORIAL", .int 200), ("ODD_CALLS", .tuple [.str "sin", .str "tan", .str "atan"]), ("T_TWO", .tuple [.str "num", .int (2), .int 1]), ("T_HALF", .tuple [.str "num", .int (1), .int 2]), ("MOST_TIMES", .int 1000), ("MOST_PLACES", .int 100000), ("MOST_HIGH", .int 120), ("MOST_PARTS", .int 20000), ("_law_x", .tuple [.str "sym", .str "x"])]
noncomputable def granks : List (Str × PyData) := [("sym", .int 0), ("call", .int 1), ("sum", .int 2), ("prod", .int 3), ("num", .int 4), ("pow", .int 5), ("eq", .int 6), ("list", .int 7)]
noncomputable def gbfs : List (Str × Bf) := [("abs", .abs), ("max", .max), ("min", .min), ("len", .len), ("list", .list), ("tuple", .tuple), ("range", .range), ("sorted", .sorted), ("sum", .sum), ("enumerate", .enumerate)]
noncomputable def lookA {κ α : Type} [BEq κ] (x : κ) : List (κ × α) → Option α
  | [] => none
  | (y, a) :: r => if x == y then some a else lookA x r
noncomputable def gtab (x : Str) : Option GV := match lookA x gdats with
  | some d => some (.dat d)
  | none => match lookA x gfns with
    | some f => some (.fn f)
    | none => match lookA x gbfs with
      | some b => some (.bf b)
      | none => if x == ("RANKS" : Str) then some (.tab granks) else none
noncomputable def fc_gcd : FnC := ⟨2, 3, [.asgT [0, 1] [(.e (.bif .abs [(.v 0)])), (.e (.bif .abs [(.v 1)]))], .whl (.cmp .NotEq (.v 1) (.k (.int 0))) [.asgT [0, 1] [(.e (.v 1)), (.e (.bin .Mod (.v 0) (.v 1)))]], .ret (.v 0)]⟩
noncomputable def fc_bits_of : FnC := ⟨1, 4, [.asg 1 (.e (.k (.int 0))), .loop (.one 2) .it [(.tup [(.k (.int 4096)), (.k (.int 64)), (.k (.int 1))])] [.asg 3 (.e (.bin .Pow (.k (.int 2)) (.v 2))), .whl (.cmp .GtE (.v 0) (.v 3)) [.asgT [0, 1] [(.e (.bin .FloorDiv (.v 0) (.v 3))), (.e (.bin .Add (.v 1) (.v 2)))]]], .ret (.bin .Add (.v 1) (.v 0))]⟩
noncomputable def fc_rat : FnC := ⟨2, 5, [.cond (.cmp .Eq (.v 1) (.k (.int 0))) [.raise] [], .asg 2 (.e (.ite (.cmp .Gt (.v 1) (.k (.int 0))) (.call 41 [(.v 0), (.v 1)]) (.bin .Sub (.k (.int 0)) (.call 41 [(.v 0), (.v 1)])))), .ret (.tup [(.bin .FloorDiv (.v 0) (.v 2)), (.bin .FloorDiv (.v 1) (.v 2))])]⟩
noncomputable def fc_radd : FnC := ⟨2, 3, [.ret (.call 69 [(.bin .Add (.bin .Mult (.idx (.v 0) (.k (.int 0))) (.idx (.v 1) (.k (.int 1)))) (.bin .Mult (.idx (.v 1) (.k (.int 0))) (.idx (.v 0) (.k (.int 1))))), (.bin .Mult (.idx (.v 0) (.k (.int 1))) (.idx (.v 1) (.k (.int 1))))])]⟩
noncomputable def fc_rmul : FnC := ⟨2, 3, [.ret (.call 69 [(.bin .Mult (.idx (.v 0) (.k (.int 0))) (.idx (.v 1) (.k (.int 0)))), (.bin .Mult (.idx (.v 0) (.k (.int 1))) (.idx (.v 1) (.k (.int 1))))])]⟩
noncomputable def fc_t_sum : FnC := ⟨1, 4, [.cond (.cmp .Eq (.len (.v 0)) (.k (.int 0))) [.ret (.k (.tuple [(.str "num"), (.int 0), (.int 1)]))] [], .ret (.ite (.cmp .Eq (.len (.v 0)) (.k (.int 1))) (.idx (.v 0) (.k (.int 0))) (.tup [(.k (.str "sum")), (.bif .tuple [(.v 0)])]))]⟩
noncomputable def fc_t_prod : FnC := ⟨1, 4, [.cond (.cmp .Eq (.len (.v 0)) (.k (.int 0))) [.ret (.k (.tuple [(.str "num"), (.int 1), (.int 1)]))] [], .ret (.ite (.cmp .Eq (.len (.v 0)) (.k (.int 1))) (.idx (.v 0) (.k (.int 0))) (.tup [(.k (.str "prod")), (.bif .tuple [(.v 0)])]))]⟩
noncomputable def fc_t_pow : FnC := ⟨2, 2, [.ret (.tup [(.k (.str "pow")), (.v 0), (.v 1)])]⟩
noncomputable def fc_t_call : FnC := ⟨2, 3, [.ret (.tup [(.k (.str "call")), (.v 0), (.bif .tuple [(.v 1)])])]⟩
noncomputable def fc_is_num : FnC := ⟨1, 1, [.ret (.cmp .Eq (.idx (.v 0) (.k (.int 0))) (.k (.str "num")))]⟩
noncomputable def fc_num_of : FnC := ⟨1, 1, [.ret (.tup [(.idx (.v 0) (.k (.int 1))), (.idx (.v 0) (.k (.int 2)))])]⟩
noncomputable def fc_is_whole_num : FnC := ⟨1, 1, [.ret (.and [(.cmp .Eq (.idx (.v 0) (.k (.int 0))) (.k (.str "num"))), (.cmp .Eq (.idx (.v 0) (.k (.int 2))) (.k (.int 1)))])]⟩
noncomputable def fc_inner_terms : FnC := ⟨1, 3, [.asg 1 (.e (.idx (.v 0) (.k (.int 0)))), .cond (.cmp .In (.v 1) (.tup [(.k (.str "sum")), (.k (.str "prod")), (.k (.str "list"))])) [.ret (.bif .list [(.idx (.v 0) (.k (.int 1)))])] [], .cond (.cmp .In (.v 1) (.tup [(.k (.str "pow")), (.k (.str "eq"))])) [.ret (.lst [(.idx (.v 0) (.k (.int 1))), (.idx (.v 0) (.k (.int 2)))])] [], .ret (.ite (.cmp .Eq (.v 1) (.k (.str "call"))) (.bif .list [(.idx (.v 0) (.k (.int 2)))]) (.lst []))]⟩
noncomputable def fc_all_terms : FnC := ⟨1, 6, [.asgT [1, 2] [(.l [(.v 0)]), (.l [])], .whl (.cmp .Gt (.len (.v 1)) (.k (.int 0))) [.asg 3 (.e (.pop 1)), .app 2 (.v 3), .ext 1 (.rev (.call 184 [(.v 3)]))], .ret (.v 2)]⟩
noncomputable def fc_is_too_great : FnC := ⟨3, 9, [.asgT [3, 4, 5] [(.l [(.v 0)]), (.e (.k (.int 0))), (.e (.k (.int 0)))], .whl (.cmp .Gt (.len (.v 3)) (.k (.int 0))) [.asgT [4, 5] [(.e (.bin .Add (.v 4) (.k (.int 1)))), (.e (.bin .Add (.v 5) (.len (.v 3))))], .cond (.or [(.cmp .Gt (.v 4) (.v 1)), (.cmp .Gt (.v 5) (.v 2))]) [.ret (.k (.bool true))] [], .cond (.cmp .Gt (.len (.comp [none, none, none, none, none, none] (.one 1) .it [(.v 3)] [(.and [(.cmp .Eq (.idx (.v 1) (.k (.int 0))) (.k (.str "num"))), (.cmp .Gt (.call 48 [(.bif .max [(.bif .abs [(.idx (.v 1) (.k (.int 1)))]), (.idx (.v 1) (.k (.int 2)))])]) (.k (.int 200000)))])] (.k (.int 1)))) (.k (.int 0))) [.ret (.k (.bool true))] [], .cond (.and [(.cmp .Gt (.len (.v 3)) (.k (.int 100))), (.cmp .Gt (.bin .Add (.v 5) (.bif .sum [(.comp [none, none, none, none] (.one 1) .it [(.v 3)] [] (.len (.call 184 [(.v 1)])))])) (.v 2))]) [.ret (.k (.bool true))] [], .asgC 3 (.comp2 [none, none, none, none] 1 .it [(.v 3)] 2 (.call 184 [(.v 1)]) (.v 2))], .ret (.k (.bool false))]⟩
noncomputable def fc_free_letters : FnC := ⟨1, 3, [.ret (.sdc [none, none] 1 (.call 191 [(.v 0)]) (.cmp .Eq (.idx (.v 1) (.k (.int 0))) (.k (.str "sym"))) (.idx (.v 1) (.k (.int 1))))]⟩
noncomputable def fc_contains_letter : FnC := ⟨2, 3, [.ret (.cmp .In (.v 1) (.call 201 [(.v 0)]))]⟩
noncomputable def fc_sign_between : FnC := ⟨2, 2, [.cond (.cmp .Eq (.v 0) (.v 1)) [.ret (.k (.int 0))] [], .ret (.ite (.cmp .Lt (.v 0) (.v 1)) (.neg (.k (.int 1))) (.k (.int 1)))]⟩
noncomputable def fc_compare_values : FnC := ⟨2, 3, [.ret (.call 216 [(.bin .Mult (.idx (.v 0) (.k (.int 0))) (.idx (.v 1) (.k (.int 1)))), (.bin .Mult (.idx (.v 1) (.k (.int 0))) (.idx (.v 0) (.k (.int 1))))])]⟩
noncomputable def fc_bare_factors : FnC := ⟨1, 1, [.cond (.cmp .NotEq (.idx (.v 0) (.k (.int 0))) (.k (.str "prod"))) [.ret (.lst [(.v 0)])] [], .ret (.comp [none, none, none] (.one 1) .it [(.idx (.v 0) (.k (.int 1)))] [(.not (.call 163 [(.v 1)]))] (.v 1))]⟩
noncomputable def fc_front_value : FnC := ⟨1, 3, [.cond (.and [(.cmp .Eq (.idx (.v 0) (.k (.int 0))) (.k (.str "prod"))), (.call 163 [(.idx (.idx (.v 0) (.k (.int 1))) (.k (.int 0)))])]) [.ret (.call 170 [(.idx (.idx (.v 0) (.k (.int 1))) (.k (.int 0)))])] [], .ret (.tup [(.k (.int 1)), (.k (.int 1))])]⟩
noncomputable def fc_base_and_exponent : FnC := ⟨1, 2, [.ret (.ite (.cmp .Eq (.idx (.v 0) (.k (.int 0))) (.k (.str "pow"))) (.tup [(.idx (.v 0) (.k (.int 1))), (.idx (.v 0) (.k (.int 2)))]) (.tup [(.v 0), (.k (.tuple [(.str "num"), (.int 1), (.int 1)]))]))]⟩
noncomputable def fc_compare_rows : FnC := ⟨2, 9, [.loop (.one 2) .range1 [(.bif .min [(.len (.v 0)), (.len (.v 1))])] [.asg 3 (.e (.call 277 [(.idx (.v 0) (.v 2)), (.idx (.v 1) (.v 2))])), .cond (.cmp .NotEq (.v 3) (.k (.int 0))) [.ret (.v 3)] []], .ret (.call 216 [(.len (.v 1)), (.len (.v 0))])]⟩
noncomputable def fc_compare_exponents : FnC := ⟨2, 6, [.cond (.and [(.call 163 [(.v 0)]), (.call 163 [(.v 1)])]) [.ret (.call 223 [(.call 170 [(.v 1)]), (.call 170 [(.v 0)])])] [], .cond (.cmp .NotEq (.call 163 [(.v 0)]) (.call 163 [(.v 1)])) [.ret (.ite (.call 163 [(.v 0)]) (.k (.int 1)) (.neg (.k (.int 1))))] [], .ret (.call 277 [(.v 0), (.v 1)])]⟩
noncomputable def fc_compare_bases : FnC := ⟨2, 9, [.asg 2 (.e (.call 216 [(.gidx granks (.idx (.v 0) (.k (.int 0)))), (.gidx granks (.idx (.v 1) (.k (.int 0))))])), .cond (.cmp .NotEq (.v 2) (.k (.int 0))) [.ret (.v 2)] [], .asg 3 (.e (.idx (.v 0) (.k (.int 0)))), .cond (.cmp .Eq (.v 3) (.k (.str "num"))) [.ret (.call 223 [(.call 170 [(.v 0)]), (.call 170 [(.v 1)])])] [], .cond (.cmp .Eq (.v 3) (.k (.str "sym"))) [.ret (.call 216 [(.idx (.v 0) (.k (.int 1))), (.idx (.v 1) (.k (.int 1)))])] [], .cond (.cmp .Eq (.v 3) (.k (.str "call"))) [.asg 2 (.e (.call 216 [(.idx (.v 0) (.k (.int 1))), (.idx (.v 1) (.k (.int 1)))])), .ret (.ite (.cmp .NotEq (.v 2) (.k (.int 0))) (.v 2) (.call 249 [(.idx (.v 0) (.k (.int 2))), (.idx (.v 1) (.k (.int 2)))]))] [], .cond (.cmp .In (.v 3) (.tup [(.k (.str "sum")), (.k (.str "prod")), (.k (.str "list"))])) [.ret (.call 249 [(.idx (.v 0) (.k (.int 1))), (.idx (.v 1) (.k (.int 1)))])] [], .ret (.call 249 [(.from (.v 0) (.k (.int 1))), (.from (.v 1) (.k (.int 1)))])]⟩
noncomputable def fc_compare_factors : FnC := ⟨2, 10, [.asgU [2, 3] (.call 242 [(.v 0)]), .asgU [4, 5] (.call 242 [(.v 1)]), .asg 6 (.e (.call 263 [(.v 2), (.v 4)])), .ret (.ite (.cmp .NotEq (.v 6) (.k (.int 0))) (.v 6) (.call 256 [(.v 3), (.v 5)]))]⟩
noncomputable def fc_compare_terms : FnC := ⟨2, 16, [.cond (.and [(.call 163 [(.v 0)]), (.call 163 [(.v 1)])]) [.ret (.call 223 [(.call 170 [(.v 0)]), (.call 170 [(.v 1)])])] [], .cond (.cmp .NotEq (.call 163 [(.v 0)]) (.call 163 [(.v 1)])) [.ret (.ite (.call 163 [(.v 0)]) (.k (.int 1)) (.neg (.k (.int 1))))] [], .asgT [2, 3] [(.e (.call 228 [(.v 0)])), (.e (.call 228 [(.v 1)]))], .loop (.one 4) .range1 [(.bif .min [(.len (.v 2)), (.len (.v 3))])] [.asg 5 (.e (.call 270 [(.idx (.v 2) (.v 4)), (.idx (.v 3) (.v 4))])), .cond (.cmp .NotEq (.v 5) (.k (.int 0))) [.ret (.v 5)] []], .asg 5 (.e (.call 216 [(.len (.v 3)), (.len (.v 2))])), .ret (.ite (.cmp .NotEq (.v 5) (.k (.int 0))) (.v 5) (.call 223 [(.call 235 [(.v 0)]), (.call 235 [(.v 1)])]))]⟩
noncomputable def fc_merged_terms : FnC := ⟨2, 8, [.asgT [2, 3, 4] [(.l []), (.e (.k (.int 0))), (.e (.k (.int 0)))], .whl (.or [(.cmp .Lt (.v 3) (.len (.v 0))), (.cmp .Lt (.v 4) (.len (.v 1)))]) [.asg 5 (.e (.or [(.cmp .GtE (.v 4) (.len (.v 1))), (.and [(.cmp .Lt (.v 3) (.len (.v 0))), (.cmp .LtE (.call 277 [(.idx (.v 0) (.v 3)), (.idx (.v 1) (.v 4))]) (.k (.int 0)))])])), .cond (.v 5) [.app 2 (.idx (.v 0) (.v 3)), .aug 3 .Add (.k (.int 1))] [.app 2 (.idx (.v 1) (.v 4)), .aug 4 .Add (.k (.int 1))]], .ret (.v 2)]⟩
noncomputable def fc_sort_terms : FnC := ⟨1, 6, [.cond (.cmp .Lt (.len (.v 0)) (.k (.int 2))) [.ret (.bif .list [(.v 0)])] [], .asg 1 (.e (.bin .FloorDiv (.len (.v 0)) (.k (.int 2)))), .ret (.call 284 [(.call 291 [(.upto (.v 0) (.v 1))]), (.call 291 [(.from (.v 0) (.v 1))])])]⟩
noncomputable def fc_number_term : FnC := ⟨1, 1, [.ret (.tup [(.k (.str "num")), (.idx (.v 0) (.k (.int 0))), (.idx (.v 0) (.k (.int 1)))])]⟩
noncomputable def fc_number_and_rest : FnC := ⟨1, 4, [.cond (.cmp .Eq (.idx (.v 0) (.k (.int 0))) (.k (.str "num"))) [.ret (.tup [(.tup [(.idx (.v 0) (.k (.int 1))), (.idx (.v 0) (.k (.int 2)))]), (.k (.tuple [(.str "num"), (.int 1), (.int 1)]))])] [], .cond (.or [(.cmp .NotEq (.idx (.v 0) (.k (.int 0))) (.k (.str "prod"))), (.cmp .NotEq (.idx (.idx (.idx (.v 0) (.k (.int 1))) (.k (.int 0))) (.k (.int 0))) (.k (.str "num")))]) [.ret (.tup [(.tup [(.k (.int 1)), (.k (.int 1))]), (.v 0)])] [], .asg 1 (.e (.ite (.cmp .Eq (.len (.idx (.v 0) (.k (.int 1)))) (.k (.int 2))) (.idx (.idx (.v 0) (.k (.int 1))) (.k (.int 1))) (.tup [(.k (.str "prod")), (.from (.idx (.v 0) (.k (.int 1))) (.k (.int 1)))]))), .ret (.tup [(.tup [(.idx (.idx (.idx (.v 0) (.k (.int 1))) (.k (.int 0))) (.k (.int 1))), (.idx (.idx (.idx (.v 0) (.k (.int 1))) (.k (.int 0))) (.k (.int 2)))]), (.v 1)])]⟩
noncomputable def fc_with_number : FnC := ⟨2, 4, [.cond (.or [(.cmp .Eq (.idx (.v 0) (.k (.int 0))) (.k (.int 0))), (.cmp .Eq (.v 1) (.k (.tuple [(.str "num"), (.int 1), (.int 1)])))]) [.ret (.call 305 [(.v 0)])] [], .cond (.cmp .Eq (.v 0) (.tup [(.k (.int 1)), (.k (.int 1))])) [.ret (.v 1)] [], .ret (.tup [(.k (.str "prod")), (.bin .Add (.tup [(.call 305 [(.v 0)])]) (.ite (.cmp .Eq (.idx (.v 1) (.k (.int 0))) (.k (.str "prod"))) (.idx (.v 1) (.k (.int 1))) (.tup [(.v 1)])))])]⟩
noncomputable def fc_flat_parts : FnC := ⟨2, 5, [.asg 2 (.l []), .loop (.one 3) .it [(.v 0)] [.ext 2 (.ite (.cmp .Eq (.idx (.v 3) (.k (.int 0))) (.v 1)) (.bif .list [(.idx (.v 3) (.k (.int 1)))]) (.lst [(.v 3)]))], .ret (.v 2)]⟩
noncomputable def fc_gathered_sum : FnC := ⟨1, 17, [.asg 1 .d, .loop (.one 2) .it [(.call 326 [(.v 0), (.k (.str "sum"))])] [.asgU [3, 4] (.call 312 [(.v 2)]), .setv 1 (.v 4) (.call 76 [(.dget 1 (.v 4) (.tup [(.k (.int 0)), (.k (.int 1))])), (.v 3)])], .asg 5 (.e (.dpop 1 (.k (.tuple [(.str "num"), (.int 1), (.int 1)])) (.tup [(.k (.int 0)), (.k (.int 1))]))), .asgC 6 (.comp [none, none, none, none] (.two 1 2) (.items 1) [] [(.cmp .NotEq (.idx (.v 2) (.k (.int 0))) (.k (.int 0)))] (.call 319 [(.v 2), (.v 1)])), .cond (.cmp .Gt (.len (.comp [none, none] (.one 1) .it [(.v 6)] [(.cmp .Eq (.idx (.v 1) (.k (.int 0))) (.k (.str "sum")))] (.v 1))) (.k (.int 0))) [.ret (.call 331 [(.bin .Add (.v 6) (.lst [(.call 305 [(.v 5)])]))])] [], .asg 6 (.e (.bin .Add (.call 291 [(.v 6)]) (.ite (.cmp .NotEq (.idx (.v 5) (.k (.int 0))) (.k (.int 0))) (.lst [(.call 305 [(.v 5)])]) (.lst [])))), .cond (.cmp .Eq (.len (.v 6)) (.k (.int 0))) [.ret (.k (.tuple [(.str "num"), (.int 0), (.int 1)]))] [], .ret (.ite (.cmp .Eq (.len (.v 6)) (.k (.int 1))) (.idx (.v 6) (.k (.int 0))) (.tup [(.k (.str "sum")), (.bif .tuple [(.v 6)])]))]⟩
noncomputable def fc_is_one_call : FnC := ⟨2, 3, [.ret (.and [(.cmp .Eq (.idx (.v 0) (.k (.int 0))) (.k (.str "call"))), (.cmp .Eq (.idx (.v 0) (.k (.int 1))) (.v 1)), (.cmp .Eq (.len (.idx (.v 0) (.k (.int 2)))) (.k (.int 1)))])]⟩
noncomputable def fc_as_power : FnC := ⟨1, 4, [.cond (.cmp .Eq (.idx (.v 0) (.k (.int 0))) (.k (.str "pow"))) [.ret (.tup [(.idx (.v 0) (.k (.int 1))), (.idx (.v 0) (.k (.int 2)))])] [], .cond (.call 338 [(.v 0), (.k (.str "exp"))]) [.ret (.tup [(.k (.tuple [(.str "call"), (.str "exp"), (.tuple [(.tuple [(.str "num"), (.int 1), (.int 1)])])])), (.idx (.idx (.v 0) (.k (.int 2))) (.k (.int 0)))])] [], .ret (.tup [(.v 0), (.k (.tuple [(.str "num"), (.int 1), (.int 1)]))])]⟩
noncomputable def fc_gathered_product : FnC := ⟨1, 21, [.asgT [1, 2] [(.e (.tup [(.k (.int 1)), (.k (.int 1))])), .d], .loop (.one 3) .it [(.call 326 [(.v 0), (.k (.str "prod"))])] [.cond (.cmp .Eq (.idx (.v 3) (.k (.int 0))) (.k (.str "num"))) [.asg 1 (.e (.call 83 [(.v 1), (.tup [(.idx (.v 3) (.k (.int 1))), (.idx (.v 3) (.k (.int 2)))])]))] [.asgU [4, 5] (.call 345 [(.v 3)]), .setv 2 (.v 4) (.ite (.inv (.v 4) 2) (.call 331 [(.lst [(.idx (.v 2) (.v 4)), (.v 5)])]) (.v 5))]], .cond (.cmp .Eq (.idx (.v 1) (.k (.int 0))) (.k (.int 0))) [.ret (.k (.tuple [(.str "num"), (.int 0), (.int 1)]))] [], .asgT [6, 7] [(.l []), (.e (.k (.bool true)))], .loop (.two 4 5) (.items 2) [] [.asg 8 (.e (.call 357 [(.v 4), (.v 5)])), .cond (.cmp .Eq (.idx (.v 8) (.k (.int 0))) (.k (.str "num"))) [.asg 1 (.e (.call 83 [(.v 1), (.tup [(.idx (.v 8) (.k (.int 1))), (.idx (.v 8) (.k (.int 2)))])]))] [.asg 7 (.e (.and [(.v 7), (.cmp .NotEq (.idx (.v 8) (.k (.int 0))) (.k (.str "prod"))), (.cmp .Eq (.idx (.call 345 [(.v 8)]) (.k (.int 0))) (.v 4))])), .app 6 (.v 8)]], .cond (.not (.v 7)) [.ret (.call 352 [(.bin .Add (.lst [(.call 305 [(.v 1)])]) (.v 6))])] [], .asg 6 (.e (.call 291 [(.v 6)])), .cond (.or [(.cmp .Eq (.len (.v 6)) (.k (.int 0))), (.cmp .Eq (.idx (.v 1) (.k (.int 0))) (.k (.int 0)))]) [.ret (.call 305 [(.v 1)])] [], .ret (.call 319 [(.v 1), (.ite (.cmp .Eq (.len (.v 6)) (.k (.int 1))) (.idx (.v 6) (.k (.int 0))) (.tup [(.k (.str "prod")), (.bif .tuple [(.v 6)])]))])]⟩
noncomputable def fc_power_of : FnC := ⟨2, 13, [.cond (.cmp .Eq (.v 1) (.k (.tuple [(.str "num"), (.int 0), (.int 1)]))) [.cond (.cmp .Eq (.v 0) (.k (.tuple [(.str "num"), (.int 0), (.int 1)]))) [.raise] [], .ret (.k (.tuple [(.str "num"), (.int 1), (.int 1)]))] [], .cond (.cmp .Eq (.v 1) (.k (.tuple [(.str "num"), (.int 1), (.int 1)]))) [.ret (.v 0)] [], .cond (.cmp .Eq (.v 0) (.k (.tuple [(.str "call"), (.str "exp"), (.tuple [(.tuple [(.str "num"), (.int 1), (.int 1)])])]))) [.ret (.call 418 [(.k (.str "exp")), (.lst [(.v 1)])])] [], .cond (.cmp .Eq (.idx (.v 0) (.k (.int 0))) (.k (.str "num"))) [.ret (.call 371 [(.v 0), (.v 1)])] [], .cond (.and [(.call 177 [(.v 1)]), (.cmp .Eq (.idx (.v 0) (.k (.int 0))) (.k (.str "prod")))]) [.ret (.call 352 [(.comp [none, none, none, some 1] (.one 1) .it [(.idx (.v 0) (.k (.int 1)))] [] (.call 357 [(.v 1), (.v 3)]))])] [], .cond (.and [(.call 177 [(.v 1)]), (.cmp .Eq (.idx (.v 0) (.k (.int 0))) (.k (.str "pow")))]) [.ret (.call 357 [(.idx (.v 0) (.k (.int 1))), (.call 352 [(.lst [(.idx (.v 0) (.k (.int 2))), (.v 1)])])])] [], .cond (.and [(.call 177 [(.v 1)]), (.call 338 [(.v 0), (.k (.str "exp"))])]) [.ret (.call 418 [(.k (.str "exp")), (.lst [(.call 352 [(.lst [(.idx (.idx (.v 0) (.k (.int 2))) (.k (.int 0))), (.v 1)])])])])] [], .cond (.and [(.cmp .Eq (.idx (.v 1) (.k (.int 0))) (.k (.str "num"))), (.or [(.cmp .In (.idx (.v 0) (.k (.int 0))) (.tup [(.k (.str "prod")), (.k (.str "pow"))])), (.call 338 [(.v 0), (.k (.str "exp"))])])]) [.ret (.call 364 [(.v 0), (.v 1)])] [], .ret (.tup [(.k (.str "pow")), (.v 0), (.v 1)])]⟩
noncomputable def fc_begins_below : FnC := ⟨1, 3, [.asg 1 (.e (.ite (.cmp .Eq (.idx (.v 0) (.k (.int 0))) (.k (.str "sum"))) (.idx (.idx (.v 0) (.k (.int 1))) (.k (.int 0))) (.v 0))), .ret (.cmp .Lt (.idx (.idx (.call 312 [(.v 1)]) (.k (.int 0))) (.k (.int 0))) (.k (.int 0)))]⟩
noncomputable def fc_exp_of : FnC := ⟨1, 16, [.cond (.cmp .Eq (.v 0) (.k (.tuple [(.str "num"), (.int 0), (.int 1)]))) [.ret (.k (.tuple [(.str "num"), (.int 1), (.int 1)]))] [], .asgT [1, 2] [(.l []), (.l [])], .loop (.one 3) .it [(.ite (.cmp .Eq (.idx (.v 0) (.k (.int 0))) (.k (.str "sum"))) (.idx (.v 0) (.k (.int 1))) (.tup [(.v 0)]))] [.asgU [4, 5] (.call 312 [(.v 3)]), .cond (.and [(.call 338 [(.v 5), (.k (.str "log"))]), (.cmp .Eq (.idx (.v 4) (.k (.int 1))) (.k (.int 1)))]) [.app 1 (.call 357 [(.idx (.idx (.v 5) (.k (.int 2))) (.k (.int 0))), (.call 305 [(.v 4)])])] [.app 2 (.v 3)]], .cond (.cmp .Eq (.len (.v 1)) (.k (.int 0))) [.ret (.tup [(.k (.str "call")), (.k (.str "exp")), (.tup [(.v 0)])])] [], .ret (.call 352 [(.bin .Add (.v 1) (.lst [(.call 397 [(.call 331 [(.v 2)])])]))])]⟩
noncomputable def fc_log_of : FnC := ⟨1, 5, [.cond (.cmp .Eq (.v 0) (.k (.tuple [(.str "num"), (.int 0), (.int 1)]))) [.raise] [], .cond (.cmp .Eq (.v 0) (.k (.tuple [(.str "num"), (.int 1), (.int 1)]))) [.ret (.k (.tuple [(.str "num"), (.int 0), (.int 1)]))] [], .cond (.call 338 [(.v 0), (.k (.str "exp"))]) [.ret (.idx (.idx (.v 0) (.k (.int 2))) (.k (.int 0)))] [], .ret (.tup [(.k (.str "call")), (.k (.str "log")), (.tup [(.v 0)])])]⟩
noncomputable def fc_call_of : FnC := ⟨2, 19, [.cond (.cmp .NotEq (.len (.v 1)) (.k (.int 1))) [.ret (.tup [(.k (.str "call")), (.v 0), (.bif .tuple [(.v 1)])])] [], .asg 2 (.e (.idx (.v 1) (.k (.int 0)))), .cond (.cmp .Eq (.v 0) (.k (.str "exp"))) [.ret (.call 397 [(.v 2)])] [], .cond (.cmp .Eq (.v 0) (.k (.str "log"))) [.ret (.call 404 [(.v 2)])] [], .cond (.cmp .Eq (.v 0) (.k (.str "sqrt"))) [.ret (.call 357 [(.v 2), (.k (.tuple [(.str "num"), (.int 1), (.int 2)]))])] [], .cond (.cmp .Eq (.v 0) (.k (.str "factorial"))) [.ret (.call 411 [(.v 2)])] [], .cond (.and [(.cmp .Eq (.v 0) (.k (.str "abs"))), (.cmp .Eq (.idx (.v 2) (.k (.int 0))) (.k (.str "num")))]) [.ret (.tup [(.k (.str "num")), (.bif .abs [(.idx (.v 2) (.k (.int 1)))]), (.idx (.v 2) (.k (.int 2)))])] [], .cond (.and [(.cmp .In (.v 0) (.k (.tuple [(.str "sin"), (.str "tan"), (.str "atan")]))), (.cmp .Eq (.v 2) (.k (.tuple [(.str "num"), (.int 0), (.int 1)])))]) [.ret (.k (.tuple [(.str "num"), (.int 0), (.int 1)]))] [], .cond (.and [(.cmp .Eq (.v 0) (.k (.str "cos"))), (.cmp .Eq (.v 2) (.k (.tuple [(.str "num"), (.int 0), (.int 1)])))]) [.ret (.k (.tuple [(.str "num"), (.int 1), (.int 1)]))] [], .cond (.and [(.cmp .In (.v 0) (.k (.tuple [(.str "sin"), (.str "tan"), (.str "atan")]))), (.call 385 [(.v 2)])]) [.ret (.call 352 [(.lst [(.k (.tuple [(.str "num"), (.int (-1)), (.int 1)])), (.call 418 [(.v 0), (.lst [(.call 390 [(.v 2)])])])])])] [], .cond (.and [(.cmp .In (.v 0) (.tup [(.k (.str "cos")), (.k (.str "abs"))])), (.call 385 [(.v 2)])]) [.ret (.call 418 [(.v 0), (.lst [(.call 390 [(.v 2)])])])] [], .ret (.tup [(.k (.str "call")), (.v 0), (.tup [(.v 2)])])]⟩
noncomputable def fc_simplify : FnC := ⟨1, 11, [.asg 1 (.e (.idx (.v 0) (.k (.int 0)))), .cond (.cmp .Eq (.v 1) (.k (.str "num"))) [.ret (.call 305 [(.call 69 [(.idx (.v 0) (.k (.int 1))), (.idx (.v 0) (.k (.int 2)))])])] [], .cond (.cmp .Eq (.v 1) (.k (.str "sym"))) [.ret (.v 0)] [], .cond (.cmp .Eq (.v 1) (.k (.str "pow"))) [.ret (.call 357 [(.call 423 [(.idx (.v 0) (.k (.int 1)))]), (.call 423 [(.idx (.v 0) (.k (.int 2)))])])] [], .cond (.cmp .Eq (.v 1) (.k (.str "call"))) [.ret (.call 418 [(.idx (.v 0) (.k (.int 1))), (.comp [none, none, none] (.one 1) .it [(.idx (.v 0) (.k (.int 2)))] [] (.call 423 [(.v 1)]))])] [], .cond (.cmp .Eq (.v 1) (.k (.str "eq"))) [.ret (.tup [(.k (.str "eq")), (.call 423 [(.idx (.v 0) (.k (.int 1)))]), (.call 423 [(.idx (.v 0) (.k (.int 2)))])])] [], .asgC 2 (.comp [none, none, none] (.one 1) .it [(.idx (.v 0) (.k (.int 1)))] [] (.call 423 [(.v 1)])), .cond (.cmp .Eq (.v 1) (.k (.str "sum"))) [.ret (.call 331 [(.v 2)])] [], .ret (.ite (.cmp .Eq (.v 1) (.k (.str "prod"))) (.call 352 [(.v 2)]) (.tup [(.k (.str "list")), (.bif .tuple [(.v 2)])]))]⟩
noncomputable def fc_call_slope : FnC := ⟨2, 10, [.cond (.cmp .Eq (.v 0) (.k (.str "exp"))) [.ret (.call 149 [(.k (.str "exp")), (.lst [(.v 1)])])] [], .cond (.cmp .Eq (.v 0) (.k (.str "log"))) [.ret (.call 142 [(.v 1), (.k (.tuple [(.str "num"), (.int (-1)), (.int 1)]))])] [], .cond (.cmp .Eq (.v 0) (.k (.str "sin"))) [.ret (.call 149 [(.k (.str "cos")), (.lst [(.v 1)])])] [], .cond (.cmp .Eq (.v 0) (.k (.str "cos"))) [.ret (.call 135 [(.lst [(.k (.tuple [(.str "num"), (.int (-1)), (.int 1)])), (.call 149 [(.k (.str "sin")), (.lst [(.v 1)])])])])] [], .cond (.cmp .Eq (.v 0) (.k (.str "tan"))) [.ret (.call 439 [(.call 149 [(.k (.str "tan")), (.lst [(.v 1)])])])] [], .cond (.cmp .Eq (.v 0) (.k (.str "atan"))) [.ret (.call 142 [(.call 439 [(.v 1)]), (.k (.tuple [(.str "num"), (.int (-1)), (.int 1)]))])] [], .cond (.cmp .Eq (.v 0) (.k (.str "asin"))) [.ret (.call 142 [(.call 432 [(.v 1)]), (.call 114 [(.neg (.k (.int 1))), (.k (.int 2))])])] [], .cond (.cmp .Eq (.v 0) (.k (.str "acos"))) [.ret (.call 135 [(.lst [(.k (.tuple [(.str "num"), (.int (-1)), (.int 1)])), (.call 142 [(.call 432 [(.v 1)]), (.call 114 [(.neg (.k (.int 1))), (.k (.int 2))])])])])] [], .cond (.cmp .Eq (.v 0) (.k (.str "sinh"))) [.ret (.call 149 [(.k (.str "cosh")), (.lst [(.v 1)])])] [], .cond (.cmp .Eq (.v 0) (.k (.str "cosh"))) [.ret (.call 149 [(.k (.str "sinh")), (.lst [(.v 1)])])] [], .cond (.cmp .Eq (.v 0) (.k (.str "tanh"))) [.ret (.call 432 [(.call 149 [(.k (.str "tanh")), (.lst [(.v 1)])])])] [], .cond (.cmp .Eq (.v 0) (.k (.str "sqrt"))) [.ret (.call 135 [(.lst [(.k (.tuple [(.str "num"), (.int 1), (.int 2)])), (.call 142 [(.v 1), (.call 114 [(.neg (.k (.int 1))), (.k (.int 2))])])])])] [], .ret (.k .none)]⟩
noncomputable def fc_product_slope : FnC := ⟨2, 16, [.asgT [3, 4] [(.l []), (.e (.len (.comp [none, none, none, some 1] (.one 1) .it [(.v 0)] [(.call 208 [(.v 1), (.v 3)])] (.k (.int 1)))))], .cond (.cmp .Gt (.bin .Mult (.len (.v 0)) (.v 4)) (.k (.int 100000))) [.raise] [], .loop (.two 5 2) .enum [(.v 0)] [.asg 6 (.e (.call 463 [(.v 2), (.v 1)])), .cond (.cmp .NotEq (.v 6) (.k (.tuple [(.str "num"), (.int 0), (.int 1)]))) [.app 3 (.call 135 [(.bin .Add (.bin .Add (.bif .list [(.upto (.v 0) (.v 5))]) (.lst [(.v 6)])) (.bif .list [(.from (.v 0) (.bin .Add (.v 5) (.k (.int 1))))]))])] []], .ret (.call 128 [(.v 3)])]⟩
noncomputable def fc_power_slope : FnC := ⟨2, 14, [.asgT [2, 3] [(.e (.idx (.v 0) (.k (.int 1)))), (.e (.idx (.v 0) (.k (.int 2))))], .cond (.not (.call 208 [(.v 3), (.v 1)])) [.asg 4 (.e (.call 142 [(.v 2), (.call 128 [(.lst [(.v 3), (.k (.tuple [(.str "num"), (.int (-1)), (.int 1)]))])])])), .ret (.call 135 [(.lst [(.v 3), (.v 4), (.call 463 [(.v 2), (.v 1)])])])] [], .asg 5 (.e (.call 135 [(.lst [(.v 0), (.call 149 [(.k (.str "log")), (.lst [(.v 2)])]), (.call 463 [(.v 3), (.v 1)])])])), .cond (.not (.call 208 [(.v 2), (.v 1)])) [.ret (.v 5)] [], .ret (.call 128 [(.lst [(.v 5), (.call 135 [(.lst [(.v 0), (.v 3), (.call 156 [(.call 463 [(.v 2), (.v 1)]), (.v 2)])])])])])]⟩
noncomputable def fc_slope_of : FnC := ⟨2, 17, [.asg 2 (.e (.idx (.v 0) (.k (.int 0)))), .cond (.not (.call 208 [(.v 0), (.v 1)])) [.ret (.k (.tuple [(.str "num"), (.int 0), (.int 1)]))] [], .cond (.cmp .Eq (.v 2) (.k (.str "sym"))) [.ret (.k (.tuple [(.str "num"), (.int 1), (.int 1)]))] [], .cond (.cmp .Eq (.v 2) (.k (.str "sum"))) [.ret (.call 128 [(.comp [none, none, none, none, some 1] (.one 1) .it [(.idx (.v 0) (.k (.int 1)))] [(.call 208 [(.v 1), (.v 4)])] (.call 463 [(.v 1), (.v 4)]))])] [], .cond (.cmp .Eq (.v 2) (.k (.str "prod"))) [.ret (.call 451 [(.idx (.v 0) (.k (.int 1))), (.v 1)])] [], .cond (.cmp .Eq (.v 2) (.k (.str "pow"))) [.ret (.call 458 [(.v 0), (.v 1)])] [], .cond (.cmp .Eq (.v 2) (.k (.str "call"))) [.asg 3 (.e (.ite (.cmp .Eq (.len (.idx (.v 0) (.k (.int 2)))) (.k (.int 1))) (.call 446 [(.idx (.v 0) (.k (.int 1))), (.idx (.idx (.v 0) (.k (.int 2))) (.k (.int 0)))]) (.k .none))), .ret (.ite (.isN (.v 3)) (.call 149 [(.k (.str "diff")), (.lst [(.v 0), (.call 121 [(.v 1)])])]) (.call 135 [(.lst [(.v 3), (.call 463 [(.idx (.idx (.v 0) (.k (.int 2))) (.k (.int 0))), (.v 1)])])]))] [], .cond (.cmp .Eq (.v 2) (.k (.str "eq"))) [.ret (.tup [(.k (.str "eq")), (.call 463 [(.idx (.v 0) (.k (.int 1))), (.v 1)]), (.call 463 [(.idx (.v 0) (.k (.int 2))), (.v 1)])])] [], .ret (.tup [(.k (.str "list")), (.bif .tuple [(.comp [none, none, none, some 1] (.one 1) .it [(.idx (.v 0) (.k (.int 1)))] [] (.call 463 [(.v 1), (.v 3)]))])])]⟩
noncomputable def fc_derive_term : FnC := ⟨2, 4, [.ret (.call 423 [(.call 463 [(.call 423 [(.v 0)]), (.v 1)])])]⟩
noncomputable def fc_derive_up_to : FnC := ⟨4, 13, [.asgT [4, 5] [(.e (.call 423 [(.v 0)])), (.e (.k (.int 0)))], .whl (.cmp .Lt (.v 5) (.v 2)) [.asg 6 (.e (.call 470 [(.v 4), (.v 1)])), .cond (.cmp .Eq (.v 6) (.v 4)) [.ret (.v 4)] [], .cond (.or [(.cmp .GtE (.v 5) (.v 3)), (.call 196 [(.v 6), (.k (.int 120)), (.k (.int 20000))])]) [.raise] [], .asgT [4, 5] [(.e (.v 6)), (.e (.bin .Add (.v 5) (.k (.int 1))))]], .ret (.v 4)]⟩
noncomputable def fc_derive_many : FnC := ⟨3, 5, [.ret (.call 477 [(.v 0), (.v 1), (.v 2), (.k (.int 1000))])]⟩
noncomputable def fc_l_take : FnC := ⟨2, 4, [.setv 0 (.k (.int 1)) (.bin .Add (.idx (.v 0) (.k (.int 1))) (.k (.int 1))), .cond (.cmp .LtE (.idx (.v 0) (.k (.int 1))) (.len (.idx (.v 0) (.k (.int 0))))) [.ret (.bin .Mod (.bif .abs [(.idx (.idx (.v 0) (.k (.int 0))) (.bin .Sub (.idx (.v 0) (.k (.int 1))) (.k (.int 1))))]) (.v 1))] [], .ret (.bin .Mod (.bin .Add (.bin .Mult (.k (.int 5)) (.idx (.v 0) (.k (.int 1)))) (.bin .FloorDiv (.idx (.v 0) (.k (.int 1))) (.k (.int 3)))) (.v 1))]⟩
noncomputable def fc_l_under : FnC := ⟨1, 1, [.ret (.bin .Mod (.bin .Pow (.v 0) (.k (.int 249))) (.k (.int 251)))]⟩
noncomputable def fc_l_call : FnC := ⟨2, 3, [.asg 2 (.ds ["sin", "cos", "log", "exp", "sinh", "cosh"] [(.bin .Mult (.k (.int 2)) (.v 1)), (.bin .Add (.k (.int 1)) (.bin .Mult (.v 1) (.v 1))), (.bin .Sub (.v 1) (.k (.int 1))), (.bin .Add (.k (.int 1)) (.bin .Mult (.k (.int 3)) (.v 1))), (.bin .Add (.bin .Mult (.k (.int 7)) (.v 1)) (.k (.int 2))), (.bin .Add (.bin .Mult (.v 1) (.v 1)) (.k (.int 5)))]), .ret (.bin .Mod (.idx (.v 2) (.v 0)) (.k (.int 251)))]⟩
noncomputable def fc_l_value : FnC := ⟨2, 10, [.cond (.cmp .Eq (.idx (.v 0) (.k (.int 0))) (.k (.str "num"))) [.ret (.bin .Mod (.bin .Mult (.idx (.v 0) (.k (.int 1))) (.call 499 [(.idx (.v 0) (.k (.int 2)))])) (.k (.int 251)))] [], .cond (.cmp .Eq (.idx (.v 0) (.k (.int 0))) (.k (.str "sym"))) [.ret (.v 1)] [], .cond (.cmp .Eq (.idx (.v 0) (.k (.int 0))) (.k (.str "call"))) [.ret (.call 506 [(.idx (.v 0) (.k (.int 1))), (.call 513 [(.idx (.idx (.v 0) (.k (.int 2))) (.k (.int 0))), (.v 1)])])] [], .cond (.cmp .Eq (.idx (.v 0) (.k (.int 0))) (.k (.str "pow"))) [.asgT [2, 3] [(.e (.call 513 [(.idx (.v 0) (.k (.int 1))), (.v 1)])), (.e (.idx (.idx (.v 0) (.k (.int 2))) (.k (.int 1))))], .ret (.ite (.cmp .Gt (.v 3) (.k (.int 0))) (.bin .Mod (.bin .Pow (.v 2) (.v 3)) (.k (.int 251))) (.bin .Mod (.bin .Pow (.call 499 [(.v 2)]) (.bin .Sub (.k (.int 0)) (.v 3))) (.k (.int 251))))] [], .asg 4 (.e (.ite (.cmp .Eq (.idx (.v 0) (.k (.int 0))) (.k (.str "sum"))) (.k (.int 0)) (.k (.int 1)))), .loop (.one 5) .it [(.idx (.v 0) (.k (.int 1)))] [.asg 6 (.e (.call 513 [(.v 5), (.v 1)])), .asg 4 (.e (.bin .Mod (.ite (.cmp .Eq (.idx (.v 0) (.k (.int 0))) (.k (.str "sum"))) (.bin .Add (.v 4) (.v 6)) (.bin .Mult (.v 4) (.v 6))) (.k (.int 251))))], .ret (.v 4)]⟩
noncomputable def fc_l_factor : FnC := ⟨2, 4, [.cond (.cmp .In (.v 0) (.tup [(.k (.str "log")), (.k (.str "by"))])) [.asg 2 (.e (.tup [(.k (.str "sum")), (.tup [(.k (.tuple [(.str "sym"), (.str "x")])), (.tup [(.k (.str "num")), (.v 1), (.k (.int 1))])])])), .ret (.ite (.cmp .Eq (.v 0) (.k (.str "log"))) (.tup [(.k (.str "call")), (.k (.str "log")), (.tup [(.v 2)])]) (.tup [(.k (.str "pow")), (.v 2), (.tup [(.k (.str "num")), (.neg (.k (.int 1))), (.k (.int 1))])]))] [], .ret (.tup [(.k (.str "call")), (.v 0), (.tup [(.tup [(.k (.str "prod")), (.tup [(.tup [(.k (.str "num")), (.v 1), (.k (.int 1))]), (.k (.tuple [(.str "sym"), (.str "x")]))])])])])]⟩
noncomputable def fc_l_slopes : FnC := ⟨4, 15, [.cond (.cmp .In (.v 0) (.tup [(.k (.str "log")), (.k (.str "by"))])) [.asg 4 (.e (.call 499 [(.bin .Add (.v 2) (.v 1))])), .asg 5 (.l [(.v 4)]), .loop (.one 6) .range2 [(.k (.int 1)), (.bin .Add (.v 3) (.k (.int 1)))] [.app 5 (.bin .Sub (.k (.int 0)) (.bin .Mult (.bin .Mult (.v 6) (.idx (.v 5) (.neg (.k (.int 1))))) (.v 4)))], .ret (.ite (.cmp .Eq (.v 0) (.k (.str "by"))) (.v 5) (.bin .Add (.lst [(.call 506 [(.k (.str "log")), (.bin .Add (.v 2) (.v 1))])]) (.upto (.v 5) (.v 3))))] [], .asg 7 (.ds ["sin", "cos", "exp", "sinh"] [(.lst [(.tup [(.k (.str "sin")), (.k (.int 1))]), (.tup [(.k (.str "cos")), (.k (.int 1))]), (.tup [(.k (.str "sin")), (.neg (.k (.int 1)))]), (.tup [(.k (.str "cos")), (.neg (.k (.int 1)))])]), (.lst [(.tup [(.k (.str "cos")), (.k (.int 1))]), (.tup [(.k (.str "sin")), (.neg (.k (.int 1)))]), (.tup [(.k (.str "cos")), (.neg (.k (.int 1)))]), (.tup [(.k (.str "sin")), (.k (.int 1))])]), (.lst [(.tup [(.k (.str "exp")), (.k (.int 1))])]), (.lst [(.tup [(.k (.str "sinh")), (.k (.int 1))]), (.tup [(.k (.str "cosh")), (.k (.int 1))])])]), .asgT [8, 5] [(.e (.idx (.v 7) (.v 0))), (.l [])], .loop (.one 6) .range1 [(.bin .Add (.v 3) (.k (.int 1)))] [.asgU [9, 10] (.idx (.v 8) (.bin .Mod (.v 6) (.len (.v 8)))), .app 5 (.bin .Mult (.bin .Mult (.v 10) (.bin .Pow (.v 1) (.v 6))) (.call 506 [(.v 9), (.bin .Mult (.v 1) (.v 2))]))], .ret (.v 5)]⟩
noncomputable def fc_l_powers : FnC := ⟨3, 9, [.asgT [3, 4] [(.l []), (.e (.k (.int 1)))], .loop (.one 5) .range1 [(.bin .Add (.v 2) (.k (.int 1)))] [.asg 6 (.e (.bin .Sub (.v 0) (.v 5))), .app 3 (.bin .Mult (.v 4) (.ite (.cmp .GtE (.v 6) (.k (.int 0))) (.bin .Pow (.v 1) (.v 6)) (.bin .Pow (.call 499 [(.v 1)]) (.bin .Sub (.k (.int 0)) (.v 6))))), .asg 4 (.e (.bin .Mult (.v 4) (.v 6)))], .ret (.v 3)]⟩
noncomputable def fc_law : FnC := ⟨1, 26, [.asg 1 (.l [(.bif .list [(.upto (.v 0) (.k (.int 6)))]), (.k (.int 0))]), .asgT [2, 3] [(.e (.take 1 (.k (.int 8)))), (.e (.idx (.tup [(.k (.str "sin")), (.k (.str "cos")), (.k (.str "log")), (.k (.str "by")), (.k (.str "exp")), (.k (.str "sinh"))]) (.take 1 (.k (.int 6)))))], .asgT [4, 5] [(.e (.bin .Add (.k (.int 1)) (.take 1 (.k (.int 3))))), (.e (.bin .Add (.k (.int 1)) (.take 1 (.k (.int 3)))))], .asg 6 (.e (.ite (.cmp .Gt (.v 2) (.k (.int 3))) (.idx (.tup [(.k (.int 1)), (.k (.int 3)), (.k (.int 2))]) (.take 1 (.k (.int 3)))) (.bin .Add (.k (.int 1)) (.take 1 (.k (.int 2)))))), .asg 7 (.e (.bin .Add (.k (.int 1)) (.take 1 (.k (.int 9))))), .cond (.cmp .Gt (.v 2) (.k (.int 3))) [.asg 8 (.e (.idx (.tup [(.k (.int 3)), (.k (.int 2)), (.neg (.k (.int 1))), (.k (.int 1))]) (.bin .Sub (.v 2) (.k (.int 4))))), .asgT [9, 10] [(.e (.ite (.cmp .NotEq (.v 8) (.k (.int 1))) (.tup [(.k (.str "pow")), (.k (.tuple [(.str "sym"), (.str "x")])), (.tup [(.k (.str "num")), (.v 8), (.k (.int 1))])]) (.k (.tuple [(.str "sym"), (.str "x")])))), (.e (.call 534 [(.v 8), (.v 7), (.v 6)]))]] [.asg 11 (.e (.idx (.tup [(.k (.str "log")), (.k (.str "by")), (.k (.str "sin")), (.k (.str "cos"))]) (.v 2))), .asgT [9, 10] [(.e (.call 520 [(.v 11), (.v 5)])), (.e (.call 527 [(.v 11), (.v 5), (.v 7), (.v 6)]))]], .asgT [12, 13, 14] [(.e (.call 527 [(.v 3), (.v 4), (.v 7), (.v 6)])), (.e (.k (.int 0))), (.e (.k (.int 1)))], .loop (.one 15) .range1 [(.bin .Add (.v 6) (.k (.int 1)))] [.asg 13 (.e (.bin .Add (.v 13) (.bin .Mult (.bin .Mult (.v 14) (.idx (.v 10) (.v 15))) (.idx (.v 12) (.bin .Sub (.v 6) (.v 15)))))), .asg 14 (.e (.bin .FloorDiv (.bin .Mult (.v 14) (.bin .Sub (.v 6) (.v 15))) (.bin .Add (.v 15) (.k (.int 1)))))], .asg 16 (.e (.call 484 [(.tup [(.k (.str "prod")), (.tup [(.v 9), (.call 520 [(.v 3), (.v 4)])])]), (.k (.str "x")), (.v 6)])), .ret (.cmp .Eq (.call 513 [(.v 16), (.v 7)]) (.bin .Mod (.v 13) (.k (.int 251))))]⟩
noncomputable def fcs : List (Nat × FnC) := [(41, fc_gcd), (48, fc_bits_of), (69, fc_rat), (76, fc_radd), (83, fc_rmul), (128, fc_t_sum), (135, fc_t_prod), (142, fc_t_pow), (149, fc_t_call), (163, fc_is_num), (170, fc_num_of), (177, fc_is_whole_num), (184, fc_inner_terms), (191, fc_all_terms), (196, fc_is_too_great), (201, fc_free_letters), (208, fc_contains_letter), (216, fc_sign_between), (223, fc_compare_values), (228, fc_bare_factors), (235, fc_front_value), (242, fc_base_and_exponent), (249, fc_compare_rows), (256, fc_compare_exponents), (263, fc_compare_bases), (270, fc_compare_factors), (277, fc_compare_terms), (284, fc_merged_terms), (291, fc_sort_terms), (305, fc_number_term), (312, fc_number_and_rest), (319, fc_with_number), (326, fc_flat_parts), (331, fc_gathered_sum), (338, fc_is_one_call), (345, fc_as_power), (352, fc_gathered_product), (357, fc_power_of), (385, fc_begins_below), (397, fc_exp_of), (404, fc_log_of), (418, fc_call_of), (423, fc_simplify), (446, fc_call_slope), (451, fc_product_slope), (458, fc_power_slope), (463, fc_slope_of), (470, fc_derive_term), (477, fc_derive_up_to), (484, fc_derive_many), (492, fc_l_take), (499, fc_l_under), (506, fc_l_call), (513, fc_l_value), (520, fc_l_factor), (527, fc_l_slopes), (534, fc_l_powers)]
noncomputable def fcOf (f : FN) : Option FnC := lookA f fcs
noncomputable def Kn : Nat → Or
  | 0 => ⟨fun _ _ => none, fun _ _ => none⟩
  | n + 1 => ⟨fun f args => match fcOf f with
      | some fc => runF (Kn n) fc args
      | none => none, fun xs y => runT (Kn n) fc_l_take xs y⟩
mutual
noncomputable def fine : PyData → Bool
  | .none => true
  | .bool _ => true
  | .int _ => true
  | .str x => PyData.strOk x
  | .tuple xs => lenOk xs && fines xs
  | .list xs => lenOk xs && fines xs
  | .dict _ => false
noncomputable def fines : List PyData → Bool
  | [] => true
  | x :: r => fine x && fines r
end
mutual
theorem fine_lay : ∀ d : PyData, fine d = true → d.canLay0 = true
  | .none, _ => rfl
  | .bool _, _ => rfl
  | .int _, _ => rfl
  | .str x, h => by simpa [fine, PyData.canLay0] using h
  | .tuple xs, h => by
    simp only [fine, Bool.and_eq_true] at h
    simpa [PyData.canLay0] using fines_lay xs h.2
  | .list xs, h => by
    simp only [fine, Bool.and_eq_true] at h
    simpa [PyData.canLay0] using fines_lay xs h.2
  | .dict _, h => by simp [fine] at h
theorem fines_lay : ∀ xs : List PyData, fines xs = true → PyData.canLayAll0 xs = true
  | [], _ => rfl
  | x :: r, h => by
    simp only [fines, Bool.and_eq_true] at h
    simp [PyData.canLayAll0, fine_lay x h.1, fines_lay r h.2]
end
theorem fines_mem {xs : List PyData} (h : fines xs = true) : ∀ x ∈ xs, fine x = true := by
  induction xs with
  | nil => intro x hx; cases hx
  | cons y r ih =>
    simp only [fines, Bool.and_eq_true] at h
    intro x hx
    rcases List.mem_cons.mp hx with rfl | hx
    · exact h.1
    · exact ih h.2 x hx
theorem fines_of {xs : List PyData} (h : ∀ x ∈ xs, fine x = true) : fines xs = true := by
  induction xs with
  | nil => simp [fines]
  | cons y r ih => simp only [fines, Bool.and_eq_true]; exact ⟨h y (.head _), ih fun x hx => h x (.tail _ hx)⟩
noncomputable def RD (h : Heap) (v : Value) (d : PyData) : Prop := (∃ as, Reads h v d as) ∧ fine d = true
inductive RDs (h : Heap) : List Value → List PyData → Prop
  | nil : RDs h [] []
  | cons {v : Value} {d : PyData} {vs : List Value} {ds : List PyData} : RD h v d → RDs h vs ds → RDs h (v :: vs) (d :: ds)
theorem RDs.one_inv {h : Heap} {vs : List Value} {d : PyData} (r : RDs h vs [d]) : ∃ v, vs = [v] ∧ RD h v d := by
  cases r with
  | cons a r => cases r; exact ⟨_, rfl, a⟩
theorem RDs.two_inv {h : Heap} {vs : List Value} {d e : PyData} (r : RDs h vs [d, e]) : ∃ v u, vs = [v, u] ∧ RD h v d ∧ RD h u e := by
  cases r with
  | cons a r => exact e12 r.one_inv fun u eq0 b => eq0 ▸ ⟨_, u, rfl, a, b⟩
section
variable {h h' : Heap} {v : Value} {d : PyData} {vs us : List Value} {ds es : List PyData}
theorem RD.keeps (k : h.StaysIn h') (r : RD h v d) : RD h' v d := ⟨let ⟨as, q⟩ := r.1; ⟨as, Reads.keeps k q⟩, r.2⟩
theorem RDs.keeps (k : h.StaysIn h') (r : RDs h vs ds) : RDs h' vs ds := by
  induction r with
  | nil => exact .nil
  | cons h1 _ ih => exact .cons (h1.keeps k) ih
theorem RDs.length (r : RDs h vs ds) : vs.length = ds.length := by
  induction r with
  | nil => rfl
  | cons _ _ ih => simp [ih]
theorem RDs.reads (r : RDs h vs ds) : (∃ as, ReadsAll h vs ds as) ∧ fines ds = true := by
  induction r with
  | nil => exact ⟨⟨_, .nil⟩, rfl⟩
  | cons h1 _ ih =>
    obtain ⟨⟨as, q⟩, f⟩ := h1
    obtain ⟨⟨bs, p⟩, g⟩ := ih
    exact ⟨⟨_, .cons q p⟩, by simp [fines, f, g]⟩
theorem RDs.of_reads : ∀ {vs : List Value} {ds : List PyData} {as : List Addr}, ReadsAll h vs ds as → fines ds = true → RDs h vs ds
  | _, _, _, .nil, _ => .nil
  | _, _, _, .cons r t, f => by
    simp only [fines, Bool.and_eq_true] at f
    exact .cons ⟨⟨_, r⟩, f.1⟩ (RDs.of_reads t f.2)
theorem RDs.append (r : RDs h vs ds) (q : RDs h us es) : RDs h (vs ++ us) (ds ++ es) := by
  induction r with
  | nil => exact q
  | cons h1 _ ih => exact .cons h1 ih
theorem RDs.get (r : RDs h vs ds) {k : Nat} {d : PyData} (hk : ds[k]? = some d) : ∃ v, vs[k]? = some v ∧ RD h v d := by
  induction r generalizing k with
  | nil => exact noS hk
  | cons h1 _ ih =>
    cases k with
    | zero => simp only [List.getElem?_cons_zero, Option.some.injEq] at hk; subst hk; exact ⟨_, rfl, h1⟩
    | succ k => simp only [List.getElem?_cons_succ] at hk ⊢; exact ih hk
theorem RDs.take (r : RDs h vs ds) : ∀ k : Nat, RDs h (vs.take k) (ds.take k) := by
  induction r with
  | nil => intro k; simp only [List.take_nil]; exact .nil
  | cons h1 _ ih =>
    intro k
    cases k with
    | zero => exact .nil
    | succ k => exact .cons h1 (ih k)
theorem RDs.drop (r : RDs h vs ds) : ∀ k : Nat, RDs h (vs.drop k) (ds.drop k) := by
  induction r with
  | nil => intro k; simp only [List.drop_nil]; exact .nil
  | cons h1 h2 ih =>
    intro k
    cases k with
    | zero => exact .cons h1 h2
    | succ k => exact ih k
theorem RDs.snoc (r : RDs h vs ds) (q : RD h v d) : RDs h (vs ++ [v]) (ds ++ [d]) := r.append (.cons q .nil)
theorem RDs.reverse (r : RDs h vs ds) : RDs h vs.reverse ds.reverse := by
  induction r with
  | nil => exact .nil
  | cons h1 _ ih => simp only [List.reverse_cons]; exact ih.snoc h1
theorem RDs.set (r : RDs h vs ds) (q : RD h v d) : ∀ k : Nat, RDs h (vs.set k v) (ds.set k d) := by
  induction r with
  | nil => intro k; exact .nil
  | cons h1 h2 ih =>
    intro k
    cases k with
    | zero => exact .cons q h2
    | succ k => exact .cons h1 (ih k)
theorem RDs.dropLast (r : RDs h vs ds) : RDs h vs.dropLast ds.dropLast := by
  have := r.take (vs.length - 1)
  rw [List.dropLast_eq_take, List.dropLast_eq_take, ← r.length]
  exact this
noncomputable def SeqIs (h : Heap) (a : Addr) (T : String) (vs : List Value) : Prop := ∃ o, h.get? a = some o ∧ o.cls = .type T ∧ ∃ n, o.data = .seq vs.toArray n
theorem SeqIs.keeps {a : Addr} {T : String} (k : h.StaysIn h') (x : SeqIs h a T vs) : SeqIs h' a T vs := let ⟨o, ho, r⟩ := x; ⟨o, k _ _ ho, r⟩
theorem SeqIs.isList {a : Addr} (x : SeqIs h a "list" vs) : h.IsList a vs.toArray := x
theorem SeqIs.isTup {a : Addr} (x : SeqIs h a "tuple" vs) : IsTup h a vs.toArray := x
theorem RD.tuple_inv {xs : List PyData} (r : RD h v (.tuple xs)) : ∃ a vs, v = .ref a ∧ SeqIs h a "tuple" vs ∧ RDs h vs xs ∧ lenOk xs = true := by
  obtain ⟨⟨as, q⟩, f⟩ := r
  simp only [fine, Bool.and_eq_true] at f
  cases q with
  | tuple ho hc hd hi => exact ⟨_, _, rfl, ⟨_, ho, hc, _, by rw [hd, Array.toArray_toList]⟩, .of_reads hi f.2, f.1⟩
theorem RD.list_inv {xs : List PyData} (r : RD h v (.list xs)) : ∃ a vs, v = .ref a ∧ SeqIs h a "list" vs ∧ RDs h vs xs ∧ lenOk xs = true := by
  obtain ⟨⟨as, q⟩, f⟩ := r
  simp only [fine, Bool.and_eq_true] at f
  cases q with
  | list ho hc hd hi => exact ⟨_, _, rfl, ⟨_, ho, hc, _, by rw [hd, Array.toArray_toList]⟩, .of_reads hi f.2, f.1⟩
theorem RD.int_inv {i : Int} (r : RD h v (.int i)) : ∃ t, v = .int i t := by
  obtain ⟨⟨as, q⟩, f⟩ := r; cases q; exact ⟨_, rfl⟩
theorem RD.str_inv {i : Str} (r : RD h v (.str i)) : (∃ t, v = .str i t) ∧ PyData.strOk i = true := by
  obtain ⟨⟨as, q⟩, f⟩ := r; cases q; exact ⟨⟨_, rfl⟩, by simpa [fine] using f⟩
theorem RD.bool_inv {b : Bool} (r : RD h v (.bool b)) : v = .bool b := by
  obtain ⟨⟨as, q⟩, f⟩ := r; cases q; rfl
theorem RD.none_inv (r : RD h v .none) : v = .none := by
  obtain ⟨⟨as, q⟩, f⟩ := r; cases q; rfl
theorem RD.int (i : Int) (t : Tok) : RD h (.int i t) (.int i) := ⟨⟨_, .int i t⟩, rfl⟩
theorem RD.str {x : Str} (t : Tok) (hx : PyData.strOk x = true) : RD h (.str x t) (.str x) := ⟨⟨_, .str x t⟩, by simp [fine, hx]⟩
theorem RD.bool (b : Bool) : RD h (.bool b) (.bool b) := ⟨⟨_, .bool b⟩, rfl⟩
theorem RD.none : RD h .none .none := ⟨⟨_, .none⟩, rfl⟩
theorem RD.tuple {a : Addr} (x : SeqIs h a "tuple" vs) (r : RDs h vs ds) (l : lenOk ds = true) : RD h (.ref a) (.tuple ds) := by
  obtain ⟨o, ho, hc, n, hd⟩ := x
  obtain ⟨⟨as, q⟩, f⟩ := r.reads
  exact ⟨⟨_, reads_tuple_at ho hc hd (by simpa using q)⟩, by simp [fine, l, f]⟩
theorem RD.list {a : Addr} (x : SeqIs h a "list" vs) (r : RDs h vs ds) (l : lenOk ds = true) : RD h (.ref a) (.list ds) := by
  obtain ⟨o, ho, hc, n, hd⟩ := x
  obtain ⟨⟨as, q⟩, f⟩ := r.reads
  exact ⟨⟨_, reads_list_at ho hc hd (by simpa using q)⟩, by simp [fine, l, f]⟩
end
theorem lenOk_le {α : Type} {l : List α} : lenOk l = true ↔ l.length ≤ 1048576 := by exact ⟨Nat.le_of_ble_eq_true, Nat.ble_eq_true_of_le⟩
theorem lenOk_of_le {α β : Type} {l : List α} {m : List β} (h : lenOk l = true) (hl : m.length ≤ l.length) : lenOk m = true := lenOk_le.mpr (Nat.le_trans hl (lenOk_le.mp h))
open Classical in
noncomputable def keepOnly (h : Heap) (P : Addr → Prop) : Heap := { h with objs := h.objs.mapIdx fun i o => if P i then o else { o with data := .freed } }
open Classical in
theorem keepOnly_get (h : Heap) (P : Addr → Prop) (a : Addr) : (keepOnly h P).get? a = if P a then h.get? a else none := by
  unfold keepOnly Heap.get?
  simp only [Array.getElem?_mapIdx]
  by_cases hp : P a
  · simp only [hp, if_true, Option.map_id']
  · simp only [hp, if_false]
    cases e : h.objs[a]? with
    | none => rfl
    | some o => rfl
theorem keepOnly_some {h : Heap} {P : Addr → Prop} {a : Addr} {o : Obj} (hp : P a) (e : h.get? a = some o) : (keepOnly h P).get? a = some o := by rw [keepOnly_get, if_pos hp, e]
theorem keepOnly_none {h : Heap} {P : Addr → Prop} {a : Addr} (hp : ¬ P a) : (keepOnly h P).get? a = none := by rw [keepOnly_get, if_neg hp]
theorem of_keepOnly {h : Heap} {P : Addr → Prop} {a : Addr} {o : Obj} (e : (keepOnly h P).get? a = some o) : P a ∧ h.get? a = some o := by
  rw [keepOnly_get] at e
  split at e
  · exact ⟨by assumption, e⟩
  · exact noS e
structure Inv (h₀ : Heap) (L : Addr) (m : Str → Option Value) (ow : Nat → Option (Addr × Obj)) (ex : Addr → Option Obj) (S h : Heap) : Prop where
  ns : h.Ns L m
  base : h₀.StaysIn S
  stay : S.StaysIn h
  offL : S.get? L = none
  own : ∀ i a o, ow i = some (a, o) → h.get? a = some o ∧ a ≠ L ∧ S.get? a = none ∧ ex a = none
  inj : ∀ i j a o o', ow i = some (a, o) → ow j = some (a, o') → i = j
  ext : ∀ a o, ex a = some o → h.get? a = some o ∧ a ≠ L ∧ S.get? a = none
  top : sysModules < L
theorem StaysIn.refl (h : Heap) : h.StaysIn h := fun _ _ e => e
theorem StaysIn.trans {a b c : Heap} (x : a.StaysIn b) (y : b.StaysIn c) : a.StaysIn c := fun p o e => y p o (x p o e)
section
variable {h₀ h : Heap} {L : Addr} {m : Str → Option Value} {own : Nat → Option (Addr × Obj)} {ext : Addr → Option Obj} {S : Heap}
theorem Inv.adopt {S' h' : Heap} (I : Inv h₀ L m own ext S h) (le : S.StaysIn S') (st : S'.StaysIn h') (k : h.StaysIn h') (no : ∀ b o o', h.get? b = some o → S'.get? b = some o' → (S.get? b).isSome = true) : Inv h₀ L m own ext S' h' := by
  have off : ∀ {a : Addr} {o : Obj}, h.get? a = some o → S.get? a = none → S'.get? a = none := fun {a o} e1 e2 => by
    cases q : S'.get? a with
    | none => rfl
    | some x => have := no a o x e1 q; rw [e2] at this; exact fTr this
  obtain ⟨oL, _, _, hL, _⟩ := id I.ns
  exact ⟨I.ns.keeps k, StaysIn.trans I.base le, st, off hL I.offL, fun i a o e => ⟨k _ _ (I.own i a o e).1, (I.own i a o e).2.1, off (I.own i a o e).1 (I.own i a o e).2.2.1, (I.own i a o e).2.2.2⟩, I.inj,
    fun a o e => ⟨k _ _ (I.ext a o e).1, (I.ext a o e).2.1, off (I.ext a o e).1 (I.ext a o e).2.2⟩, I.top⟩
theorem Inv.grow {h' : Heap} (I : Inv h₀ L m own ext S h) (k : h.StaysIn h') : Inv h₀ L m own ext S h' :=
  ⟨I.ns.keeps k, I.base, StaysIn.trans I.stay k, I.offL, fun i a o e => ⟨k _ _ (I.own i a o e).1, (I.own i a o e).2⟩, I.inj, fun a o e => ⟨k _ _ (I.ext a o e).1, (I.ext a o e).2⟩, I.top⟩
theorem Inv.see {h' : Heap} (I : Inv h₀ L m own ext S h) (k : h.StaysIn h') (P : Addr → Prop) (hP : ∀ a, P a → h.get? a = none) :
    ∃ S', S.StaysIn S' ∧ Inv h₀ L m own ext S' h' ∧ ∀ a o, P a → h'.get? a = some o → S'.get? a = some o := by
  refine ⟨keepOnly h' fun b => (S.get? b).isSome = true ∨ P b, fun b o e => keepOnly_some (.inl (by rw [e]; rfl)) (k _ _ (I.stay _ _ e)), ?_, fun a o hp e => keepOnly_some (.inr hp) e⟩
  have off : ∀ {a : Addr} {o : Obj}, h.get? a = some o → S.get? a = none → (keepOnly h' fun b => (S.get? b).isSome = true ∨ P b).get? a = none := fun {a o} e1 e2 =>
    keepOnly_none fun q => q.elim (fun q => by rw [e2] at q; exact fTr q) fun q => by rw [hP a q] at e1; exact noS e1
  obtain ⟨oL, _, _, hL, _⟩ := id I.ns
  exact ⟨I.ns.keeps k, StaysIn.trans I.base fun b o e => keepOnly_some (.inl (by rw [e]; rfl)) (k _ _ (I.stay _ _ e)), fun b o e => (of_keepOnly e).2, off hL I.offL,
    fun i a o e => ⟨k _ _ (I.own i a o e).1, (I.own i a o e).2.1, off (I.own i a o e).1 (I.own i a o e).2.2.1, (I.own i a o e).2.2.2⟩, I.inj,
    fun a o e => ⟨k _ _ (I.ext a o e).1, (I.ext a o e).2.1, off (I.ext a o e).1 (I.ext a o e).2.2⟩, I.top⟩
theorem Inv.seeAll {h' : Heap} (I : Inv h₀ L m own ext S h) (k : h.StaysIn h') :
    ∃ S', S.StaysIn S' ∧ Inv h₀ L m own ext S' h' ∧ ∀ a o, h.get? a = none → h'.get? a = some o → S'.get? a = some o :=
  I.see k (fun a => h.get? a = none) fun _ e => e
theorem Inv.freeze (I : Inv h₀ L m own ext S h) {i : Nat} {a : Addr} {o : Obj} (e : own i = some (a, o)) :
    ∃ S', S.StaysIn S' ∧ Inv h₀ L m (fun j => if j = i then none else own j) ext S' h ∧ S'.get? a = some o := by
  have e' := I.own i a o e
  refine ⟨keepOnly h fun b => (S.get? b).isSome = true ∨ b = a, fun b o e => keepOnly_some (.inl (by rw [e]; rfl)) (I.stay _ _ e), ?_, keepOnly_some (.inr rfl) e'.1⟩
  have off : ∀ {b : Addr}, b ≠ a → S.get? b = none → (keepOnly h fun b => (S.get? b).isSome = true ∨ b = a).get? b = none := fun {b} e1 e2 =>
    keepOnly_none fun q => q.elim (fun q => by rw [e2] at q; exact fTr q) e1
  refine ⟨I.ns, StaysIn.trans I.base fun b o e => keepOnly_some (.inl (by rw [e]; rfl)) (I.stay _ _ e), fun b o e => (of_keepOnly e).2, off (Ne.symm e'.2.1) I.offL, fun j b x q => ?_, fun j k b x y q r => ?_, fun b x q => ?_, I.top⟩
  · by_cases hj : j = i
    · simp [hj] at q
    · simp only [hj, if_false] at q
      exact ⟨(I.own j b x q).1, (I.own j b x q).2.1, off (fun z => hj (I.inj j i a x o (z ▸ q) e)) (I.own j b x q).2.2.1, (I.own j b x q).2.2.2⟩
  · by_cases hj : j = i
    · simp [hj] at q
    · by_cases hk : k = i
      · simp [hk] at r
      · simp only [hj, hk, if_false] at q r
        exact I.inj j k b x y q r
  · refine ⟨(I.ext b x q).1, (I.ext b x q).2.1, off (fun z => ?_) (I.ext b x q).2.2⟩
    subst z
    rw [e'.2.2.2] at q; exact noS q
theorem Inv.turn {h' : Heap} {o' : Obj} (I : Inv h₀ L m own ext S h) {i : Nat} {a : Addr} {o : Obj} (e : own i = some (a, o)) (hs : Heap.SameBut a h h') (hn : h'.get? a = some o') :
    Inv h₀ L m (fun j => if j = i then some (a, o') else own j) ext S h' := by
  have e' := I.own i a o e
  refine ⟨I.ns.sameBut hs (Ne.symm e'.2.1), I.base, fun b x q => (hs.2 b fun z => by rw [z, e'.2.2.1] at q; exact noS q).trans (I.stay _ _ q), I.offL, fun j b x q => ?_, fun j k b x y q r => ?_, fun b x q => ?_, I.top⟩
  · by_cases hj : j = i
    · simp only [hj, if_true, Option.some.injEq, Prod.mk.injEq] at q
      refine and2 q fun eq1 eq2 => ?_; subst eq1; subst eq2
      exact ⟨hn, e'.2⟩
    · simp only [hj, if_false] at q
      have q' := I.own j b x q
      exact ⟨(hs.2 b fun z => hj (I.inj j i a x o (z ▸ q) e)).trans q'.1, q'.2⟩
  · by_cases hj : j = i
    · by_cases hk : k = i
      · rw [hj, hk]
      · simp only [hj, hk, if_true, if_false, Option.some.injEq, Prod.mk.injEq] at q r
        refine and2 q fun eq1 eq2 => ?_; subst eq1; subst eq2
        exact absurd (I.inj k i a y o r e) hk
    · by_cases hk : k = i
      · simp only [hj, hk, if_true, if_false, Option.some.injEq, Prod.mk.injEq] at q r
        refine and2 r fun eq1 eq2 => ?_; subst eq1; subst eq2
        exact absurd (I.inj j i a x o q e) hj
      · simp only [hj, hk, if_false] at q r
        exact I.inj j k b x y q r
  · have q' := I.ext b x q
    refine ⟨(hs.2 b fun z => ?_).trans q'.1, q'.2⟩
    subst z
    rw [e'.2.2.2] at q; exact noS q
theorem Inv.bind {h' : Heap} {m' : Str → Option Value} (I : Inv h₀ L m own ext S h) (hn : h'.Ns L m') (hs : Heap.SameBut L h h') : Inv h₀ L m' own ext S h' :=
  ⟨hn, I.base, fun b x q => (hs.2 b fun z => by rw [z, I.offL] at q; exact noS q).trans (I.stay _ _ q), I.offL, fun j b x q => ⟨(hs.2 b (I.own j b x q).2.1).trans (I.own j b x q).1, (I.own j b x q).2⟩, I.inj,
    fun b x q => ⟨(hs.2 b (I.ext b x q).2.1).trans (I.ext b x q).1, (I.ext b x q).2⟩, I.top⟩
theorem Inv.drop (I : Inv h₀ L m own ext S h) (i : Nat) : Inv h₀ L m (fun j => if j = i then none else own j) ext S h := by
  refine ⟨I.ns, I.base, I.stay, I.offL, fun j b x q => ?_, fun j k b x y q r => ?_, I.ext, I.top⟩
  · by_cases hj : j = i
    · simp [hj] at q
    · simp only [hj, if_false] at q; exact I.own j b x q
  · by_cases hj : j = i
    · simp [hj] at q
    · by_cases hk : k = i
      · simp [hk] at r
      · simp only [hj, hk, if_false] at q r; exact I.inj j k b x y q r
end
end Mine
end
section
open PySem PySem.W PySem.Calls PyProof.Rows
namespace Mine
structure Cx where
  prog : Program
  w : World
  K : Frag
  env : Env
  A : Around
  h₀ : Heap
  ex : Addr → Option Obj
  n : Nat
structure Gl (K : Frag) (h : Heap) : Prop where
  inK : K.In h
  g : ∃ mg, h.Ns mainGlobals mg
  b : ∃ mb, h.Ns builtinsNs mb ∧ ∀ x : Str, x ≠ "__name__" → mb x = bootBuiltins x
  lim : h.NoLimit
theorem Gl.keeps {K : Frag} {h h' : Heap} (G : Gl K h) (k : h.StaysIn h') : Gl K h' :=
  ⟨G.inK.keeps k, let ⟨mg, q⟩ := G.g; ⟨mg, q.keeps k⟩, let ⟨mb, q, r⟩ := G.b; ⟨mb, q.keeps k, r⟩, G.lim.keeps k⟩
structure Cx.Ok (C : Cx) : Prop where
  kind : C.env.scope.kind = .function
  glob : C.env.globals = mainGlobals
  blt : C.env.builtins = builtinsNs
  hnd : C.A.handled = none
  dep : C.A.depth + C.n < recursionLimit
  unt : C.A.units + 8 * C.n + 256 < cLine
  gl : Gl C.K C.h₀
  nod : nodupS C.env.scope.names = true
  cel : ∀ x, C.env.scope.names.lookup x = some .cell → ∃ c, C.env.cells.lookup x = some c
noncomputable def ValAt (S : Heap) (env : Env) (m : Str → Option Value) (x : Str) (k : NameKind) (v : Value) : Prop := match k with
  | .local => m x = some v
  | .cell => ∃ c, env.cells.lookup x = some c ∧ S.IsCell c (some v)
  | .free => ∃ c, env.cells.lookup x = some c ∧ S.IsCell c (some v)
  | _ => False
mutual
noncomputable def hashD (P : Params) : PyData → Int
  | .int i => hashInt i
  | .str x => PyData.keyHash P x
  | .tuple xs => reduceHash (Builtin.Tuple.tupleHashOf (hashDs P xs))
  | _ => 0
noncomputable def hashDs (P : Params) : List PyData → List Int
  | [] => []
  | x :: r => hashD P x :: hashDs P r
end
inductive Ents (P : Params) (S : Heap) : List DictEntry → List (PyData × PyData) → Prop
  | nil : Ents P S [] []
  | cons {k v : Value} {dk dv : PyData} {es : List DictEntry} {kvs : List (PyData × PyData)} : RD S k dk → keyOk dk = true → RD S v dv → Ents P S es kvs → Ents P S (⟨hashD P dk, k, v⟩ :: es) ((dk, dv) :: kvs)
inductive EntS (P : Params) (S : Heap) : List DictEntry → List (Str × PyData) → Prop
  | nil : EntS P S [] []
  | cons {x : Str} {t : Tok} {v : Value} {dv : PyData} {es : List DictEntry} {kvs : List (Str × PyData)} : RD S v dv → EntS P S es kvs → EntS P S (⟨PyData.keyHash P x, .str x t, v⟩ :: es) ((x, dv) :: kvs)
theorem Ents.keeps {P : Params} {S S' : Heap} {es kvs} (k : S.StaysIn S') (r : Ents P S es kvs) : Ents P S' es kvs := by
  induction r with
  | nil => exact .nil
  | cons h1 h2 h3 _ ih => exact .cons (h1.keeps k) h2 (h3.keeps k) ih
theorem EntS.keeps {P : Params} {S S' : Heap} {es kvs} (k : S.StaysIn S') (r : EntS P S es kvs) : EntS P S' es kvs := by
  induction r with
  | nil => exact .nil
  | cons h1 _ ih => exact .cons (h1.keeps k) ih
noncomputable def SlotOK (P : Params) (S : Heap) (env : Env) (m : Str → Option Value) (ow : Option (Addr × Obj)) (x : Str) (k : NameKind) : Slot → Prop
  | .un => True
  | .d d => ∃ v, ValAt S env m x k v ∧ RD S v d
  | .ol xs => ∃ a vs n, k = .local ∧ m x = some (.ref a) ∧ ow = some (a, ({ cls := .type "list", data := .seq (List.toArray vs) n } : Obj)) ∧ RDs S vs xs ∧ lenOk xs = true
  | .od kvs => ∃ a o es n, k = .local ∧ m x = some (.ref a) ∧ ow = some (a, o) ∧ o.ExactDict ∧ o.data = .dict (List.toArray es) n ∧ Ents P S es kvs ∧ (kvs.map (·.1)).Nodup ∧ kvs.length ≤ 1048577 ∧ a ≠ sysModules
  | .os kvs => ∃ a o es n, k = .local ∧ m x = some (.ref a) ∧ ow = some (a, o) ∧ o.ExactDict ∧ o.data = .dict (List.toArray es) n ∧ EntS P S es kvs ∧ (kvs.map (·.1)).Nodup
noncomputable def StOK (P : Params) (S : Heap) (env : Env) (m : Str → Option Value) (ow : Nat → Option (Addr × Obj)) (st : St) : Prop :=
  st.length = env.scope.names.length ∧ ∀ i x k, env.scope.names[i]? = some (x, k) → SlotOK P S env m (ow i) x k (st.at i)
theorem ValAt.keeps {S S' : Heap} {env : Env} {m : Str → Option Value} {x : Str} {k : NameKind} {v : Value} (h : S.StaysIn S') (r : ValAt S env m x k v) : ValAt S' env m x k v := by
  cases k <;> first | exact r | (obtain ⟨c, hc, o, ho, hd⟩ := r; exact ⟨c, hc, o, h _ _ ho, hd⟩)
theorem SlotOK.keeps {P : Params} {S S' : Heap} {env : Env} {m : Str → Option Value} {ow : Option (Addr × Obj)} {x : Str} {k : NameKind} {s : Slot} (h : S.StaysIn S') (r : SlotOK P S env m ow x k s) : SlotOK P S' env m ow x k s := by
  cases s with
  | un => trivial
  | d d => obtain ⟨v, h1, h2⟩ := r; exact ⟨v, h1.keeps h, h2.keeps h⟩
  | ol xs => obtain ⟨a, vs, n, h1, h2, h3, h6, h7⟩ := r; exact ⟨a, vs, n, h1, h2, h3, h6.keeps h, h7⟩
  | od kvs => obtain ⟨a, o, es, n, h1, h2, h3, h4, h5, h6, h7⟩ := r; exact ⟨a, o, es, n, h1, h2, h3, h4, h5, h6.keeps h, h7⟩
  | os kvs => obtain ⟨a, o, es, n, h1, h2, h3, h4, h5, h6, h7⟩ := r; exact ⟨a, o, es, n, h1, h2, h3, h4, h5, h6.keeps h, h7⟩
theorem StOK.keeps {P : Params} {S S' : Heap} {env : Env} {m : Str → Option Value} {ow : Nat → Option (Addr × Obj)} {st : St} (h : S.StaysIn S') (r : StOK P S env m ow st) : StOK P S' env m ow st :=
  ⟨r.1, fun i x k e => (r.2 i x k e).keeps h⟩
noncomputable def Good (C : Cx) (m : Str → Option Value) (st : St) (ow : Nat → Option (Addr × Obj)) (S h : Heap) : Prop := Inv C.h₀ C.env.locals m ow C.ex S h ∧ StOK C.w.params S C.env m ow st
abbrev Post (C : Cx) (m : Str → Option Value) (st : St) (S : Heap) (s : Shared) {α : Type} (R : Heap → α → Prop) (Q : α → Shared → Prop) : Prop :=
  ∀ v h' tk ow' S', S.StaysIn S' → Good C m st ow' S' h' → R S' v → Q v { s with heap := h', toks := tk }
noncomputable def EvP (C : Cx) {α : Type} (t : Sem α) (st st' : St) (R : Heap → α → Prop) : Prop :=
  ∀ (E : Value → Shared → Prop) (s : Shared) (m : Str → Option Value) (ow : Nat → Option (Addr × Obj)) (S : Heap) (Q : α → Shared → Prop),
    Good C m st ow S s.heap → Post C m st' S s R Q → wpAny (model C.prog C.w) C.A t Q E s
abbrev EvE (C : Cx) (e : Expr) (st : St) (d : PyData) (st' : St) : Prop := EvP C (eval e C.env) st st' fun S v => RD S v d
abbrev EvT (C : Cx) (e : Expr) (st : St) (b : Bool) (st' : St) : Prop := EvP C (isTrue e C.env (eval e C.env)) st st' fun _ v => v = b
abbrev EvL (C : Cx) (pos : Pos) (es : List Expr) (st : St) (ds : List PyData) (st' : St) : Prop := EvP C (spliced (backTo pos (starEach es C.env))) st st' fun S vs => RDs S vs ds
section
variable {C : Cx} {m : Str → Option Value} {st : St} {ow : Nat → Option (Addr × Obj)} {S h : Heap}
theorem Good.grow {h' : Heap} (G : Good C m st ow S h) (k : h.StaysIn h') : Good C m st ow S h' := ⟨G.1.grow k, G.2⟩
theorem Good.seeAll {h' : Heap} (G : Good C m st ow S h) (k : h.StaysIn h') : ∃ S', S.StaysIn S' ∧ Good C m st ow S' h' ∧ ∀ a o, h.get? a = none → h'.get? a = some o → S'.get? a = some o := by
  refine e13 (G.1.seeAll k) fun S' le I hs => ?_
  exact ⟨S', le, ⟨I, G.2.keeps le⟩, hs⟩
theorem Good.rd {v : Value} {d : PyData} (G : Good C m st ow S h) (r : RD S v d) : RD h v d := r.keeps G.1.stay
theorem Good.pushSeq {T : String} {vs : List Value} (G : Good C m st ow S h) :
    ∃ S', S.StaysIn S' ∧ Good C m st ow S' (h.push { cls := .type T, data := .seq vs.toArray }) ∧ SeqIs S' h.objs.size T vs := by
  refine e13 (G.seeAll (h' := h.push { cls := .type T, data := .seq vs.toArray }) fun b o e => Heap.get?_push_of_some _ e) fun S' le G' hs => ?_
  refine ⟨S', le, G', _, hs _ _ ?_ (Heap.get?_push_size _ rfl), rfl, 0, rfl⟩
  cases q : h.get? h.objs.size with
  | none => rfl
  | some o => exact absurd (Heap.lt_size q) (Nat.lt_irrefl _)
end
section
variable {C : Cx} {st st1 st2 : St}
theorem r_int {i : Int} {k : Nat} {pos : Pos} : EvE C (.Constant (.int i) k pos) st (.int i) st := fun E s m ow S Q G P =>
  wpAny_Constant_int (P _ s.heap _ ow S (StaysIn.refl S) G (.int i _))
theorem r_str {x : Str} {k : Nat} {pos : Pos} (hx : PyData.strOk x = true) : EvE C (.Constant (.str x) k pos) st (.str x) st := fun E s m ow S Q G P =>
  wpAny_Constant_str (P _ s.heap _ ow S (StaysIn.refl S) G (.str _ hx))
theorem r_bool {b : Bool} {k : Nat} {pos : Pos} : EvE C (.Constant (.bool b) k pos) st (.bool b) st := fun E s m ow S Q G P =>
  wpAny_Constant_bool (P _ s.heap s.toks ow S (StaysIn.refl S) G (.bool b))
theorem r_none {k : Nat} {pos : Pos} : EvE C (.Constant .none k pos) st .none st := fun E s m ow S Q G P =>
  wpAny_Constant_none (P _ s.heap s.toks ow S (StaysIn.refl S) G .none)
end
section
variable {prog : Program} {w : World} {A : Around} {E : Value → Shared → Prop} {s : Shared} {l b : Addr} {vs ws : List Value} {Q : Value → Shared → Prop}
theorem addL (hl : SeqIs s.heap l "list" vs) (hb : SeqIs s.heap b "list" ws) (hsz : vs.length + ws.length ≤ sizeLine)
    (h : Q (.ref s.heap.objs.size) { s with heap := s.heap.push { cls := .type "list", data := .seq (vs ++ ws).toArray } }) : wpAny (model prog w) A (binaryOp .Add (.ref l) (.ref b)) Q E s := by
  obtain ⟨⟨cls, dd, data, sl⟩, ho, hc, n, hd⟩ := id hl
  obtain ⟨⟨cls2, dd2, data2, sl2⟩, ho2, hc2, n2, hd2⟩ := id hb
  simp only at hc hd hc2 hd2
  subst hc hd hc2 hd2
  have e : vs.toArray ++ ws.toArray = (vs ++ ws).toArray := by simp
  refine concat_meets ⟨_, ho, rfl⟩ ⟨_, ho2, rfl⟩ noFill_list_add seq_list_add PySem.F.slot_list_add PySem.F.entry_list_add (PySem.F.args_list_add_2 _ _) (list_addW l b vs.toArray ws.toArray n n2 dd dd2 sl sl2 (by simpa using hsz)) ⟨ho, ho2, ?_⟩
  rw [e]; exact h
theorem addT (hl : SeqIs s.heap l "tuple" vs) (hb : SeqIs s.heap b "tuple" ws) (hsz : vs.length + ws.length ≤ sizeLine)
    (h0 : vs = [] → Q (.ref b) s) (h1 : ws = [] → Q (.ref l) s)
    (h : Q (.ref s.heap.objs.size) { s with heap := s.heap.push { cls := .type "tuple", data := .seq (vs ++ ws).toArray } }) : wpAny (model prog w) A (binaryOp .Add (.ref l) (.ref b)) Q E s := by
  obtain ⟨⟨cls, dd, data, sl⟩, ho, hc, n, hd⟩ := id hl
  obtain ⟨⟨cls2, dd2, data2, sl2⟩, ho2, hc2, n2, hd2⟩ := id hb
  simp only at hc hd hc2 hd2
  subst hc hd hc2 hd2
  have e : vs.toArray ++ ws.toArray = (vs ++ ws).toArray := by simp
  by_cases hv : vs = []
  · exact concat_meets ⟨_, ho, rfl⟩ ⟨_, ho2, rfl⟩ noFill_tuple_add seq_tuple_add PySem.F.slot_tuple_add PySem.F.entry_tuple_add (PySem.F.args_tuple_add_2 _ _) (tuple_addW0 l b vs.toArray ws.toArray n n2 dd dd2 sl sl2 (by simp [hv])) ⟨ho, ho2, h0 hv⟩
  · by_cases hw : ws = []
    · exact concat_meets ⟨_, ho, rfl⟩ ⟨_, ho2, rfl⟩ noFill_tuple_add seq_tuple_add PySem.F.slot_tuple_add PySem.F.entry_tuple_add (PySem.F.args_tuple_add_2 _ _) (tuple_addW1 l b vs.toArray ws.toArray n n2 dd dd2 sl sl2 (by simpa using hv) (by simp [hw])) ⟨ho, ho2, h1 hw⟩
    · refine concat_meets ⟨_, ho, rfl⟩ ⟨_, ho2, rfl⟩ noFill_tuple_add seq_tuple_add PySem.F.slot_tuple_add PySem.F.entry_tuple_add (PySem.F.args_tuple_add_2 _ _) (tuple_addW2 l b vs.toArray ws.toArray n n2 dd dd2 sl sl2 (by simpa using hv) (by simpa using hw) (by simpa using hsz)) ⟨ho, ho2, ?_⟩
      rw [e]; exact h
end
theorem sm_bits {a : Int} (h : sm a = true) : Builtin.Int.intBits a ≤ 64 := by
  have := Nat.blt_eq ▸ h
  have h' : a.natAbs < 4611686018427387904 := by simpa [sm, Nat.blt_eq] using h
  exact intBits_le_64 (Int.neg_lt_of_neg_lt (Int.lt_trans (abN a h') (by decide))) (Int.lt_trans (abL a h') (by decide))
theorem sm_pylong {a b : Int} (h : sm b = true) : Builtin.divisionGoesByPylong a b = false := by
  have h' : b.natAbs < 4611686018427387904 := by simpa [sm, Nat.blt_eq] using h
  unfold Builtin.divisionGoesByPylong
  have : b.natAbs.log2 < 62 := by
    by_cases hz : b.natAbs = 0
    · rw [hz]; decide
    · exact (Nat.log2_lt hz).mpr (by exact h')
  have : ¬ ((if b == 0 then 0 else b.natAbs.log2 / 30 + 1) > 300) := by
    by_cases hz : (b == 0) = true
    · rw [if_pos hz]; decide
    · rw [if_neg hz]; exact Nat.not_lt.mpr (Nat.le_trans (Nat.succ_le_succ (Nat.div_le_self _ _)) (leE this rfl))
  simp only [this, decide_false, Bool.false_and]
theorem sm_lt {a : Int} (h : sm a = true) : a.natAbs < 4611686018427387904 := by simpa [sm, Nat.blt_eq] using h
section
variable {E : Value → Shared → Prop} {s : Shared} {m : Str → Option Value} {ow : Nat → Option (Addr × Obj)} {S : Heap} {Q : Value → Shared → Prop} {st : St}
theorem cat_len {vs ws : List Value} {p q : List PyData} (h2 : RDs S vs p) (g2 : RDs S ws q) (hl : lenOk (p ++ q) = true) : vs.length + ws.length ≤ sizeLine := by
  have := lenOk_le.mp hl
  rw [List.length_append] at this
  rw [h2.length, g2.length, sizeLine_eq]; exact leE this rfl
theorem op_bin (C : Cx) {op : Operator} {a b : Value} {x y z : PyData}
    (G : Good C m st ow S s.heap) (ra : RD S a x) (rb : RD S b y) (e : binV op x y = some z) (P : Post C m st S s (fun S v => RD S v z) Q) : wpAny (model C.prog C.w) C.A (binaryOp op a b) Q E s := by
  refine two_elim (M := fun x y t => RD S a x → RD S b y → binW op t = some z → wpAny (model C.prog C.w) C.A (binaryOp op a b) Q E s) (fun p q ra rb e => ?_) (fun p q ra rb e => ?_) (fun p q ra rb e => ?_) (fun _ _ _ _ e => noS e) (fun _ _ _ _ e => noS e) x y ra rb e
  · refine e11 ra.int_inv fun t eq1 => ?_; subst eq1; refine e11 rb.int_inv fun u eq1 => ?_; subst eq1
    have fin : ∀ {v : Value} {tk : Nat}, RD S v z → Q v { s with toks := tk } := fun {v tk} r => P v s.heap tk ow S (StaysIn.refl S) G r
    cases op with
    | Add => obtain rfl := Option.some.inj e; exact add_int (fin (.int _ _))
    | Sub => obtain rfl := Option.some.inj e; exact sub_int (fin (.int _ _))
    | Mult =>
      refine and2 (if_some e) fun hs e => ?_
      obtain rfl := Option.some.inj e
      refine mul_int (fin (.int _ _)) ?_
      rcases Bool.or_eq_true_iff.mp hs with q | q
      · exact IntMulOk.of_left (sm_bits q)
      · exact IntMulOk.of_right (sm_bits q)
    | FloorDiv =>
      refine and2 (if_some e) fun h0 e => ?_
      obtain rfl := Option.some.inj e
      exact floordiv_int h0.1 (fin (.int _ _)) (.inl (sm_pylong h0.2))
    | Mod =>
      refine and2 (if_some e) fun h0 e => ?_
      obtain rfl := Option.some.inj e
      exact mod_int' h0.1 (fin (.int _ _))
    | Pow =>
      refine and2 (if_some e) fun hc e => ?_
      obtain rfl := Option.some.inj e
      simp only [Bool.and_eq_true, decide_eq_true_eq] at hc
      exact pow_int_small hc.1.2 (Int.le_trans hc.2 (by decide)) (by have := sm_lt hc.1.1; exact leE this rfl) (fin (.int _ _))
    | _ => exact noS e
  · refine e24 ra.list_inv fun a vs eq1 h1 h2 h3 => ?_; subst eq1; refine e24 rb.list_inv fun b ws eq1 g1 g2 g3 => ?_; subst eq1
    cases op with
    | Add =>
      refine and2 (if_some e) fun hl e => ?_
      obtain rfl := Option.some.inj e
      refine e13 (G.pushSeq (T := "list") (vs := vs ++ ws)) fun S' le G' hs => ?_
      exact addL (h1.keeps G.1.stay) (g1.keeps G.1.stay) (cat_len h2 g2 hl) (P _ _ s.toks ow S' le G' (.list hs ((h2.keeps le).append (g2.keeps le)) hl))
    | _ => exact noS e
  · refine e24 ra.tuple_inv fun a vs eq1 h1 h2 h3 => ?_; subst eq1; refine e24 rb.tuple_inv fun b ws eq1 g1 g2 g3 => ?_; subst eq1
    cases op with
    | Add =>
      refine and2 (if_some e) fun hl e => ?_
      obtain rfl := Option.some.inj e
      refine e13 (G.pushSeq (T := "tuple") (vs := vs ++ ws)) fun S' le G' hs => ?_
      refine addT (h1.keeps G.1.stay) (g1.keeps G.1.stay) (cat_len h2 g2 hl) (fun e => ?_) (fun e => ?_) (P _ _ s.toks ow S' le G' (.tuple hs ((h2.keeps le).append (g2.keeps le)) hl))
      · subst e; cases h2
        exact P _ s.heap s.toks ow S (StaysIn.refl S) G rb
      · subst e; cases g2
        rw [List.append_nil] at *
        exact P _ s.heap s.toks ow S (StaysIn.refl S) G ra
    | _ => exact noS e
theorem eqD_some {x y : PyData} {c : Bool} (e : eqD x y = some c) : Nat.min x.depth y.depth ≤ 64 ∧ PyData.eqv x y = c := by
  unfold eqD at e
  refine and2 (if_some e) fun h e => ?_
  · obtain rfl := Option.some.inj e; exact ⟨Nat.le_of_ble_eq_true h, rfl⟩
theorem op_lt (C : Cx) {op : CmpOp} {a b : Value} {x y : PyData} {c : Bool} (fin : Q (.bool c) s)
    (ra : RD S a x) (rb : RD S b y) (e : cmpW op (two x y) = some c) : wpAny (model C.prog C.w) C.A (compareOp op a b) Q E s := by
  refine two_elim (M := fun x y t => RD S a x → RD S b y → cmpW op t = some c → wpAny (model C.prog C.w) C.A (compareOp op a b) Q E s) (fun p q ra rb e => ?_) (fun _ _ _ _ e => noS e) (fun _ _ _ _ e => noS e) (fun p q ra rb e => ?_) (fun _ _ _ _ e => noS e) x y ra rb e
  · refine e11 ra.int_inv fun t eq1 => ?_; subst eq1; refine e11 rb.int_inv fun u eq1 => ?_; subst eq1
    cases op with
    | Lt => obtain rfl := Option.some.inj e; exact lt_int fin
    | LtE => obtain rfl := Option.some.inj e; exact le_int fin
    | Gt => obtain rfl := Option.some.inj e; exact gt_int fin
    | GtE => obtain rfl := Option.some.inj e; exact ge_int fin
    | _ => exact noS e
  · obtain ⟨⟨t, rfl⟩, _⟩ := ra.str_inv; obtain ⟨⟨u, rfl⟩, _⟩ := rb.str_inv
    cases op with
    | Lt => obtain rfl := Option.some.inj e; exact lt_str fin
    | _ => exact noS e
theorem op_cmp (C : Cx) (O : C.Ok) {op : CmpOp} {a b : Value} {x y : PyData} {c : Bool}
    (G : Good C m st ow S s.heap) (ra : RD S a x) (rb : RD S b y) (e : cmpV op x y = some c) (P : Post C m st S s (fun S v => v = .bool c) Q) : wpAny (model C.prog C.w) C.A (compareOp op a b) Q E s := by
  have hu := O.unt
  have fin := P (.bool c) s.heap s.toks ow S (StaysIn.refl S) G rfl
  refine e11 ((G.rd ra).1) fun as qa => ?_
  refine e11 ((G.rd rb).1) fun bs qb => ?_
  have la := fine_lay _ ra.2
  have lb := fine_lay _ rb.2
  have room : ∀ {n : Nat}, n ≤ 64 → C.A.units + 1 + n < cLine := fun {n} h => by exact nlt (fk (c4 C.A.units C.n cLine n) [(1, .add (.add (.add (.var 0) (.mulL 8 (.var 1))) (.num 256)) (.num 1), .var 2), (1, .var 3, .num 64), (8, .num 0, .var 1), (1, .var 2, .add (.add (.var 0) (.num 1)) (.var 3))] rfl (nt hu) (nl h) (n0 C.n))
  cases op with
  | Eq =>
    refine and2 (eqD_some e) fun hd eq1 => ?_; subst eq1
    exact SeqAt.compareEq_reads qa qb la lb (Nat.lt_of_le_of_lt (Nat.add_le_add_right (Nat.le_succ _) _) (room hd)) fin
  | NotEq =>
    refine mapE e fun c' e' eq1 => ?_; subst eq1
    refine and2 (eqD_some e') fun hd eq1 => ?_; subst eq1
    exact SeqAt.compareNe_reads qa qb la lb (Nat.lt_of_le_of_lt (Nat.add_le_add_right (Nat.le_succ _) _) (room hd)) fin
  | In =>
    cases y with
    | list xs =>
      refine and2 (if_some e) fun hd e => ?_
      obtain rfl := Option.some.inj e
      exact SeqAt.in_list_reads qb qa (by simpa [PyData.canLay0] using lb) la (room (Nat.le_of_ble_eq_true hd)) fin
    | tuple xs =>
      refine and2 (if_some e) fun hd e => ?_
      obtain rfl := Option.some.inj e
      exact SeqAt.in_tuple_reads qb qa (by simpa [PyData.canLay0] using lb) la (room (Nat.le_of_ble_eq_true hd)) fin
    | _ => exact noS e
  | _ => exact op_lt C fin ra rb e
end
section
variable {prog : Program} {w : World} {A : Around} {E : Value → Shared → Prop} {s : Shared} {Q : Value → Shared → Prop}
theorem seqIndex_bounds {i : Int} {n j : Nat} (h : seqIndex? i n = some j) : -(n : Int) ≤ i ∧ i < n ∧ j < n ∧ (0 ≤ i → i.toNat = j) := by
  unfold seqIndex? at h
  by_cases hi : i < 0
  · simp only [hi, if_true, Option.ite_none_right_eq_some, Bool.and_eq_true, decide_eq_true_eq, Option.some.injEq] at h
    exact ⟨ile (fk (c2 i n) [(1, .num 0, .add (.var 0) (.var 1)), (1, .add (.var 0) (.num 1), .neg (.var 1))] rfl h.1.1), ilt (fk (c2 i n) [(1, .add (.var 0) (.num 1), .num 0), (1, .num 0, .var 1), (1, .var 1, .var 0)] rfl hi (n0 n)), h.2 ▸ (Int.toNat_lt h.1.1).mpr h.1.2, fun h0 => absurd hi (Int.not_lt.mpr h0)⟩
  · simp only [hi, if_false, Option.ite_none_right_eq_some, Bool.and_eq_true, decide_eq_true_eq, Option.some.injEq] at h
    exact ⟨ile (fk (c2 i n) [(1, .num 0, .var 0), (1, .num 0, .var 1), (1, .add (.var 0) (.num 1), .neg (.var 1))] rfl h.1.1 (n0 n)), h.1.2, h.2 ▸ (Int.toNat_lt h.1.1).mpr h.1.2, fun _ => h.2⟩
theorem itemV_some {xs : List PyData} {i : Int} {d : PyData} (h : itemV xs i = some d) : ∃ j, seqIndex? i xs.length = some j ∧ xs[j]? = some d := by
  unfold itemV at h
  split at h
  · exact ⟨_, by assumption, h⟩
  · exact noS h
theorem getL {l : Addr} {vs : List Value} {i : Int} {u : Tok} {j : Nat} {v : Value} (hl : SeqIs s.heap l "list" vs) (hj : seqIndex? i vs.length = some j) (hv : vs[j]? = some v) (hz : vs.length ≤ 2 ^ 30) (h : Q v s) :
    wpAny (model prog w) A (getItem (.ref l) (.int i u)) Q E s := by
  refine and4 (seqIndex_bounds hj) fun h1 h2 h3 h4 => ?_
  by_cases h0 : 0 ≤ i
  · refine wpAny_getItem_list hl.isList h0 (by exact ilt (fk (c2 vs.length i) [(1, .var 0, .num 1073741824), (1, .add (.var 1) (.num 1), .var 0), (1, .num 9223372036854775808, .var 1)] rfl (nl hz) (h2))) ?_ h
    rw [h4 h0, List.getElem?_toArray]; exact hv
  · exact kde_getNeg hl.isList (by exact ilt (fk (c1 i) [(1, .add (.var 0) (.num 1), .num 0), (1, .num 0, .var 0)] rfl ((Int.not_le.mp h0)))) (by exact ile (fk (c2 vs.length i) [(1, .var 0, .num 1073741824), (1, .neg (.var 0), .var 1), (1, .add (.var 1) (.num 1), .neg (.num 9223372036854775808))] rfl (nl hz) (h1))) hj hv h
theorem getT {l : Addr} {vs : List Value} {i : Int} {u : Tok} {j : Nat} {v : Value} (hl : SeqIs s.heap l "tuple" vs) (hj : seqIndex? i vs.length = some j) (hv : vs[j]? = some v) (hz : vs.length ≤ 2 ^ 30) (h : Q v s) :
    wpAny (model prog w) A (getItem (.ref l) (.int i u)) Q E s := by
  refine and4 (seqIndex_bounds hj) fun h1 h2 h3 h4 => ?_
  exact getItem_tuple hl.isTup (by exact ile (fk (c2 vs.length i) [(1, .var 0, .num 1073741824), (1, .neg (.var 0), .var 1), (1, .add (.var 1) (.num 1), .neg (.num 9223372036854775808))] rfl (nl hz) (h1))) (by exact ilt (fk (c2 vs.length i) [(1, .var 0, .num 1073741824), (1, .add (.var 1) (.num 1), .var 0), (1, .num 9223372036854775808, .var 1)] rfl (nl hz) (h2))) (by simpa using hj) (by simpa using hv) h
theorem adjust_upto (b n : Nat) (hb : b ≤ n) : Builtin.Slice.sliceAdjust none (some (b : Int)) 1 (n : Int) = ((0 : Int), (b : Int)) := by
  unfold Builtin.Slice.sliceAdjust
  have h1 : ¬ ((1 : Int) < 0) := by exact of_decide_eq_true rfl
  have h2 : ¬ ((b : Int) < 0) := by exact of_decide_eq_true rfl
  simp only [h1, h2, if_false]
  exact congrArg (Prod.mk 0) (Int.min_eq_left (Int.ofNat_le.mpr hb))
theorem places_upto (b : Nat) : Builtin.Slice.slicePlaces (0 : Int) (b : Int) 1 = b := by
  unfold Builtin.Slice.slicePlaces
  have h1 : (1 : Int) > 0 := by exact Int.natCast_nonneg _
  simp only [h1, if_true, Int.ediv_one]
  split <;> omega
theorem sliceApplied_upto {sl : Addr} {b n : Nat} {u : Tok} {Q : Int × Int × Nat → Shared → Prop} (hs : s.heap.IsSliceOf sl .none (.int b u) .none) (hb : b ≤ n) (h : Q ((0 : Int), 1, b) s) :
    wpAny (model prog w) A (Builtin.Slice.sliceApplied (.ref sl) (pure (n : Int))) Q E s := by
  obtain ⟨os, hos, hcs, hds⟩ := id hs
  refine wpAny_bind (wpAny_bind (wpAny_field hos hds (x := .none) rfl (wpAny_bind (wpAny_field hos hds (x := .int b u) rfl (wpAny_bind (wpAny_field hos hds (x := .none) rfl (wpAny_pure ?_)))))))
  refine wpAny_bind (slicePart_none ?_)
  rw [if_neg (by decide)]
  refine wpAny_bind (slicePart_none (wpAny_bind (slicePart_int (wpAny_bind (wpAny_pure ?_)))))
  show wpAny _ _ (match Builtin.Slice.sliceAdjust none (some (b : Int)) 1 (n : Int) with | (lo, hi) => pure (lo, (1 : Int), Builtin.Slice.slicePlaces lo hi 1)) _ _ s
  rw [adjust_upto b n hb]
  show wpAny _ _ (pure ((0 : Int), (1 : Int), Builtin.Slice.slicePlaces (0 : Int) (b : Int) 1)) _ _ s
  rw [places_upto b]
  exact wpAny_pure h
theorem pick_upto (xs : Array Value) (b : Nat) : ((List.range b).filterMap fun (k : Nat) => xs[((0 : Int) + (k : Int) * 1).toNat]?).toArray = (xs.toList.take b).toArray := by
  have e : (fun (k : Nat) => xs[((0 : Int) + (k : Int) * 1).toNat]?) = fun k => xs[0 + k]? := by
    funext k
    have : ((0 : Int) + (k : Int) * 1).toNat = 0 + k := by exact Nat.zero_add _
    rw [this]
  rw [e]
  have := pick_run xs 0 b
  rw [List.filterMap_map] at this
  have e2 : ((fun x => xs[x]?) ∘ fun x => 0 + x) = fun k => xs[0 + k]? := rfl
  rw [e2] at this
  rw [this, List.drop_zero]
theorem getItem_tuple_upto {t sl : Addr} {items : Array Value} {b : Nat} {u : Tok} (ht : IsTup s.heap t items) (hs : s.heap.IsSliceOf sl .none (.int b u) .none) (hb : b < items.size)
    (h : Q (.ref s.heap.objs.size) { s with heap := s.heap.push { cls := .type "tuple", data := .seq (items.toList.take b).toArray } })
    (hsz : items.size ≤ sizeLine := by size_fits) : wpAny (model prog w) A (getItem (.ref t) (.ref sl)) Q E s := by
  have hdrop : sizeOk (.seq (items.toList.take b).toArray) := by
    show (items.toList.take b).toArray.size ≤ sizeLine
    rw [List.size_toArray, List.length_take, Array.length_toList]
    exact nle (fk (c3 items.size sizeLine ((min b items.size : Nat))) [(1, .var 0, .var 1), (1, .var 2, .var 0), (1, .add (.var 1) (.num 1), .var 2)] rfl (nl hsz) (nl (Nat.min_le_right b items.size)))
  obtain ⟨os, hos, hcs, hds⟩ := id hs
  have hTs : s.TypeIs (.ref sl) "slice" := ⟨os, hos, hcs⟩
  unfold getItem
  try with_reducible refine wpAny_holding ?_
  first | refine wpAny_bind (wpAny_pure ?_) | skip
  refine wpAny_bind (wpAny_sequenceKey ht.typeIs (by decide) ?_)
  refine wpAny_bind (wpAny_callSpecial?_slot (name := Str.ofString "__getitem__") ht.typeIs slot_tuple_getitem
    (wpAny_call_entry slot_tuple_getitem ht.typeIs entry_tuple_getitem ?_ (args_tuple_getitem _ _)))
  show wpAny _ _ (Builtin.Tuple.tupleItemsOf (.ref t) >>= _) _ _ s
  refine wpAny_bind (tupleItemsOf_ ht ?_)
  refine wpAny_bind (wpAny_typeOf hTs ?_)
  rw [if_pos (by decide)]
  refine wpAny_bind (sliceApplied_upto hs (Nat.le_of_lt hb) ?_)
  have hno : ¬ (((0 : Int) == 0 && (1 : Int) == 1 && b == items.size) = true) := by
    have : (b == items.size) = false := by rw [beq_eq_false_iff_ne]; exact Nat.ne_of_lt hb
    rw [this]; simp
  show wpAny _ _ (if ((0 : Int) == 0 && (1 : Int) == 1 && b == items.size) = true then _ else _) _ _ s
  rw [if_neg hno, pick_upto items b]
  first
    | exact wpAny_bind (m := Builtin.Tuple.tupleExact _) (wpAny_newObj_type (wpAny_pure ⟨_, rfl, wpAny_pure h⟩) hdrop)
    | exact wpAny_bind (m := Builtin.Tuple.tupleExact _) (wpAny_newObj_type (wpAny_bind (wpAny_pure (wpAny_pure ⟨_, rfl, wpAny_pure h⟩))) hdrop)
    | exact wpAny_bind (wpAny_bind (m := Builtin.Tuple.tupleExact _) (wpAny_newObj_type (wpAny_pure (wpAny_pure ⟨_, rfl, wpAny_pure h⟩)) hdrop))
    | exact wpAny_bind (wpAny_bind (m := Builtin.Tuple.tupleExact _) (wpAny_newObj_type (wpAny_pure ⟨_, rfl, wpAny_pure h⟩) hdrop))
end
theorem tr {a b c : Heap} (x : a.StaysIn b) (y : b.StaysIn c) : a.StaysIn c := fun p o e => y p o (x p o e)
theorem posOf_spec {x : Str} {k : NameKind} : ∀ {ns : List (Str × NameKind)} {b i : Nat}, posOf x ns b = some (i, k) → b ≤ i ∧ ns[i - b]? = some (x, k) ∧ ns.lookup x = some k := by
  intro ns
  induction ns with
  | nil => intro b i h; exact noS h
  | cons p r ih =>
    obtain ⟨y, k'⟩ := p
    intro b i h
    rw [posOf] at h
    refine if_or h (fun hx h => ?_) (fun hx h => ?_)
    · obtain ⟨rfl, rfl⟩ := some2 h
      have e : x = y := beq_iff_eq.mp hx
      subst e
      exact ⟨Nat.le_refl _, by simp, by simp [List.lookup]⟩
    · refine and3 (ih h) fun h1 h2 h3 => ?_
      refine ⟨by exact Nat.le_of_lt h1, ?_, ?_⟩
      · have e : i - b = (i - (b + 1)) + 1 := (Nat.sub_add_cancel (Nat.sub_pos_of_lt h1)).symm
        rw [e, List.getElem?_cons_succ]; exact h2
      · have : (x == y) = false := by simpa using hx
        simp [List.lookup, this, h3]
theorem posOf_get {x : Str} {k : NameKind} {ns : List (Str × NameKind)} {i : Nat} (h : posOf x ns 0 = some (i, k)) : ns[i]? = some (x, k) ∧ ns.lookup x = some k := by
  have := posOf_spec h
  simpa using this.2
theorem nodup_at {ns : List (Str × NameKind)} (h : nodupS ns = true) : ∀ {i j : Nat} {x : Str} {k k' : NameKind}, ns[i]? = some (x, k) → ns[j]? = some (x, k') → i = j := by
  induction ns with
  | nil => intro i j x k k' h1; exact noS h1
  | cons p r ih =>
    obtain ⟨y, q⟩ := p
    simp only [nodupS, Bool.and_eq_true, Bool.not_eq_true'] at h
    have no : ∀ {j : Nat} {k}, r[j]? ≠ some (y, k) := fun {j k} e => by
      have : r.any (fun z => z.1 == y) = true := List.any_eq_true.mpr ⟨_, List.mem_of_getElem? e, by simp⟩
      rw [h.1] at this; exact fTr this
    intro i j x k k' h1 h2
    cases i with
    | zero =>
      cases j with
      | zero => rfl
      | succ j =>
        simp only [List.getElem?_cons_zero, Option.some.injEq, Prod.mk.injEq, List.getElem?_cons_succ] at h1 h2
        refine and2 h1 fun eq1 eq2 => ?_; subst eq1; subst eq2
        exact absurd h2 no
    | succ i =>
      cases j with
      | zero =>
        simp only [List.getElem?_cons_zero, Option.some.injEq, Prod.mk.injEq, List.getElem?_cons_succ] at h1 h2
        refine and2 h2 fun eq1 eq2 => ?_; subst eq1; subst eq2
        exact absurd h1 no
      | succ j =>
        simp only [List.getElem?_cons_succ] at h1 h2
        rw [ih h.2 h1 h2]
theorem at_put (st : St) (i j : Nat) (s : Slot) (hi : i < st.length) : (st.put i s).at j = if j = i then s else st.at j := by
  unfold St.at St.put
  simp only [List.getD_eq_getElem?_getD, List.getElem?_set]
  by_cases h : i = j
  · subst h; simp [hi]
  · have : ¬ j = i := fun e => h e.symm
    simp [h, this]
theorem length_put (st : St) (i : Nat) (s : Slot) : (st.put i s).length = st.length := by unfold St.put; simp
section
variable {C : Cx} {m : Str → Option Value} {st : St} {ow : Nat → Option (Addr × Obj)} {S h : Heap}
theorem Good.slot (G : Good C m st ow S h) {i : Nat} {x : Str} {k : NameKind} (hx : C.env.scope.names[i]? = some (x, k)) : SlotOK C.w.params S C.env m (ow i) x k (st.at i) := G.2.2 i x k hx
theorem Good.lt (G : Good C m st ow S h) {i : Nat} {x : Str} {k : NameKind} (hx : C.env.scope.names[i]? = some (x, k)) : i < st.length := by
  rw [G.2.1]; exact (List.getElem?_eq_some_iff.mp hx).1
theorem Good.put (G : Good C m st ow S h) {i : Nat} {x : Str} {k : NameKind} {s : Slot} {ow' : Nat → Option (Addr × Obj)} {S' h' : Heap} (O : C.Ok) (hx : C.env.scope.names[i]? = some (x, k)) (le : S.StaysIn S')
    (I : Inv C.h₀ C.env.locals m ow' C.ex S' h') (ho : ∀ j, j ≠ i → ow' j = ow j) (hs : SlotOK C.w.params S' C.env m (ow' i) x k s) : Good C m (st.put i s) ow' S' h' := by
  refine ⟨I, by rw [length_put]; exact G.2.1, fun j y k' hy => ?_⟩
  rw [at_put _ _ _ _ (G.lt hx)]
  by_cases hj : j = i
  · subst hj
    rw [hx] at hy
    obtain ⟨rfl, rfl⟩ := some2 hy
    rw [if_pos rfl]
    exact hs
  · rw [if_neg hj, ho j hj]
    exact (G.2.2 j y k' hy).keeps le
end
section
variable {C : Cx} {st st1 st2 st3 : St}
set_option tactic.hygienic true in
theorem r_name (O : C.Ok) {x : Str} {pos : Pos} {i : Nat} {k : NameKind} {d : PyData} (hx : posOf x C.env.scope.names 0 = some (i, k)) (hd : (x == ("__debug__" : Str)) = false) (hn : k = .free → (x == ("__classdict__" : Str)) = false)
    (e : rdv st i = some (d, st1)) : EvE C (.Name x pos) st d st1 := by
  intro E s m ow S Q G P
  refine and2 (posOf_get hx) fun h1 h2 => ?_
  have sl := G.slot h1
  unfold rdv at e
  have load : ∀ v, ValAt S C.env m x k v → Q v s → wpAny (model C.prog C.w) C.A (eval (.Name x pos) C.env) Q E s := fun v hv q => by
    refine wpAny_Name ?_ hd
    cases k with
    | «local» => exact wpAny_loadName_local O.kind h2 G.1.ns hv q
    | cell => obtain ⟨c, hc, o, ho, hd⟩ := hv; exact wpAny_loadName_cell O.kind h2 hc ⟨o, G.1.stay _ _ ho, hd⟩ q
    | free => obtain ⟨c, hc, o, ho, hd⟩ := hv; exact wpAny_loadName_free O.kind h2 hc ⟨o, G.1.stay _ _ ho, hd⟩ q (hn rfl)
    | globalExplicit => cases hv
    | globalImplicit => cases hv
  split at e
  · rename_i y hy
    obtain ⟨rfl, rfl⟩ := some2 e
    rw [hy] at sl
    obtain ⟨v, hv, r⟩ := sl
    exact load v hv (P v s.heap s.toks ow S (StaysIn.refl S) G r)
  · rename_i xs hy
    obtain ⟨rfl, rfl⟩ := some2 e
    rw [hy] at sl
    obtain ⟨a, vs, n, rfl, hm, ho, hr, hl⟩ := sl
    refine e13 (G.1.freeze ho) fun S' le I' hS => ?_
    exact load (.ref a) hm (P _ s.heap s.toks _ S' le (G.put O h1 le I' (fun j hj => by simp [hj]) ⟨.ref a, hm, .list ⟨_, hS, rfl, n, rfl⟩ (hr.keeps le) hl⟩) (.list ⟨_, hS, rfl, n, rfl⟩ (hr.keeps le) hl))
  · exact noS e
theorem r_glob (O : C.Ok) {x : Str} {pos : Pos} {i : Nat} {v : Value} {d : PyData} (hx : posOf x C.env.scope.names 0 = some (i, .globalImplicit)) (hd : (x == ("__debug__" : Str)) = false)
    (hk : nsIn C.K mainGlobals x = some (some v)) (hr : ∀ h, C.K.In h → RD h v d) : EvE C (.Name x pos) st d st := by
  intro E s m ow S Q G P
  refine and2 (posOf_get hx) fun h1 h2 => ?_
  have gl := O.gl.keeps G.1.base
  refine e11 ((gl.keeps G.1.stay).g) fun mg hg => ?_
  refine Name_function_global O.kind h2 (loadGlobal_global (by rw [O.glob]; exact hg) (mg_of (gl.keeps G.1.stay).inK hg hk) ?_) hd
  exact P v s.heap s.toks ow S (StaysIn.refl S) G (hr S gl.inK)
theorem name_glob (O : C.Ok) {E : Value → Shared → Prop} {s : Shared} {m : Str → Option Value} {ow : Nat → Option (Addr × Obj)} {S : Heap} {Q : Value → Shared → Prop} {x : Str} {pos : Pos} {i : Nat} {v : Value} (G : Good C m st ow S s.heap)
    (hx : posOf x C.env.scope.names 0 = some (i, .globalImplicit)) (hd : (x == ("__debug__" : Str)) = false) (hk : nsIn C.K mainGlobals x = some (some v)) (q : Q v s) : wpAny (model C.prog C.w) C.A (eval (.Name x pos) C.env) Q E s := by
  refine and2 (posOf_get hx) fun h1 h2 => ?_
  have gl := (O.gl.keeps G.1.base).keeps G.1.stay
  refine e11 gl.g fun mg hg => ?_
  exact Name_function_global O.kind h2 (loadGlobal_global (by rw [O.glob]; exact hg) (mg_of gl.inK hg hk) q) hd
theorem name_built (O : C.Ok) {E : Value → Shared → Prop} {s : Shared} {m : Str → Option Value} {ow : Nat → Option (Addr × Obj)} {S : Heap} {Q : Value → Shared → Prop} {x : Str} {pos : Pos} {i : Nat} {v : Value} (G : Good C m st ow S s.heap)
    (hx : posOf x C.env.scope.names 0 = some (i, .globalImplicit)) (hd : (x == ("__debug__" : Str)) = false) (hn : x ≠ "__name__") (hk : nsIn C.K mainGlobals x = some none) (hb : bootBuiltins x = some v) (q : Q v s) :
    wpAny (model C.prog C.w) C.A (eval (.Name x pos) C.env) Q E s := by
  refine and2 (posOf_get hx) fun h1 h2 => ?_
  have gl := (O.gl.keeps G.1.base).keeps G.1.stay
  refine e11 gl.g fun mg hg => ?_
  refine e12 gl.b fun mb hb' hv => ?_
  exact Name_function_global O.kind h2 (loadGlobal_builtin (by rw [O.glob]; exact hg) (mg_none_of gl.inK hg hk) (by rw [O.blt]; exact hb') ((hv x hn).trans hb) q) hd
theorem r_bin {l r : Expr} {op : Operator} {pos : Pos} {x y z : PyData} (hl : EvE C l st x st1) (hr : EvE C r st1 y st2) (e : binV op x y = some z) : EvE C (.BinOp l op r pos) st z st2 := fun E s m ow S Q G P =>
  wpAny_BinOp (hl _ _ _ _ _ _ G fun a h1 t1 ow1 S1 le1 G1 ra => hr _ _ _ _ _ _ G1 fun b h2 t2 ow2 S2 le2 G2 rb =>
    op_bin C G2 (ra.keeps le2) rb e fun v h3 t3 ow3 S3 le3 G3 r3 => P v h3 t3 ow3 S3 (tr le1 (tr le2 le3)) G3 r3)
theorem r_cmp (O : C.Ok) {l r : Expr} {op : CmpOp} {pos : Pos} {x y : PyData} {c : Bool} (hm : behindInMarks op r = false) (hl : EvE C l st x st1) (hr : EvE C r st1 y st2) (e : cmpV op x y = some c) :
    EvE C (.Compare l [op] [r] pos) st (.bool c) st2 := fun E s m ow S Q G P =>
  wpAny_Compare1 (hl _ _ _ _ _ _ G fun a h1 t1 ow1 S1 le1 G1 ra => hr _ _ _ _ _ _ G1 fun b h2 t2 ow2 S2 le2 G2 rb =>
    op_cmp C O G2 (ra.keeps le2) rb e fun v h3 t3 ow3 S3 le3 G3 r3 => P v h3 t3 ow3 S3 (tr le1 (tr le2 le3)) G3 (by rw [r3]; exact .bool c)) hm
theorem t_cmp (O : C.Ok) {l r : Expr} {op : CmpOp} {pos : Pos} {x y : PyData} {c : Bool} (hm : behindInMarks op r = false) (hl : EvE C l st x st1) (hr : EvE C r st1 y st2) (e : cmpV op x y = some c) :
    EvT C (.Compare l [op] [r] pos) st c st2 := fun E s m ow S Q G P =>
  wpAny_isTrue_Compare1 (hl _ _ _ _ _ _ G fun a h1 t1 ow1 S1 le1 G1 ra => hr _ _ _ _ _ _ G1 fun b h2 t2 ow2 S2 le2 G2 rb =>
    op_cmp C O G2 (ra.keeps le2) rb e fun v h3 t3 ow3 S3 le3 G3 r3 => by rw [r3]; exact wpAny_truthy_bool (P c h3 t3 ow3 S3 (tr le1 (tr le2 le3)) G3 rfl)) hm
theorem r_neg {e : Expr} {pos : Pos} {i : Int} (h : EvE C e st (.int i) st1) : EvE C (.UnaryOp .USub e pos) st (.int (-i)) st1 := fun E s m ow S Q G P =>
  UnaryOp_ (h _ _ _ _ _ _ G fun a h1 t1 ow1 S1 le1 G1 ra => by
    refine e11 ra.int_inv fun t eq1 => ?_; subst eq1
    exact neg_int (P _ h1 _ ow1 S1 le1 G1 (.int _ _)))
theorem r_not {e : Expr} {pos : Pos} {b : Bool} (h : EvE C e st (.bool b) st1) : EvE C (.UnaryOp .Not e pos) st (.bool (!b)) st1 := fun E s m ow S Q G P =>
  UnaryOp_ (h _ _ _ _ _ _ G fun a h1 t1 ow1 S1 le1 G1 ra => by
    rw [ra.bool_inv]
    exact not_of (wpAny_truthy_bool (P _ h1 t1 ow1 S1 le1 G1 (.bool _))))
theorem t_not {e : Expr} {pos : Pos} {b : Bool} (h : EvT C e st b st1) : EvT C (.UnaryOp .Not e pos) st (!b) st1 := fun E s m ow S Q G P =>
  isTrue_not (h _ _ _ _ _ _ G fun a h1 t1 ow1 S1 le1 G1 ra => P _ h1 t1 ow1 S1 le1 G1 (by rw [ra]))
theorem t_plain {e : Expr} {b : Bool} (he : isTrue e C.env (eval e C.env) = (do let v ← eval e C.env; standAt e.pos; holding [v] (truthy v))) (h : EvE C e st (.bool b) st1) : EvT C e st b st1 := fun E s m ow S Q G P =>
  isTrue_plain (h _ _ _ _ _ _ G fun a h1 t1 ow1 S1 le1 G1 ra => by rw [ra.bool_inv]; exact wpAny_truthy_bool (P _ h1 t1 ow1 S1 le1 G1 rfl)) he
theorem r_ite {t a b : Expr} {pos : Pos} {c : Bool} {d : PyData} (ht : EvT C t st c st1) (hc : if c then EvE C a st1 d st2 else EvE C b st1 d st2) : EvE C (.IfExp t a b pos) st d st2 := fun E s m ow S Q G P =>
  IfExp_ (ht _ _ _ _ _ _ G fun v h1 t1 ow1 S1 le1 G1 rv => by
    subst rv
    cases v with
    | true => exact hc _ _ _ _ _ _ G1 fun v h2 t2 ow2 S2 le2 G2 r2 => P v h2 t2 ow2 S2 (tr le1 le2) G2 r2
    | false => exact hc _ _ _ _ _ _ G1 fun v h2 t2 ow2 S2 le2 G2 r2 => P v h2 t2 ow2 S2 (tr le1 le2) G2 r2)
theorem t_ite {t a b : Expr} {pos : Pos} {c d : Bool} (ht : EvT C t st c st1) (hc : if c then EvT C a st1 d st2 else EvT C b st1 d st2) : EvT C (.IfExp t a b pos) st d st2 := fun E s m ow S Q G P =>
  isTrue_IfExp (ht _ _ _ _ _ _ G fun v h1 t1 ow1 S1 le1 G1 rv => by
    subst rv
    cases v with
    | true => exact hc _ _ _ _ _ _ G1 fun v h2 t2 ow2 S2 le2 G2 r2 => P v h2 t2 ow2 S2 (tr le1 le2) G2 r2
    | false => exact hc _ _ _ _ _ _ G1 fun v h2 t2 ow2 S2 le2 G2 r2 => P v h2 t2 ow2 S2 (tr le1 le2) G2 r2)
theorem r_isN {e : Expr} {k : Nat} {p pos : Pos} {d d' : PyData} (h : EvE C e st d st1) (hd : isNK d st1 = some (d', st2)) : EvE C (.Compare e [.Is] [.Constant .none k p] pos) st d' st2 := by
  intro E s m ow S Q G P
  refine wpAny_Compare1 (h _ _ _ _ _ _ G fun a h1 t1 ow1 S1 le1 G1 ra => wpAny_Constant_none ?_) rfl
  unfold isNK at hd
  split at hd
  · obtain ⟨rfl, rfl⟩ := some2 hd
    rw [ra.none_inv]
    exact wpAny_pure (P _ h1 t1 ow1 S1 le1 G1 (.bool true))
  · obtain ⟨rfl, rfl⟩ := some2 hd
    obtain ⟨a, vs, rfl, -⟩ := ra.tuple_inv
    exact wpAny_pure (P _ h1 t1 ow1 S1 le1 G1 (.bool false))
  · exact noS hd
theorem l_nil {pos : Pos} : EvL C pos [] st [] st := fun E s m ow S Q G P => Calls.spliced_nil (P [] s.heap s.toks ow S (StaysIn.refl S) G .nil)
theorem l_cons {pos : Pos} {e : Expr} {r : List Expr} {d : PyData} {ds : List PyData} (he : starEach (e :: r) C.env = (false, eval e C.env) :: starEach r C.env) (h : EvE C e st d st1) (hr : EvL C pos r st1 ds st2) :
    EvL C pos (e :: r) st (d :: ds) st2 := fun E s m ow S Q G P =>
  spliced_more (h _ _ _ _ _ _ G fun v h1 t1 ow1 S1 le1 G1 r1 => hr _ _ _ _ _ _ G1 fun vs h2 t2 ow2 S2 le2 G2 r2 => P _ h2 t2 ow2 S2 (tr le1 le2) G2 (.cons (r1.keeps le2) r2)) he
theorem r_tup {es : List Expr} {k : Nat} {pos : Pos} {ds : List PyData} (h : EvL C pos es st ds st1) (hl : lenOk ds = true) : EvE C (.Tuple es k pos) st (.tuple ds) st1 := fun E s m ow S Q G P =>
  Tuple_ (h _ _ _ _ _ _ G fun vs h1 t1 ow1 S1 le1 G1 r1 => by
    refine e13 (G1.pushSeq (T := "tuple") (vs := vs)) fun S2 le2 G2 hs => ?_
    exact wpAny_newObj_type (P _ _ _ ow1 S2 (tr le1 le2) G2 (.tuple hs (r1.keeps le2) hl)) (by show vs.toArray.size ≤ sizeLine; rw [List.size_toArray, r1.length, sizeLine_eq]; have := lenOk_le.mp hl; exact leE this rfl))
theorem r_lst {es : List Expr} {pos : Pos} {ds : List PyData} (h : EvL C pos es st ds st1) (hl : lenOk ds = true) : EvE C (.List es pos) st (.list ds) st1 := fun E s m ow S Q G P =>
  List_ (h _ _ _ _ _ _ G fun vs h1 t1 ow1 S1 le1 G1 r1 => by
    refine e13 (G1.pushSeq (T := "list") (vs := vs)) fun S2 le2 G2 hs => ?_
    exact wpAny_newObj_type (P _ _ _ ow1 S2 (tr le1 le2) G2 (.list hs (r1.keeps le2) hl)) (by show vs.toArray.size ≤ sizeLine; rw [List.size_toArray, r1.length, sizeLine_eq]; have := lenOk_le.mp hl; exact leE this rfl))
end
end Mine
end
section
open PySem PySem.W PySem.Calls PyProof.Rows
open Sem (wp)
namespace Mine
mutual
noncomputable def drawsD : PyData → Nat
  | .tuple xs => drawsL xs + 1
  | _ => 1
noncomputable def drawsL : List PyData → Nat
  | [] => 0
  | x :: r => drawsD x + drawsL r
end
theorem drawsL_append (a b : List PyData) : drawsL (a ++ b) = drawsL a + drawsL b := by
  induction a with
  | nil => simp [drawsL]
  | cons x r ih => simp [drawsL, ih, Nat.add_assoc]
theorem hashDs_append (P : Params) (a b : List PyData) : hashDs P (a ++ b) = hashDs P a ++ hashDs P b := by
  induction a with
  | nil => simp [hashDs]
  | cons x r ih => simp [hashDs, ih]
section
variable {h : Heap}
inductive RL (h : Heap) : List Value → List PyData → Prop
  | nil : RL h [] []
  | cons {v : Value} {d : PyData} {vs : List Value} {ds : List PyData} {as : List Addr} : Reads h v d as → RL h vs ds → RL h (v :: vs) (d :: ds)
theorem RL.of : ∀ {vs : List Value} {ds : List PyData} {as : List Addr}, ReadsAll h vs ds as → RL h vs ds
  | _, _, _, .nil => .nil
  | _, _, _, .cons r t => .cons r (RL.of t)
theorem RL.length {vs : List Value} {ds : List PyData} (r : RL h vs ds) : vs.length = ds.length := by
  induction r with
  | nil => rfl
  | cons _ _ ih => simp [ih]
theorem reads_one : ∀ (n : Nat) {v : Value} {d d' : PyData} {as bs : List Addr}, dueHash n d = true → Reads h v d as → Reads h v d' bs → d = d' := by
  have all : ∀ n, (∀ {v : Value} {d d' : PyData} {as bs : List Addr}, dueHash n d = true → Reads h v d as → Reads h v d' bs → d = d') →
      ∀ {vs : List Value} {ds es : List PyData}, ds.all (dueHash n) = true → RL h vs ds → RL h vs es → ds = es := by
    intro n ih vs ds es hd r
    induction r generalizing es with
    | nil => intro q; cases q; rfl
    | cons h1 _ ih2 =>
      intro q
      cases q with
      | cons g1 g2 =>
        simp only [List.all_cons, Bool.and_eq_true] at hd
        rw [ih hd.1 h1 g1, ih2 hd.2 g2]
  intro n
  induction n with
  | zero =>
    intro v d d' as bs hd r q
    cases r <;> first | (cases q; rfl) | exact fTr hd
  | succ n ih =>
    intro v d d' as bs hd r q
    cases r with
    | none => exact fTr hd
    | bool => exact fTr hd
    | int => cases q; rfl
    | str => cases q; rfl
    | list => exact fTr hd
    | dict => exact fTr hd
    | tuple ho hc hdat hi =>
      cases q with
      | list ho' hc' _ _ => rw [Option.some.inj (ho.symm.trans ho'), hc'] at hc; injection hc with hc; exact absurd hc (by decide)
      | dict ho' hc' _ _ _ => rw [Option.some.inj (ho.symm.trans ho'), hc'] at hc; injection hc with hc; exact absurd hc (by decide)
      | tuple ho' hc' hdat' hi' =>
        have e := Option.some.inj (ho.symm.trans ho')
        subst e
        rw [hdat] at hdat'
        injection hdat' with e1 _
        subst e1
        rw [all n (fun {v d d' as bs} => ih) hd (RL.of hi) (RL.of hi')]
end
section
variable {prog : Program} {w : World}
theorem pyHash_due : ∀ (n : Nat) {d : PyData}, dueHash n d = true → ∀ {A : Around} {E : Value → Shared → Prop} {s : Shared} {v : Value} {as : List Addr} {Q : Int → Shared → Prop}, A.units + 4 * n < cLine → Reads s.heap v d as →
    Q (hashD w.params d) { s with toks := s.toks + drawsD d } → wpAny (model prog w) A (pyHash v) Q E s := by
  intro n
  induction n with
  | zero =>
    intro d hd A E s v as Q hu r q
    cases r <;> first | exact fTr hd | skip
    · exact wpAny_pyHash_int q
    · exact wpAny_pyHash_str q
  | succ n ih =>
    intro d hd A E s v as Q hu r q
    cases r with
    | none => exact fTr hd
    | bool => exact fTr hd
    | int => exact wpAny_pyHash_int q
    | str => exact wpAny_pyHash_str q
    | list => exact fTr hd
    | dict => exact fTr hd
    | @tuple a o items m xs as ho hc hdat hi =>
      have hT : s.TypeIs (.ref a) "tuple" := ⟨_, ho, hc⟩
      simp only [hashD, drawsD] at q
      unfold pyHash
      first | unfold pyHashByItsType | skip
      first | refine wpAny_bind (wpAny_cRoomFor_or (.inr (by exact leW hu rfl)) ?_) | skip
      refine wpAny_bind (wpAny_specialOf hT F.slot_tuple_hash.lookup ?_)
      show wpAny _ _ (if (some (Value.builtin "tuple.__hash__") == some Value.none) = true then _ else _) Q E s
      rw [if_neg (by rw [beq_builtin_none]; exact Bool.false_ne_true)]
      refine wpAny_bind (wpAny_specialOf hT F.slot_tuple_hash.lookup ?_)
      show wpAny _ _ (callSpecialIfBoundUnlessNone? (.ref a) "__hash__" _ >>= _) Q E s
      refine wpAny_bind (wpAny_callSpecialIfBoundUnlessNone?_slot hT F.slot_tuple_hash (wpAny_call_entry F.slot_tuple_hash hT F.entry_tuple_hash ?_ (F.args_tuple_hash_1 _)))
      show wpAny _ _ (Builtin.Tuple.tupleItemsOf (.ref a) >>= _) _ _ s
      refine wpAny_bind (wpAny_tupleItemsOf ho hdat ?_)
      refine wpAny_bind ?_
      rw [← Array.forIn_toList]
      refine wpAny_forIn_list _
        (fun rest (b : Array Int) s' => ∃ done left, xs = done ++ left ∧ RL s.heap rest left ∧ b.toList = hashDs w.params done ∧ s' = { s with toks := s.toks + drawsL done })
        _ ?_ ?_ _ _ ⟨[], xs, rfl, RL.of hi, rfl, rfl⟩
      · rintro x rest b s' ⟨done, left, rfl, hl, hb, rfl⟩
        cases hl with
        | @cons _ k _ ks' as' h1 hl' =>
          have hk : dueHash n k = true := List.all_eq_true.mp hd k (List.mem_append_right _ (.head _))
          refine wpAny_bind (ih hk (by show _ + 1 + _ < _; exact nlt (fk (c3 A.units n cLine) [(1, .add (.add (.var 0) (.mulL 4 (.add (.var 1) (.num 1)))) (.num 1), .var 2), (1, .var 2, .add (.add (.var 0) (.num 1)) (.mulL 4 (.var 1)))] rfl (nt hu))) h1 ?_)
          have e1 : hashDs w.params (done ++ [k]) = hashDs w.params done ++ [hashD w.params k] := by rw [hashDs_append]; rfl
          have e2 : drawsL (done ++ [k]) = drawsL done + drawsD k := by rw [drawsL_append]; simp [drawsL]
          first
            | exact wpAny_pure ⟨done ++ [k], ks', rfl, hl', rfl, rfl⟩
            | exact wpAny_bind (wpAny_pure (wpAny_pure ⟨done ++ [k], ks', by simp, hl', by simp [hb, e1], by simp [Nat.add_assoc, e2]⟩))
      · rintro b s' ⟨done, left, rfl, hl, hb, rfl⟩
        cases hl
        rw [List.append_nil] at q
        show wpAny _ _ (retInt (Builtin.Tuple.tupleHashOf b.toList)) _ _ _
        rw [hb]
        refine wpAny_ret_mkInt ?_
        show wpAny _ _ (if (decide (-(2 : Int) ^ 63 ≤ Builtin.Tuple.tupleHashOf (hashDs w.params done)) && decide (Builtin.Tuple.tupleHashOf (hashDs w.params done) < 2 ^ 63)) = true then _ else _) Q E _
        unfold reduceHash at q
        by_cases hr : (decide (-(2 : Int) ^ 63 ≤ Builtin.Tuple.tupleHashOf (hashDs w.params done)) && decide (Builtin.Tuple.tupleHashOf (hashDs w.params done) < 2 ^ 63)) = true
        · rw [if_pos hr]
          rw [if_pos hr] at q
          exact wpAny_pure (by simpa [Nat.add_assoc] using q)
        · rw [if_neg hr]
          rw [if_neg hr] at q
          exact wpAny_bind (wpAny_rule (wpAny_pure (by simpa [Nat.add_assoc] using q)))
theorem quiet_due : ∀ (n : Nat) {d : PyData}, dueHash n d = true → ∀ {A : Around} {E : Value → Shared → Prop} {s : Shared} {v : Value} {as : List Addr} {Q : Bool → Shared → Prop}, Reads s.heap v d as → Q true s →
    wpAny (model prog w) A (eqIsQuiet n v) Q E s := by
  intro n
  induction n with
  | zero =>
    intro d hd A E s v as Q r q
    cases r <;> first | exact fTr hd | skip
    · rw [eqIsQuiet_byValue _ rfl]; exact wpAny_pure q
    · rw [eqIsQuiet_byValue _ rfl]; exact wpAny_pure q
  | succ n ih =>
    intro d hd A E s v as Q r q
    cases r with
    | none => exact fTr hd
    | bool => exact fTr hd
    | int => rw [eqIsQuiet_byValue _ rfl]; exact wpAny_pure q
    | str => rw [eqIsQuiet_byValue _ rfl]; exact wpAny_pure q
    | list => exact fTr hd
    | dict => exact fTr hd
    | @tuple a o items m xs as ho hc hdat hi =>
      have hT : s.TypeIs (.ref a) "tuple" := ⟨_, ho, hc⟩
      unfold eqIsQuiet
      refine wpAny_bind (wpAny_specialOf hT F.slot_tuple_eq.lookup ?_)
      refine wpAny_bind (wpAny_isInstance hT isSubtype_tuple_tuple ?_)
      refine wpAny_bind (wpAny_seqItems ho hdat ?_)
      refine wpAny_bind ?_
      rw [← Array.forIn_toList]
      refine wpAny_forIn_list _ (fun rest r s' => r.1 = none ∧ s' = s ∧ ∃ left, RL s.heap rest left ∧ left.all (dueHash n) = true) _ ?_ ?_ _ _ ⟨rfl, rfl, xs, RL.of hi, hd⟩
      · rintro v rest r s' ⟨hr, rfl, left, hl, hall⟩
        cases hl with
        | cons h1 h2 =>
          simp only [List.all_cons, Bool.and_eq_true] at hall
          refine wpAny_bind (ih hall.1 h1 ?_)
          simp only [Bool.not_true, Bool.false_eq_true, if_false]
          exact wpAny_pure ⟨rfl, rfl, _, h2, hall.2⟩
      · rintro ⟨r1, r2⟩ s' ⟨hr, rfl, _⟩
        simp only at hr
        subst hr
        exact wpAny_pure q
end
end Mine
end
section
open PySem PySem.W PySem.Calls PyProof.Rows
namespace Mine
noncomputable def isLeaf : PyData → Bool
  | .int _ => true
  | .str _ => true
  | _ => false
theorem leaf_of {n : Nat} {d : PyData} (h : dueHash n d = true) : isLeaf d = true ∨ ∃ m xs, n = m + 1 ∧ d = .tuple xs ∧ xs.all (dueHash m) = true := by
  cases n with
  | zero => cases d with
    | int => exact .inl rfl
    | str => exact .inl rfl
    | _ => exact fTr h
  | succ n => cases d with
    | int => exact .inl rfl
    | str => exact .inl rfl
    | tuple xs => exact .inr ⟨n, xs, rfl, rfl, h⟩
    | _ => exact fTr h
theorem leaf_eqv {d e : PyData} (h1 : isLeaf d = true) (h2 : isLeaf e = true) : PyData.eqv d e = true ↔ d = e := by
  cases d with
  | int i => cases e with
    | int j => exact ⟨fun h => congrArg _ (eq_of_beq h), fun h => h ▸ beq_self_eq_true i⟩
    | str => exact ⟨fun h => fTr h, fun h => by cases h⟩
    | _ => exact fTr h2
  | str i => cases e with
    | str j => exact ⟨fun h => congrArg _ (eq_of_beq h), fun h => h ▸ beq_self_eq_true i⟩
    | int => exact ⟨fun h => fTr h, fun h => by cases h⟩
    | _ => exact fTr h2
  | _ => exact fTr h1
theorem leaf_tup {d : PyData} {xs : List PyData} (h : isLeaf d = true) : (PyData.eqv d (.tuple xs) = false ∧ d ≠ .tuple xs) ∧ PyData.eqv (.tuple xs) d = false ∧ d.depth = 0 := by
  cases d with
  | int i => exact ⟨⟨rfl, fun h => by cases h⟩, rfl, rfl⟩
  | str i => exact ⟨⟨rfl, fun h => by cases h⟩, rfl, rfl⟩
  | _ => exact fTr h
theorem due_depth : ∀ (n : Nat) {d : PyData}, dueHash n d = true → d.depth ≤ n := by
  intro n
  induction n with
  | zero =>
    intro d h
    rcases leaf_of h with h | ⟨_, _, z, _⟩
    · exact Nat.le_of_eq (leaf_tup (xs := []) h).2.2
    · cases z
  | succ n ih =>
    intro d h
    rcases leaf_of h with h | ⟨m, xs, z, rfl, h⟩
    · rw [(leaf_tup (xs := []) h).2.2]; exact Nat.zero_le _
    · cases z
      refine Nat.succ_le_succ ?_
      induction xs with
      | nil => exact Nat.zero_le _
      | cons x r ihr => exact Nat.max_le.mpr ⟨ih (andB h).1, ihr (andB h).2 (andB h).2⟩
theorem due_eqv : ∀ (n : Nat) {d e : PyData}, dueHash n d = true → dueHash n e = true → (PyData.eqv d e = true ↔ d = e) := by
  intro n
  induction n with
  | zero =>
    intro d e h1 h2
    rcases leaf_of h1 with h1 | ⟨_, _, z, _⟩
    · rcases leaf_of h2 with h2 | ⟨_, _, z, _⟩
      · exact leaf_eqv h1 h2
      · cases z
    · cases z
  | succ n ih =>
    intro d e h1 h2
    rcases leaf_of h1 with h1 | ⟨m, xs, z, rfl, h1⟩
    · rcases leaf_of h2 with h2 | ⟨m, ys, z, rfl, h2⟩
      · exact leaf_eqv h1 h2
      · exact ⟨fun h => fTr ((leaf_tup h1).1.1.symm.trans h), fun h => absurd h (leaf_tup h1).1.2⟩
    · rcases leaf_of h2 with h2 | ⟨m2, ys, z2, rfl, h2⟩
      · exact ⟨fun h => fTr ((leaf_tup h2).2.1.symm.trans h), fun h => absurd h.symm (leaf_tup h2).1.2⟩
      · cases z
        cases z2
        have all : ∀ {xs ys : List PyData}, xs.all (dueHash n) = true → ys.all (dueHash n) = true → (PyData.eqvAll xs ys = true ↔ xs = ys) := by
          intro xs
          induction xs with
          | nil => intro ys _ _; cases ys with
            | nil => exact ⟨fun _ => rfl, fun _ => rfl⟩
            | cons => exact ⟨fun h => fTr h, fun h => by cases h⟩
          | cons x r ihr =>
            intro ys k1 k2
            cases ys with
            | nil => exact ⟨fun h => fTr h, fun h => by cases h⟩
            | cons y t =>
              refine ⟨fun h => ?_, fun h => ?_⟩
              · rw [(ih (andB k1).1 (andB k2).1).mp (andB h).1, (ihr (andB k1).2 (andB k2).2).mp (andB h).2]
              · refine and2 (List.cons.inj h) fun e1 e2 => ?_
                show (PyData.eqv x y && PyData.eqvAll r t) = true
                rw [(ih (andB k1).1 (andB k2).1).mpr e1, (ihr (andB k1).2 (andB k2).2).mpr e2]
                rfl
        exact (all h1 h2).trans ⟨fun h => congrArg _ h, fun h => PyData.tuple.inj h⟩
theorem keyOk_tuple {d : PyData} (h : keyOk d = true) : (∃ xs, d = .tuple xs) ∧ dueHash 8 d = true := by
  unfold keyOk at h
  split at h
  · exact ⟨⟨_, rfl⟩, h⟩
  · exact fTr h
theorem key_eqv {d e : PyData} (h1 : keyOk d = true) (h2 : keyOk e = true) : PyData.eqv d e = true ↔ d = e := due_eqv 8 (keyOk_tuple h1).2 (keyOk_tuple h2).2
abbrev DK := { d : PyData // keyOk d = true ∧ fine d = true }
open Classical in
noncomputable def dk (prog : Program) (w : World) : HeapKind prog w DK where
  is := fun h k a => ∃ as, Reads h (.ref a) k.1 as
  hash := fun k => hashD w.params k.1
  draws := fun k => drawsD k.1
  room := fun A => A.units + 128 < cLine
  inj := fun {h a x y} hx hy => by
    refine e11 hx fun as r => ?_
    refine e11 hy fun bs q => ?_
    exact Subtype.ext (reads_one 8 (keyOk_tuple x.2.1).2 r q)
  keeps := fun {h h' k a d o es ep} hx ho hd hs => by
    refine e11 hx fun as r => ?_
    have all : ∀ n, (∀ {v : Value} {d' : PyData} {as : List Addr}, dueHash n d' = true → Reads h v d' as → ∃ as, Reads h' v d' as) →
        ∀ {vs : List Value} {ds : List PyData} {as : List Addr}, ds.all (dueHash n) = true → ReadsAll h vs ds as → ∃ as, ReadsAll h' vs ds as := by
      intro n ih vs ds
      induction ds generalizing vs with
      | nil => intro as _ q; cases q; exact ⟨_, .nil⟩
      | cons x r ihr =>
        intro as hall q
        simp only [List.all_cons, Bool.and_eq_true] at hall
        cases q with
        | cons q1 q2 =>
          refine e11 (ih hall.1 q1) fun as1 p1 => ?_
          refine e11 (ihr hall.2 q2) fun as2 p2 => ?_
          exact ⟨_, .cons p1 p2⟩
    have one : ∀ n {v : Value} {d' : PyData} {as : List Addr}, dueHash n d' = true → Reads h v d' as → ∃ as, Reads h' v d' as := by
      intro n
      induction n with
      | zero =>
        intro v d' as hd' r
        cases r <;> first | exact fTr hd' | skip
        · exact ⟨_, .int _ _⟩
        · exact ⟨_, .str _ _⟩
      | succ n ih =>
        intro v d' as hd' r
        cases r with
        | none => exact fTr hd'
        | bool => exact fTr hd'
        | int => exact ⟨_, .int _ _⟩
        | str => exact ⟨_, .str _ _⟩
        | list => exact fTr hd'
        | dict => exact fTr hd'
        | @tuple b o' vs m xs as hb hc hdat hi =>
          refine e11 (all n (fun {v d' as} => ih) hd' hi) fun bs q => ?_
          have hne : b ≠ d := fun z => by
            subst z
            obtain rfl : o' = o := Option.some.inj (hb.symm.trans ho)
            rw [hd] at hdat; exact nomatch hdat
          exact ⟨_, .tuple ((hs.2 b hne).trans hb) hc hdat q⟩
    exact one 8 (keyOk_tuple k.2.1).2 r
  pyHash := fun {A E s k a Q} hu hx q => by
    refine e11 hx fun as r => ?_
    exact pyHash_due 8 (keyOk_tuple k.2.1).2 (by exact nlt (fk (c2 A.units cLine) [(1, .add (.add (.var 0) (.num 128)) (.num 1), .var 1), (1, .var 1, .add (.var 0) (.mulL 4 (.num 8)))] rfl (nt hu))) r q
  eqBool := fun {A E s x y a b Q} hu hx hy q => by
    refine e11 hx fun as r => ?_
    refine e11 hy fun bs p => ?_
    have h1 := due_depth 8 (keyOk_tuple x.2.1).2
    have e : PyData.eqv x.1 y.1 = decide (x = y) := by
      by_cases h : x = y
      · rw [decide_eq_true h]; exact (key_eqv x.2.1 y.2.1).mpr (congrArg _ h)
      · rw [decide_eq_false h]; exact Bool.eq_false_iff.mpr fun z => h (Subtype.ext ((key_eqv x.2.1 y.2.1).mp z))
    refine SeqAt.eqAt_reads x.1 y.1 A s _ _ as bs r p (fine_lay _ x.2.2) (fine_lay _ y.2.2) (by have := Nat.min_le_left x.1.depth y.1.depth; exact nlt (fk (c4 A.units cLine x.val.depth ((min x.val.depth y.val.depth : Nat))) [(1, .add (.add (.var 0) (.num 128)) (.num 1), .var 1), (1, .var 2, .num 8), (1, .var 3, .var 2), (1, .var 1, .add (.var 0) (.var 3))] rfl (nt hu) (nl h1) (nl (Nat.min_le_left x.val.depth y.val.depth)))) prog w E Q ?_
    rw [e]; exact q
  quiet := fun {A E s k a Q} hx q => by
    refine e11 hx fun as r => ?_
    exact quiet_due 8 (keyOk_tuple k.2.1).2 r q
theorem keyRD {S : Heap} {v : Value} {d : PyData} (r : RD S v d) (hk : keyOk d = true) : ∃ a, v = .ref a ∧ keyOk d = true ∧ fine d = true ∧ ∃ as, Reads S (.ref a) d as := by
  refine e11 ((keyOk_tuple hk).1) fun xs eq1 => ?_; subst eq1
  refine e22 r.tuple_inv fun a vs eq1 _ => ?_; subst eq1
  exact ⟨a, rfl, hk, r.2, r.1⟩
section
open Classical
variable {prog : Program} {w : World} {S : Heap}
abbrev DX := DK × Addr × Value
structure Dx (prog : Program) (w : World) (S : Heap) (xs : List DX) (kvs : List (PyData × PyData)) : Prop where
  is : ∀ x ∈ xs, (dk prog w).is S x.1 x.2.1
  keys : xs.map (fun x => x.1.1) = kvs.map (·.1)
  vals : RDs S (xs.map (·.2.2)) (kvs.map (·.2))
theorem ents_dk (prog : Program) {es : List DictEntry} {kvs : List (PyData × PyData)} (E : Ents w.params S es kvs) :
    ∃ xs : List DX, es = xs.map (entryOfKey (dk prog w)) ∧ Dx prog w S xs kvs := by
  induction E with
  | nil => exact ⟨[], rfl, ⟨(fun _ h => nomatch h), rfl, RDs.nil⟩⟩
  | @cons k v dk' dv es kvs h1 h2 h3 _ ih =>
    obtain ⟨xs, e1, ⟨e2, e3, e4⟩⟩ := ih
    refine e14 (keyRD h1 h2) fun a eq1 k1 k2 r => ?_; subst eq1
    refine ⟨(⟨dk', k1, k2⟩, a, v) :: xs, ?_, ?_, ?_, ?_⟩
    · rw [List.map_cons, ← e1]; rfl
    · intro x hx
      rcases List.mem_cons.mp hx with rfl | hx
      · exact r
      · exact e2 x hx
    · simp [e3]
    · exact .cons h3 e4
theorem dk_ents {xs : List DX} : ∀ {kvs : List (PyData × PyData)}, Dx prog w S xs kvs → Ents w.params S (xs.map (entryOfKey (dk prog w))) kvs := by
  induction xs with
  | nil => rintro kvs ⟨h1, h2, h3⟩; cases kvs with | nil => exact .nil | cons _ _ => cases h2
  | cons x xs ih =>
    rintro kvs ⟨h1, h2, h3⟩
    cases kvs with
    | nil => cases h2
    | cons p kvs =>
      simp only [List.map_cons, List.cons.injEq] at h2 h3
      cases h3 with
      | cons r1 r2 =>
        obtain ⟨⟨k, hk⟩, a, v⟩ := x
        obtain ⟨pk, pv⟩ := p
        refine and2 h2 fun h2a h2b => ?_
        simp only at h2a
        subst h2a
        exact .cons ⟨h1 _ (.head _), hk.2⟩ hk.1 r1 (ih ⟨fun y hy => h1 y (.tail _ hy), h2b, r2⟩)
theorem nodup_of_map {α β : Type} (f : α → β) : ∀ {l : List α}, (l.map f).Nodup → l.Nodup
  | [], _ => List.nodup_nil
  | a :: r, h => by
    rw [List.map_cons, List.nodup_cons] at h
    rw [List.nodup_cons]
    exact ⟨fun z => h.1 (List.mem_map_of_mem z), nodup_of_map f h.2⟩
theorem Dx.nodup {xs : List DX} {kvs : List (PyData × PyData)} (D : Dx prog w S xs kvs) (hn : (kvs.map (·.1)).Nodup) : (xs.map (·.1)).Nodup := by
  rw [← D.keys] at hn
  have : xs.map (fun x => x.1.1) = (xs.map (·.1)).map (·.1) := by rw [List.map_map]; rfl
  rw [this] at hn
  exact nodup_of_map _ hn
theorem Dx.tail {x : DX} {xs : List DX} {p : PyData × PyData} {kvs : List (PyData × PyData)} (D : Dx prog w S (x :: xs) (p :: kvs)) : Dx prog w S xs kvs ∧ x.1.1 = p.1 ∧ RD S x.2.2 p.2 := by
  obtain ⟨h1, h2, h3⟩ := D
  simp only [List.map_cons, List.cons.injEq] at h2 h3
  cases h3 with
  | cons r1 r2 => exact ⟨⟨fun y hy => h1 y (.tail _ hy), h2.2, r2⟩, h2.1, r1⟩
theorem atKey_cons (x : DX) (xs : List DX) (k : DK) : atKey (x :: xs) k = if x.1 = k then some x.2 else atKey xs k := by
  unfold atKey
  rw [List.find?_cons]
  by_cases h : x.1 = k <;> simp [h]
theorem look_at {xs : List DX} (k : DK) : ∀ {kvs : List (PyData × PyData)}, Dx prog w S xs kvs → (∀ p, atKey xs k = some p → ∃ d, lookD kvs k.1 = some d ∧ RD S p.2 d) ∧ (atKey xs k = none → lookD kvs k.1 = none) := by
  induction xs with
  | nil => rintro kvs D; cases kvs with
    | nil => exact ⟨fun p h => by simp [atKey] at h, fun _ => rfl⟩
    | cons _ _ => cases D.keys
  | cons x xs ih =>
    intro kvs D
    cases kvs with
    | nil => cases D.keys
    | cons p kvs =>
      refine and3 D.tail fun D' e1 r1 => ?_
      obtain ⟨pk, pv⟩ := p
      simp only at e1
      have hk : PyData.eqv pk k.1 = true ↔ x.1 = k := by
        rw [← e1]
        exact (key_eqv x.1.2.1 k.2.1).trans ⟨fun h => Subtype.ext h, fun h => congrArg _ h⟩
      rw [atKey_cons]
      by_cases h : x.1 = k
      · rw [if_pos h]
        have : lookD ((pk, pv) :: kvs) k.1 = some pv := by rw [lookD, if_pos (hk.mpr h)]
        exact ⟨fun q hq => by obtain rfl := Option.some.inj hq; exact ⟨pv, this, r1⟩, fun h => by exact sNo h⟩
      · rw [if_neg h]
        have : lookD ((pk, pv) :: kvs) k.1 = lookD kvs k.1 := by rw [lookD, if_neg (fun z => h (hk.mp z))]
        rw [this]; exact ih D'
theorem look_isSome {xs : List DX} {k : DK} {kvs : List (PyData × PyData)} (D : Dx prog w S xs kvs) : (lookD kvs k.1).isSome = (atKey xs k).isSome := by
  refine and2 (look_at k D) fun h1 h2 => ?_
  cases h : atKey xs k with
  | none => rw [h2 h]; rfl
  | some p => refine e12 (h1 p h) fun d e _ => ?_; rw [e]; rfl
theorem Dx.put {xs : List DX} {k : DK} {a : Addr} {v : Value} {d : PyData} {as : List Addr} (ha : Reads S (.ref a) k.1 as) (hv : RD S v d) : ∀ {kvs : List (PyData × PyData)}, Dx prog w S xs kvs → (xs.map (·.1)).Nodup → Dx prog w S (storedH xs k a v) (putD kvs k.1 d) := by
  induction xs with
  | nil =>
    rintro kvs D _
    cases kvs with
    | cons _ _ => cases D.keys
    | nil => exact ⟨fun x hx => by simp [storedH, atKey] at hx; subst hx; exact ⟨as, ha⟩, rfl, by simp [storedH, atKey, putD]; exact .cons hv .nil⟩
  | cons x xs ih =>
    intro kvs D hn
    cases kvs with
    | nil => cases D.keys
    | cons p kvs =>
      refine and3 D.tail fun D' e1 r1 => ?_
      obtain ⟨pk, pv⟩ := p
      simp only at e1
      rw [List.map_cons, List.nodup_cons] at hn
      have hk : PyData.eqv pk k.1 = true ↔ x.1 = k := by
        rw [← e1]
        exact (key_eqv x.1.2.1 k.2.1).trans ⟨fun h => Subtype.ext h, fun h => congrArg _ h⟩
      by_cases h : x.1 = k
      · have e2 : storedH (x :: xs) k a v = (x.1, x.2.1, v) :: xs := by
          unfold storedH
          rw [atKey_cons, if_pos h, Option.isSome_some, if_pos rfl, List.map_cons, map_putAt_of_not_mem xs k v (h ▸ hn.1)]
          simp [putAt, h]
        have e3 : putD ((pk, pv) :: kvs) k.1 d = (pk, d) :: kvs := by rw [putD, if_pos (hk.mpr h)]
        rw [e2, e3]
        exact ⟨fun y hy => by
          rcases List.mem_cons.mp hy with rfl | hy
          · exact D.is x (.head _)
          · exact D'.is y hy, by simp [e1, D'.keys], .cons hv D'.vals⟩
      · have e2 : storedH (x :: xs) k a v = x :: storedH xs k a v := by
          unfold storedH
          rw [atKey_cons, if_neg h]
          split
          · simp [putAt, h]
          · rfl
        have e3 : putD ((pk, pv) :: kvs) k.1 d = (pk, pv) :: putD kvs k.1 d := by rw [putD, if_neg (fun z => h (hk.mp z))]
        rw [e2, e3]
        have D2 := ih D' hn.2
        exact ⟨fun y hy => by
          rcases List.mem_cons.mp hy with rfl | hy
          · exact D.is _ (.head _)
          · exact D2.is y hy, by simp [e1, D2.keys], .cons r1 D2.vals⟩
theorem Dx.del {xs : List DX} {k : DK} : ∀ {kvs : List (PyData × PyData)} {j : Nat} {p : Addr × Value}, Dx prog w S xs kvs → (xs.map (·.1)).Nodup → xs[j]? = some (k, p) → Dx prog w S (xs.eraseIdx j) (delD kvs k.1) ∧ ∃ d, lookD kvs k.1 = some d ∧ RD S p.2 d := by
  induction xs with
  | nil => intro kvs j p D hn h; simp at h
  | cons x xs ih =>
    intro kvs j p D hn hj
    cases kvs with
    | nil => cases D.keys
    | cons q kvs =>
      refine and3 D.tail fun D' e1 r1 => ?_
      obtain ⟨pk, pv⟩ := q
      simp only at e1
      rw [List.map_cons, List.nodup_cons] at hn
      have hk : PyData.eqv pk k.1 = true ↔ x.1 = k := by
        rw [← e1]
        exact (key_eqv x.1.2.1 k.2.1).trans ⟨fun h => Subtype.ext h, fun h => congrArg _ h⟩
      cases j with
      | zero =>
        simp only [List.getElem?_cons_zero, Option.some.injEq] at hj
        subst hj
        rw [delD, if_pos (hk.mpr rfl), lookD, if_pos (hk.mpr rfl), List.eraseIdx_cons_zero]
        exact ⟨D', pv, rfl, r1⟩
      | succ j =>
        simp only [List.getElem?_cons_succ] at hj
        have h : ¬ x.1 = k := fun z => hn.1 (z ▸ List.mem_map.mpr ⟨_, List.mem_of_getElem? hj, rfl⟩)
        obtain ⟨D2, d, h1, h2⟩ := ih D' hn.2 hj
        rw [delD, if_neg (fun z => h (hk.mp z)), lookD, if_neg (fun z => h (hk.mp z)), List.eraseIdx_cons_succ]
        exact ⟨⟨fun y hy => by
          rcases List.mem_cons.mp hy with rfl | hy
          · exact D.is _ (.head _)
          · exact D2.is y hy, by simp [e1, D2.keys], .cons r1 D2.vals⟩, d, h1, h2⟩
theorem delD_none {kvs : List (PyData × PyData)} {k : PyData} (h : lookD kvs k = none) : delD kvs k = kvs := by
  induction kvs with
  | nil => rfl
  | cons p r ih =>
    obtain ⟨a, b⟩ := p
    rw [lookD] at h
    refine if_or h (fun _ h => ?_) (fun hn h => ?_)
    · exact sNo h
    · rw [delD, if_neg hn, ih h]
end
section
open Classical
variable {prog : Program} {w : World} {A : Around} {E : Value → Shared → Prop} {s : Shared} {S : Heap}
theorem takeOut_dk {d a : Addr} {o : Obj} {n : Nat} {xs : List DX} {k : DK} {Q : Option DictEntry → Shared → Prop} (hu : A.units + 128 < cLine) (hkey : (dk prog w).is s.heap k a)
    (ho : s.heap.get? d = some o) (hd : o.data = .dict (xs.map (entryOfKey (dk prog w))).toArray n) (his : ∀ x ∈ xs, (dk prog w).is s.heap x.1 x.2.1) (hn : (xs.map (·.1)).Nodup) (hsz : xs.length ≤ sizeLine)
    (hnone : (∀ (j : Nat) (p : Addr × Value), xs[j]? ≠ some (k, p)) → Q none { s with toks := s.toks + drawsD k.1 })
    (hsome : ∀ (j : Nat) (p : Addr × Value), xs[j]? = some (k, p) → Q (some ⟨hashD w.params k.1, .ref p.1, p.2⟩) { s with heap := s.heap.update d (Obj.mapDictKeys (·.eraseIdxIfInBounds j)), toks := s.toks + drawsD k.1 }) :
    wpAny (model prog w) A (Builtin.Dict.takeOut d (.ref a)) Q E s := by
  unfold Builtin.Dict.takeOut
  try with_reducible refine wpAny_holding ?_
  refine wpAny_bind ((dk prog w).pyHash (k := k) hu hkey ?_)
  refine wpAny_bind (wpAny_dictFind_heap (s := { s with toks := s.toks + drawsD k.1 }) hu hkey ho hd (rfl) his hn (fun h0 => ?_) fun j p hj => ?_)
  · exact wpAny_pure (hnone h0)
  · refine wpAny_bind (wpAny_dictEntries ho hd ?_)
    have : (xs.map (entryOfKey (dk prog w))).toArray[j]? = some ⟨hashD w.params k.1, .ref p.1, p.2⟩ := by simp [hj, entryOfKey]; rfl
    rw [this]
    refine wpAny_bind (wpAny_updateDictKeys ho hd (wpAny_pure (hsome j p hj)) (by simpa using hsz) ?_)
    unfold Array.eraseIdxIfInBounds
    split
    · have := List.length_eraseIdx_le (xs.map (entryOfKey (dk prog w))) j
      simp at this ⊢; exact Nat.le_succ_of_le this
    · exact Nat.le_succ _
end
theorem list_extendW (l : Addr) (items : Array Value) (n : Nat) (b : Addr) (items2 : Array Value) (n2 : Nat) (dd : Option Addr) (sl : Array (Option Value)) (hc0 : ¬(!items.isEmpty && Builtin.List.listTooLong (items.size + items2.size)) = true) (hc1 : items.size ≤ sizeLine) (hs2 : items.size + items2.size ≤ sizeLine + 1) :
    Meets (Builtin.«list.extend» ⟨[.ref l, .ref b], []⟩) (fun _ R s => s.heap.get? l = some { cls := .type "list", dict := none, data := .seq items n, slots := #[] } ∧ s.heap.get? b = some { cls := .type "list", dict := dd, data := .seq items2 n2, slots := sl } ∧ R (.ok (.ret Value.none)) { s with heap := s.heap.update l (Obj.mapSeq fun x => x ++ items2), toks := s.toks }) :=
  .of_wp fun prog w A R s h => by
    obtain ⟨hp, g, d, tk, os⟩ := s; refine and3 h fun hl hb h => ?_; have f1 := AutoSeq1.idx_int; have f2 := AutoSeq1.sub_tuple_tuple; have f3 := AutoSeq1.sub_list_list; have f4 := AutoSeq1.sub_tuple_list; have f5 := AutoSeq1.sub_list_tuple
    have hz' : (items ++ items2).size ≤ sizeLine + 1 := by rw [Array.size_append]; exact hs2
    wp_walk using (wpAny_updateSeq hl rfl (hz := hc1) (_hz' := hz')), AutoSeq1.wpAny_loadPart' hl, AutoSeq1.wpAny_loadPart' hb
    exact ⟨_, rfl, h⟩
section
variable {C : Cx} {E : Value → Shared → Prop} {s : Shared} {Q : Value → Shared → Prop}
theorem meth_form {M : Model} {A : Around} {env : Env} {x : Str} {name : Str} {p apos pos : Pos} {args : List Expr} (hp : (apos.endLine == pos.line) = true) (hs : (backTo pos (starEach args env)).all (fun a => !a.1) = true) (hn : args.length < 30)
    (h : wpAny M A (eval (.Name x p) env) (fun ov s₁ => wpAny M A (getMethod ov name (do return (← importBound (.Name x p) env).getD true)) (fun fx s₂ => wpAny M A (callWith pos fx.1 fx.2 (backTo pos (starEach args env)) []) Q E s₂) E s₁) E s) :
    wpAny M A (eval (.Call (.Attribute (.Name x p) name apos) args [] pos) env) Q E s := by
  have few : methodCallForm (args.length + ([] : List Keyword).length) (backTo pos (starEach args env)) (backToKw pos (keywordEach [] env)) = true := by
    have hk : backToKw pos (keywordEach [] env) = [] := rfl
    unfold methodCallForm
    rw [hs, hk]
    simp only [List.all_nil, Bool.and_self, List.isEmpty_nil, if_true, List.length_nil, Nat.add_zero, Bool.true_and]
    exact decide_eq_true hn
  show wpAny M A (do
    let ov ← eval (.Name x p) env
    standAt apos.atName
    methodCall (.Name x p) name apos pos env ov (args.length + ([] : List Keyword).length) (backTo pos (starEach args env)) (backToKw pos (keywordEach [] env))) Q E s
  refine wpAny_bind (wpAny_mono h (fun ov s₁ h₁ => wpAny_bind (wpAny_standAt ?_)) fun _ _ e => e)
  unfold methodCall
  rw [few]
  unfold calleeOf
  simp only [if_true]
  refine wpAny_bind (wpAny_holding (wpAny_mono h₁ (fun fx s₂ h₂ => ?_) fun _ _ e => e))
  obtain ⟨f, first⟩ := fx
  dsimp only
  have hpos : methodCallPos true (.Name x p) env apos pos = pure pos := by
    unfold methodCallPos
    simp only [Bool.not_true, Bool.false_or, hp, if_true]
  rw [hpos]
  exact wpAny_bind (wpAny_pure h₂)
theorem getMethod_L {l : Addr} {items : Array Value} {n : Nat} {name : Str} {id : String} {pl : Sem Bool} {Q : Value × List Value → Shared → Prop} {M : Model} {A : Around} (hl : s.heap.get? l = some { cls := .type "list", data := .seq items n })
    (slot : PySem.Slot "list" name id) (hty : typeOf (.builtin id) = pure (.type "method_descriptor")) (h : Q (.builtin id, [.ref l]) s) : wpAny M A (getMethod (.ref l) name pl) Q E s :=
  getMethod_builtin ⟨_, hl, rfl⟩ F.plainAttrs_list slot hty (fun a e => by cases e; exact ⟨_, hl, rfl⟩) h
theorem getMethod_D {l : Addr} {o : Obj} {name : Str} {id : String} {pl : Sem Bool} {Q : Value × List Value → Shared → Prop} {M : Model} {A : Around} (hl : s.heap.get? l = some o) (he : o.ExactDict)
    (slot : PySem.Slot "dict" name id) (hty : typeOf (.builtin id) = pure (.type "method_descriptor")) (h : Q (.builtin id, [.ref l]) s) : wpAny M A (getMethod (.ref l) name pl) Q E s :=
  getMethod_builtin ⟨_, hl, he.1⟩ F.plainAttrs_dict slot hty (fun a e => by cases e; exact ⟨_, hl, he.2.1⟩) h
end
theorem name_at {C : Cx} (O : C.Ok) {E : Value → Shared → Prop} {s : Shared} {m : Str → Option Value} {ow : Nat → Option (Addr × Obj)} {S : Heap} {Q : Value → Shared → Prop} {st : St} {x : Str} {pos : Pos} {i : Nat} {v : Value} (G : Good C m st ow S s.heap)
    (hx : posOf x C.env.scope.names 0 = some (i, .local)) (hd : (x == ("__debug__" : Str)) = false) (hm : m x = some v) (q : Q v s) : wpAny (model C.prog C.w) C.A (eval (.Name x pos) C.env) Q E s :=
  wpAny_Name (wpAny_loadName_local O.kind (posOf_get hx).2 G.1.ns hm q) hd
section
variable {C : Cx} {m : Str → Option Value} {st : St} {ow : Nat → Option (Addr × Obj)} {S h : Heap}
theorem Good.ol (G : Good C m st ow S h) {i : Nat} {x : Str} (hx : posOf x C.env.scope.names 0 = some (i, .local)) {xs : List PyData} (e : st.at i = .ol xs) :
    ∃ a vs n, m x = some (.ref a) ∧ ow i = some (a, ({ cls := .type "list", data := .seq (List.toArray vs) n } : Obj)) ∧ h.get? a = some ({ cls := .type "list", data := .seq (List.toArray vs) n } : Obj) ∧ RDs S vs xs ∧ lenOk xs = true := by
  have sl := G.slot (posOf_get hx).1
  rw [e] at sl
  obtain ⟨a, vs, n, _, h1, h2, h3, h4⟩ := sl
  exact ⟨a, vs, n, h1, h2, (G.1.own _ _ _ h2).1, h3, h4⟩
theorem Good.turnL (G : Good C m st ow S h) (O : C.Ok) {i : Nat} {x : Str} (hx : posOf x C.env.scope.names 0 = some (i, .local)) {a : Addr} {o : Obj} {ws : List Value} {n' : Nat} {ys : List PyData} {f : Obj → Obj}
    (hm : m x = some (.ref a)) (ho : ow i = some (a, o)) (hf : f o = { cls := .type "list", data := .seq (List.toArray ws) n' }) (hr : RDs S ws ys) (hl : lenOk ys = true) :
    Good C m (st.put i (.ol ys)) (fun j => if j = i then some (a, { cls := .type "list", data := .seq (List.toArray ws) n' }) else ow j) S (h.update a f) := by
  have hg := (G.1.own _ _ _ ho).1
  have I := G.1.turn (h' := h.update a f) (o' := { cls := .type "list", data := .seq (List.toArray ws) n' }) ho (Heap.SameBut.update ..) (by rw [← hf]; exact Heap.get?_update_self f hg (by rw [hf]; rfl))
  exact G.put O (posOf_get hx).1 (StaysIn.refl S) I (fun j hj => by simp [hj]) ⟨a, ws, n', rfl, hm, by simp, hr, hl⟩
theorem Good.turnD (G : Good C m st ow S h) (O : C.Ok) {i : Nat} {x : Str} (hx : posOf x C.env.scope.names 0 = some (i, .local)) {a : Addr} {o o' : Obj} {h' : Heap} {es' : List DictEntry} {n' : Nat} {kvs : List (PyData × PyData)}
    (hm : m x = some (.ref a)) (ho : ow i = some (a, o)) (hs : Heap.SameBut a h h') (hg : h'.get? a = some o') (h1 : o'.ExactDict) (h2 : o'.data = .dict (List.toArray es') n') (h3 : Ents C.w.params S es' kvs) (h4 : (kvs.map (·.1)).Nodup) (h5 : kvs.length ≤ 1048577) (h6 : a ≠ sysModules) :
    Good C m (st.put i (.od kvs)) (fun j => if j = i then some (a, o') else ow j) S h' := by
  have I := G.1.turn ho hs hg
  exact G.put O (posOf_get hx).1 (StaysIn.refl S) I (fun j hj => by simp [hj]) ⟨a, o', es', n', rfl, hm, by simp, h1, h2, h3, h4, h5, h6⟩
end
theorem mapSeq_list (f : Array Value → Array Value) (vs : Array Value) (n : Nat) : ∃ n', Obj.mapSeq f { cls := .type "list", data := .seq vs n } = { cls := .type "list", data := .seq (f vs) n' } := ⟨_, rfl⟩
section
variable {C : Cx} {st st1 st2 : St}
set_option tactic.hygienic true in
theorem r_pop (O : C.Ok) {x : Str} {p ap pos : Pos} {i : Nat} {d : PyData} (hx : posOf x C.env.scope.names 0 = some (i, .local)) (hd : (x == ("__debug__" : Str)) = false) (hp : (ap.endLine == pos.line) = true) (e : popK i st = some (d, st1)) :
    EvE C (.Call (.Attribute (.Name x p) "pop" ap) [] [] pos) st d st1 := by
  intro E s m ow S Q G P
  unfold popK at e
  split at e
  · rename_i xs hs
    refine e35 (G.ol hx hs) fun a vs n hm ho hg hr hl => ?_
    split at e
    · rename_i y hy
      cases e
      have hlen := hr.length
      have hne : xs ≠ [] := fun z => by rw [z] at hy; cases hy
      have hd' : xs[xs.length - 1]? = some d := by rw [List.getLast?_eq_getElem?] at hy; exact hy
      refine e12 (hr.get hd') fun v hv rv => ?_
      refine meth_form hp (by rfl) (by decide) (name_at O G hx hd hm (getMethod_L hg F.slot_list_pop F.type_list_pop ?_))
      have hz : vs.toArray.size ≤ sizeLine := by rw [List.size_toArray, hlen, sizeLine_eq]; have := lenOk_le.mp hl; exact leE this rfl
      refine PySem.P.pop_list (y := v) hg (by rw [List.size_toArray, List.getElem?_toArray, hlen]; exact hv) ?_ hz
      refine e11 (mapSeq_list (fun xs => xs.eraseIdxIfInBounds (vs.toArray.size - 1)) vs.toArray n) fun n' hn' => ?_
      have he : vs.toArray.eraseIdxIfInBounds (vs.toArray.size - 1) = (vs.dropLast).toArray := by
        have hp : 0 < vs.length := by rw [hlen]; exact List.length_pos_iff.mpr hne
        apply Array.toList_inj.mp
        have hp' : vs.length - 1 < vs.length := Nat.sub_lt hp (Nat.succ_pos 0)
        simp [Array.eraseIdxIfInBounds, hp', List.eraseIdx_length_sub_one]
      rw [he] at hn'
      exact P _ _ s.toks _ S (StaysIn.refl S) (G.turnL O hx hm ho hn' hr.dropLast (lenOk_of_le hl (by simp))) rv
    · exact noS e
  · exact noS e
end
theorem ValAt.uniq {S : Heap} {env : Env} {m : Str → Option Value} {x : Str} {k : NameKind} {v u : Value} (a : ValAt S env m x k v) (b : ValAt S env m x k u) : v = u := by
  cases k with
  | «local» => exact Option.some.inj (a.symm.trans b)
  | cell =>
    obtain ⟨c, h1, o, h2, h3⟩ := a; obtain ⟨c', g1, o', g2, g3⟩ := b
    cases h1.symm.trans g1; cases h2.symm.trans g2; rw [h3] at g3; cases g3; rfl
  | free =>
    obtain ⟨c, h1, o, h2, h3⟩ := a; obtain ⟨c', g1, o', g2, g3⟩ := b
    cases h1.symm.trans g1; cases h2.symm.trans g2; rw [h3] at g3; cases g3; rfl
  | globalExplicit => cases a
  | globalImplicit => cases a
structure NameOk (C : Cx) (x : Str) (i : Nat) (k : NameKind) : Prop where
  pos : posOf x C.env.scope.names 0 = some (i, k)
  dbg : (x == ("__debug__" : Str)) = false
  cls : k = .free → (x == ("__classdict__" : Str)) = false
section
variable {C : Cx} {m : Str → Option Value} {st : St} {ow : Nat → Option (Addr × Obj)} {S : Heap}
theorem name_any (O : C.Ok) {E : Value → Shared → Prop} {s : Shared} {Q : Value → Shared → Prop} {x : Str} {pos : Pos} {i : Nat} {k : NameKind} {v : Value} (G : Good C m st ow S s.heap)
    (N : NameOk C x i k) (hv : ValAt S C.env m x k v) (q : Q v s) : wpAny (model C.prog C.w) C.A (eval (.Name x pos) C.env) Q E s := by
  refine and2 (posOf_get N.pos) fun h1 h2 => ?_
  refine wpAny_Name ?_ N.dbg
  cases k with
  | «local» => exact wpAny_loadName_local O.kind h2 G.1.ns hv q
  | cell => obtain ⟨c, hc, o, ho, hd⟩ := hv; exact wpAny_loadName_cell O.kind h2 hc ⟨o, G.1.stay _ _ ho, hd⟩ q
  | free => obtain ⟨c, hc, o, ho, hd⟩ := hv; exact wpAny_loadName_free O.kind h2 hc ⟨o, G.1.stay _ _ ho, hd⟩ q (N.cls rfl)
  | globalExplicit => cases hv
  | globalImplicit => cases hv
theorem Good.some_val {h : Heap} (G : Good C m st ow S h) {x : Str} {i : Nat} {k : NameKind} (N : NameOk C x i k) (e : (st.at i).any = true) : ∃ v, ValAt S C.env m x k v := by
  have sl := G.slot (posOf_get N.pos).1
  cases hs : st.at i with
  | un => rw [hs] at e; exact fTr e
  | d d => rw [hs] at sl; obtain ⟨v, h, _⟩ := sl; exact ⟨v, h⟩
  | ol d => rw [hs] at sl; obtain ⟨a, vs, n, rfl, h, _⟩ := sl; exact ⟨_, h⟩
  | od d => rw [hs] at sl; obtain ⟨a, vs, n, _, rfl, h, _⟩ := sl; exact ⟨_, h⟩
  | os d => rw [hs] at sl; obtain ⟨a, vs, n, _, rfl, h, _⟩ := sl; exact ⟨_, h⟩
end
theorem gd_some {α : Type} {p : Slot → Bool} {i : Nat} {f : St → Ans α} {st : St} {r : α × St} (h : gd p i f st = some r) : p (st.at i) = true ∧ f st = some r := by
  unfold gd at h
  split at h
  · exact ⟨by assumption, h⟩
  · exact noS h
theorem bd_some {α β : Type} {o : Ans α} {f : α → St → Ans β} {r : β × St} (h : bd o f = some r) : ∃ a st, o = some (a, st) ∧ f a st = some r := by
  unfold bd at h
  split at h
  · exact ⟨_, _, rfl, h⟩
  · exact noS h
theorem bd2_some {α β γ : Type} {o : Ans α} {g : St → Ans β} {f : α → β → St → Ans γ} {r : γ × St} (h : bd2 o g f = some r) : ∃ a st b st', o = some (a, st) ∧ g st = some (b, st') ∧ f a b st' = some r := by
  unfold bd2 at h
  split at h
  · refine e22 (bd_some h) fun b st' h1 h2 => ?_
    exact ⟨_, _, _, _, rfl, h1, h2⟩
  · exact noS h
theorem lift_some {α : Type} {o : Option α} {st : St} {r : α × St} (h : lift o st = some r) : o = some r.1 ∧ st = r.2 := by
  unfold lift at h
  split at h
  · obtain rfl := Option.some.inj h; exact ⟨rfl, rfl⟩
  · exact noS h
theorem tailL {prog : Program} {w : World} {A : Around} {E : Value → Shared → Prop} {s : Shared} {Q : Value → Shared → Prop} {value slice : Expr} {o i : Value} {T : String} {ops : List Value} {id : String} (hT : s.TypeIs o T) (sl : PySem.Slot T "__getitem__" id)
    (hs : subscripted slice false o i = operate ops (getItem o i)) (h : wpAny (model prog w) A (getItem o i) Q E s) : wpAny (model prog w) A (subscriptTail value slice o i) Q E s := tail_any hT sl.lookup h hs
theorem SeqIs.typeIs {s : Shared} {a : Addr} {T : String} {vs : List Value} (x : SeqIs s.heap a T vs) : s.TypeIs (.ref a) T := let ⟨o, h1, h2, _⟩ := x; ⟨o, h1, h2⟩
section
variable {C : Cx} {E : Value → Shared → Prop} {s : Shared} {m : Str → Option Value} {ow : Nat → Option (Addr × Obj)} {S : Heap} {Q : Value → Shared → Prop} {st : St} {value slice : Expr}
theorem op_idx (C : Cx) {a b : Value} {x y z : PyData} (hs : ∀ o i, subscripted slice false o i = operate [o, i] (getItem o i))
    (G : Good C m st ow S s.heap) (ra : RD S a x) (rb : RD S b y) (e : idxV x y = some z) (P : Post C m st S s (fun S v => RD S v z) Q) : wpAny (model C.prog C.w) C.A (subscriptTail value slice a b) Q E s := by
  unfold idxV at e
  split at e
  · refine e24 ra.list_inv fun a vs eq1 h1 h2 h3 => ?_; subst eq1; refine e11 rb.int_inv fun u eq1 => ?_; subst eq1
    refine e12 (itemV_some e) fun j hj he => ?_
    refine e12 (h2.get he) fun v hv rv => ?_
    have h1' := h1.keeps G.1.stay
    exact tailL h1'.typeIs F.slot_list_getitem (hs _ _) (getL h1' (by rw [h2.length]; exact hj) hv (by rw [h2.length]; have := lenOk_le.mp h3; exact leE this rfl) (P v s.heap s.toks ow S (StaysIn.refl S) G rv))
  · refine e24 ra.tuple_inv fun a vs eq1 h1 h2 h3 => ?_; subst eq1; refine e11 rb.int_inv fun u eq1 => ?_; subst eq1
    refine e12 (itemV_some e) fun j hj he => ?_
    refine e12 (h2.get he) fun v hv rv => ?_
    have h1' := h1.keeps G.1.stay
    exact tailL h1'.typeIs F.slot_tuple_getitem (hs _ _) (getT h1' (by rw [h2.length]; exact hj) hv (by rw [h2.length]; have := lenOk_le.mp h3; exact leE this rfl) (P v s.heap s.toks ow S (StaysIn.refl S) G rv))
  · exact noS e
end
noncomputable def notSlice : Expr → Bool
  | .Slice .. => false
  | _ => true
theorem subscripted_of {e : Expr} (h : notSlice e = true) (o i : Value) : subscripted e false o i = operate [o, i] (getItem o i) := by
  cases e <;> first | rfl | exact fTr h
section
variable {C : Cx} {st st1 st2 : St}
theorem r_idx {a b : Expr} {pos : Pos} {x y d : PyData} (hn : notSlice b = true) (ha : EvE C a st x st1) (hb : EvE C b st1 y st2) (e : idxV x y = some d) : EvE C (.Subscript a b pos) st d st2 := fun E s m ow S Q G P =>
  Subscript_ (ha _ _ _ _ _ _ G fun v h1 t1 ow1 S1 le1 G1 ra => hb _ _ _ _ _ _ G1 fun u h2 t2 ow2 S2 le2 G2 rb =>
    op_idx C (subscripted_of hn) G2 (ra.keeps le2) rb e fun v h3 t3 ow3 S3 le3 G3 r3 => P v h3 t3 ow3 S3 (tr le1 (tr le2 le3)) G3 r3)
end
section
open Classical
variable {C : Cx} {st st1 st2 : St}
structure DictAt (C : Cx) (m : Str → Option Value) (ow : Nat → Option (Addr × Obj)) (S h : Heap) (x : Str) (i : Nat) (k : NameKind) (kvs : List (PyData × PyData)) (a : Addr) (o : Obj) (xs : List DX) (n : Nat) : Prop where
  k : k = .local
  m : m x = some (.ref a)
  ow : ow i = some (a, o)
  get : h.get? a = some o
  ex : o.ExactDict
  dat : o.data = .dict ((xs.map (entryOfKey (dk C.prog C.w))).toArray) n
  D : Dx C.prog C.w S xs kvs
  nd : (xs.map (·.1)).Nodup
  le : kvs.length ≤ 1048577
  len : xs.length = kvs.length
  sm : a ≠ sysModules
  kv : (kvs.map (·.1)).Nodup
theorem Good.dict {m : Str → Option Value} {ow : Nat → Option (Addr × Obj)} {S h : Heap} (G : Good C m st ow S h) {i : Nat} {x : Str} {k : NameKind} (N : NameOk C x i k) {kvs : List (PyData × PyData)} (e : st.at i = .od kvs) : ∃ a o xs n, DictAt C m ow S h x i k kvs a o xs n := by
  have sl := G.slot (posOf_get N.pos).1
  rw [e] at sl
  obtain ⟨a, o, es, n, h0, h1, h2, h3, h4, h5, h6, h7, h8⟩ := sl
  refine e12 (ents_dk C.prog h5) fun xs eq1 D => ?_; subst eq1
  exact ⟨a, o, xs, n, h0, h1, h2, (G.1.own _ _ _ h2).1, h3, h4, D, D.nodup h6, h7, by have := congrArg List.length D.keys; simpa using this, h8, h6⟩
theorem Dx.ofH {prog : Program} {w : World} {S h : Heap} {a : Addr} {o : Obj} {xs : List DX} {kvs : List (PyData × PyData)} {n : Nat} (D : Dx prog w S xs kvs) (st : S.StaysIn h) (hg : h.get? a = some o) (hE : o.ExactDict) (hd : o.data = .dict ((xs.map (entryOfKey (dk prog w))).toArray) n) (hn : (xs.map (·.1)).Nodup) :
    h.DictOfH (dk prog w) a xs := ⟨o, _, n, hg, hE, hd, rfl, fun x hx => let ⟨as, q⟩ := D.is x hx; ⟨as, Reads.keeps st q⟩, hn⟩
end
theorem ents_find {P : Params} {S : Heap} {es : List DictEntry} {kvs : List (Str × PyData)} (E : EntS P S es kvs) {k : Str} {d : PyData} (h : lookS kvs k = some d) : ∃ v, findBy Value.isStrOf es.toArray k = some v ∧ RD S v d := by
  unfold findBy
  rw [List.find?_toArray]
  induction E with
  | nil => exact noS h
  | @cons x t v dv es kvs hv _ ih =>
    rw [lookS] at h
    refine if_or h (fun hx h => ?_) (fun hx h => ?_)
    · obtain rfl := Option.some.inj h
      subst hx
      exact ⟨v, by simp [Value.isStrOf], hv⟩
    · refine e12 (ih h) fun u h1 h2 => ?_
      refine ⟨u, ?_, h2⟩
      rw [List.find?_cons]
      have : Value.isStrOf k (.str x t) = false := by
        simp [Value.isStrOf]
        exact hx
      simp only [this]
      exact h1
theorem ents_keys {P : Params} {S : Heap} {es : List DictEntry} {kvs : List (Str × PyData)} (E : EntS P S es kvs) : ∀ e ∈ es, ∃ x t, e.key = .str x t ∧ e.hash = PyData.keyHash P x := by
  induction E with
  | nil => intro e he; cases he
  | @cons x t v dv es kvs hv _ ih =>
    intro e he
    rcases List.mem_cons.mp he with rfl | he
    · exact ⟨x, t, rfl, rfl⟩
    · exact ih e he
theorem str_item {prog : Program} {w : World} {A : Around} {E : Value → Shared → Prop} {s : Shared} {Q : Value → Shared → Prop} {value slice : Expr} {S : Heap} {a : Addr} {o : Obj} {es : List DictEntry} {n : Nat} {kvs : List (Str × PyData)} {k : Str} {t : Tok} {d : PyData}
    (hg : s.heap.get? a = some o) (hE : o.ExactDict) (hd : o.data = .dict es.toArray n) (r : EntS w.params S es kvs) (hk : lookS kvs k = some d) (hs : ∀ o i, subscripted slice false o i = operate [o, i] (getItem o i))
    (q : ∀ v tk, RD S v d → Q v { s with toks := tk }) : wpAny (model prog w) A (subscriptTail value slice (.ref a) (.str k t)) Q E s := by
  refine e12 (ents_find r hk) fun v h1 h2 => ?_
  have hm : s.heap.MapOf (strKind prog w) a (fun k => findBy Value.isStrOf es.toArray k) := ⟨o, _, n, hg, hE, hd, fun e he => by
    refine e22 (ents_keys r e (by simpa using he)) fun x t e1 e2 => ?_
    exact ⟨x, by rw [e1]; exact strKind_is prog w x t, e2⟩, fun k => rfl⟩
  exact tailL hm.typeIs slot_dict_getitem (hs _ _) (wpAny_getItem_of (strKind_is prog w k t) hm h1 (q v _ h2))
section
open Classical
variable {C : Cx} {st st1 st2 : St}
set_option tactic.hygienic true in
theorem r_idxN (O : C.Ok) {x : Str} {i : Nat} {k : NameKind} {p : Pos} (N : NameOk C x i k) {b : Expr} {pos : Pos} {y d : PyData} (hn : notSlice b = true) (h0 : (st.at i).any = true) (hb : EvE C b st y st1) (e : idxN i y st1 = some (d, st2)) :
    EvE C (.Subscript (.Name x p) b pos) st d st2 := by
  intro E s m ow S Q G P
  refine e11 (G.some_val N h0) fun v hv => ?_
  refine Subscript_ (name_any O G N hv (hb _ _ _ _ _ _ G fun u h2 t2 ow2 S2 le2 G2 rb => ?_))
  have hv2 := hv.keeps le2
  have sl := G2.slot (posOf_get N.pos).1
  unfold idxN at e
  split at e
  · rename_i z hz
    rw [hz] at sl
    obtain ⟨v', hv', r⟩ := sl
    cases hv2.uniq hv'
    refine and2 (lift_some e) fun e1 eq1 => ?_; subst eq1
    exact op_idx C (subscripted_of hn) G2 r rb e1 fun v h3 t3 ow3 S3 le3 G3 r3 => P v h3 t3 ow3 S3 (tr le2 le3) G3 r3
  · rename_i xs hz
    rw [hz] at sl
    obtain ⟨a, vs, n, rfl, hm, ho, hr, hl⟩ := sl
    cases hv2.uniq (v := v) (u := .ref a) (k := .local) hm
    refine and2 (lift_some e) fun e1 eq1 => ?_; subst eq1
    unfold idxV at e1
    split at e1
    · rename_i hxs
      cases hxs
      refine e11 rb.int_inv fun u eq1 => ?_; subst eq1
      refine e12 (itemV_some e1) fun j hj he => ?_
      refine e12 (hr.get he) fun w hw rw' => ?_
      have h1' : SeqIs h2 a "list" vs := ⟨_, (G2.1.own _ _ _ ho).1, rfl, n, rfl⟩
      exact tailL (SeqIs.typeIs (s := { s with heap := h2, toks := t2 }) h1') F.slot_list_getitem (subscripted_of hn _ _) (getL h1' (by rw [hr.length]; exact hj) hw (by rw [hr.length]; have := lenOk_le.mp hl; exact leE this rfl) (P w h2 t2 ow2 S2 le2 G2 rw'))
    · rename_i hxs; cases hxs
    · exact noS e1
  · rename_i kvs hz
    refine and2 (if_some e) fun hk e => ?_
    · refine and2 (lift_some e) fun e1 eq1 => ?_; subst eq1
      obtain ⟨a, o, xs, n, rfl, hm, ho, hg, hE, hd, D, hnd, hle, hlen, hsm, hkv⟩ := G2.dict N hz
      cases hv2.uniq (v := v) (u := .ref a) (k := .local) hm
      obtain ⟨b, rfl, hk1, hk2, as, hra⟩ := keyRD rb hk
      have hm := D.ofH G2.1.stay hg hE hd hnd
      refine and2 (look_at (⟨y, hk1, hk2⟩ : DK) D) fun h3 h4 => ?_
      have hu : (dk C.prog C.w).room C.A.in1 := by show C.A.units + 1 + 128 < cLine; have := O.unt; exact nlt (fk (c3 C.A.units C.n cLine) [(1, .add (.add (.add (.var 0) (.mulL 8 (.var 1))) (.num 256)) (.num 1), .var 2), (8, .num 0, .var 1), (1, .var 2, .add (.add (.var 0) (.num 1)) (.num 128))] rfl (nt this) (n0 C.n))
      cases q : atKey xs (⟨y, hk1, hk2⟩ : DK) with
      | none => rw [h4 q] at e1; exact noS e1
      | some pr =>
        refine e12 (h3 pr q) fun d' h5 h6 => ?_
        rw [h5] at e1
        obtain rfl := Option.some.inj e1
        exact tailL hm.typeIs (s := { s with heap := h2, toks := t2 }) slot_dict_getitem (subscripted_of hn _ _) (wpAny_getItem_heap hu ⟨as, Reads.keeps G2.1.stay hra⟩ hm q (P _ h2 _ ow2 S2 le2 G2 h6))
  · rename_i kvs hz
    rw [hz] at sl
    obtain ⟨a, o, es, n, rfl, hm, ho, hE, hd, hes, hnd⟩ := sl
    cases hv2.uniq (v := v) (u := .ref a) (k := .local) hm
    unfold lookK at e
    split at e
    · rename_i key
      refine and2 (lift_some e) fun e1 eq1 => ?_; subst eq1
      obtain ⟨⟨t, rfl⟩, _⟩ := rb.str_inv
      exact str_item (s := { s with heap := h2, toks := t2 }) (G2.1.own _ _ _ ho).1 hE hd hes e1 (subscripted_of hn) fun v tk r => P v h2 tk ow2 S2 le2 G2 r
    · exact noS e
  · exact noS e
set_option tactic.hygienic true in
theorem r_inv (O : C.Ok) {x : Str} {i : Nat} {k : NameKind} {p pos : Pos} (N : NameOk C x i k) {a : Expr} {y d : PyData} (hb : EvE C a st y st1) (e : inK i y st1 = some (d, st2)) :
    EvE C (.Compare a [.In] [.Name x p] pos) st d st2 := by
  intro E s m ow S Q G P
  refine wpAny_Compare1 (hb _ _ _ _ _ _ G fun u h2 t2 ow2 S2 le2 G2 rb => ?_) rfl
  unfold inK at e
  split at e
  · rename_i kvs hz
    refine and2 (if_some e) fun hk e => ?_
    · obtain ⟨rfl, rfl⟩ := some2 e
      obtain ⟨a, o, xs, n, rfl, hm, ho, hg, hE, hd, D, hnd, hle, hlen, hsm, hkv⟩ := G2.dict N hz
      refine name_any O G2 N hm ?_
      obtain ⟨b, rfl, hk1, hk2, as, hra⟩ := keyRD rb hk
      have hm := D.ofH G2.1.stay hg hE hd hnd
      have hu : (dk C.prog C.w).room C.A.in1 := by show C.A.units + 1 + 128 < cLine; have := O.unt; exact nlt (fk (c3 C.A.units C.n cLine) [(1, .add (.add (.add (.var 0) (.mulL 8 (.var 1))) (.num 256)) (.num 1), .var 2), (8, .num 0, .var 1), (1, .var 2, .add (.add (.var 0) (.num 1)) (.num 128))] rfl (nt this) (n0 C.n))
      refine wpAny_in_heap (k := (⟨y, hk1, hk2⟩ : DK)) hu ⟨as, Reads.keeps G2.1.stay hra⟩ (by simpa using hsm) hm ?_
      rw [← look_isSome (k := ⟨y, hk1, hk2⟩) D]
      exact P _ h2 _ ow2 S2 le2 G2 (.bool _)
  · rename_i z hz
    have sl := G2.slot (posOf_get N.pos).1
    rw [hz] at sl
    obtain ⟨v', hv', r⟩ := sl
    unfold cmpK boolK at e
    split at e
    · rename_i c hc
      obtain ⟨rfl, rfl⟩ := some2 e
      exact name_any O G2 N hv' (op_cmp C O G2 rb r hc fun v h3 t3 ow3 S3 le3 G3 r3 => P v h3 t3 ow3 S3 (tr le2 le3) G3 (by rw [r3]; exact .bool c))
    · exact noS e
  · exact noS e
end
section
open Classical
variable {C : Cx} {st st1 st2 : St}
theorem args_plain {M : Model} {A : Around} {env : Env} {E : Value → Shared → Prop} {s : Shared} {f : Value} {e : Expr} {r : List Expr} {pos : Pos} {Q : Args → Shared → Prop} (he : starEach (e :: r) env = (false, eval e env) :: starEach r env)
    (h : wpAny M A (spliced (backTo pos (starEach (e :: r) env))) (fun vs s' => Q ⟨vs, []⟩ s') E s) : wpAny M A (evalArgs f true (backTo pos (starEach (e :: r) env)) []) Q E s := by
  rw [he] at h ⊢
  exact Calls.evalArgs_plain h
noncomputable def isStarE : Expr → Bool
  | .Starred .. => true
  | _ => false
noncomputable def starOk : List Expr → Bool
  | [] => true
  | e :: r => !isStarE e && starOk r
theorem star_head {e : Expr} {r : List Expr} {env : Env} (h : isStarE e = false) : starEach (e :: r) env = (false, eval e env) :: starEach r env := by
  cases e with
  | Starred => exact tFa h
  | _ => rfl
theorem star_cons {e : Expr} {r : List Expr} {env : Env} (h : starOk (e :: r) = true) : starEach (e :: r) env = (false, eval e env) :: starEach r env ∧ starOk r = true :=
  ⟨star_head (notB (andB h).1), (andB h).2⟩
theorem star_all {pos : Pos} {env : Env} : ∀ {es : List Expr}, starOk es = true → (backTo pos (starEach es env)).any (·.1) = false ∧ (backTo pos (starEach es env)).all (fun a => !a.1) = true
  | [], _ => ⟨rfl, rfl⟩
  | e :: r, h => by
    refine and2 (star_cons (env := env) h) fun h1 h2 => ?_
    refine and2 (star_all (pos := pos) (env := env) h2) fun h3 h4 => ?_
    rw [h1]
    constructor
    · show (_ || (backTo pos (starEach r env)).any (·.1)) = false
      rw [h3]; rfl
    · show (_ && (backTo pos (starEach r env)).all (fun a => !a.1)) = true
      rw [h4]; rfl
theorem isD_od {s : Slot} (h : s.isD = true) : ∃ kvs, s = .od kvs := by cases s <;> first | exact ⟨_, rfl⟩ | exact fTr h
theorem isL_ol {s : Slot} (h : s.isL = true) : ∃ xs, s = .ol xs := by cases s <;> first | exact ⟨_, rfl⟩ | exact fTr h
set_option tactic.hygienic true in
theorem r_dget (O : C.Ok) {x : Str} {i : Nat} {p ap pos : Pos} {a b : Expr} {y z d : PyData} (N : NameOk C x i .local) (hp : (ap.endLine == pos.line) = true) (h0 : (st.at i).isD = true) (hs : starOk [a, b] = true)
    (h : EvL C pos [a, b] st [y, z] st1) (e : dgetK i y z st1 = some (d, st2)) : EvE C (.Call (.Attribute (.Name x p) "get" ap) [a, b] [] pos) st d st2 := by
  intro E s m ow S Q G P
  refine e11 (isD_od h0) fun kvs0 hz0 => ?_
  obtain ⟨a0, o0, xs0, n0, _, hm0, ho0, hg0, hE0, -⟩ := G.dict N hz0
  refine meth_form hp (star_all hs).2 (by simp) (name_any O G N hm0 (getMethod_D hg0 hE0 F.slot_dict_get F.type_dict_get ?_))
  refine method_meetsIn F.slot_dict_get F.entry_dict_get (star_all hs).1 (args_plain (star_cons hs).1 (h _ _ _ _ _ _ G fun vs h2 t2 ow2 S2 le2 G2 r2 => ?_))
  refine e23 (RDs.two_inv r2) fun v0 v1 eq0 rk rv => ?_; subst eq0
  unfold dgetK at e
  split at e
  · rename_i kvs hz
    refine and2 (if_some e) fun hk e => ?_
    · obtain ⟨rfl, rfl⟩ := some2 e
      obtain ⟨a, o, xs, n, _, hm, ho, hg, hE, hd, D, hnd, hle, hlen, hsm, hkv⟩ := G2.dict N hz
      cases Option.some.inj (hm0.symm.trans hm)
      obtain ⟨b, rfl, hk1, hk2, as, hra⟩ := keyRD rk hk
      have hM := D.ofH G2.1.stay hg hE hd hnd
      have hu : (dk C.prog C.w).room C.A.in1 := by show C.A.units + 1 + 128 < cLine; have := O.unt; omega
      refine and2 (look_at (⟨y, hk1, hk2⟩ : DK) D) fun h3 h4 => ?_
      refine ⟨rfl, hM.typeIs (s := { s with heap := h2, toks := t2 }), F.args_dict_get_3 _ _ _, _, meetsH_dict_get_default (dk C.prog C.w) a0 b (by simpa using hsm) _, hu, (⟨y, hk1, hk2⟩ : DK), xs, ⟨as, Reads.keeps G2.1.stay hra⟩, hM, ?_⟩
      cases q : atKey xs (⟨y, hk1, hk2⟩ : DK) with
      | none =>
        rw [h4 q] at P
        exact P _ h2 _ ow2 S2 le2 G2 rv
      | some pr =>
        refine e12 (h3 pr q) fun d' h5 h6 => ?_
        rw [h5] at P
        exact P _ h2 _ ow2 S2 le2 G2 h6
  · exact noS e
theorem wpAny_ite_pos {α : Type} {M : Model} {A : Around} {c : Prop} [Decidable c] {a b : Sem α} {Q : α → Shared → Prop} {E : Value → Shared → Prop} {s : Shared} (h : c) (k : wpAny M A a Q E s) : wpAny M A (if c then a else b) Q E s := by rw [if_pos h]; exact k
theorem wpAny_ite_neg {α : Type} {M : Model} {A : Around} {c : Prop} [Decidable c] {a b : Sem α} {Q : α → Shared → Prop} {E : Value → Shared → Prop} {s : Shared} (h : ¬ c) (k : wpAny M A b Q E s) : wpAny M A (if c then a else b) Q E s := by rw [if_neg h]; exact k
theorem meets_pop_dk {prog : Program} {w : World} {d a : Addr} (hd : (d == sysModules) = false) (dflt : Value) : MeetsIn prog w (Builtin.«dict.pop» ⟨[.ref d, .ref a, dflt], []⟩) (fun A R s => A.units + 129 < cLine ∧ ∃ (k : DK) (xs : List DX) (o : Obj) (n : Nat),
      (dk prog w).is s.heap k a ∧ s.heap.get? d = some o ∧ o.ExactDict ∧ o.data = .dict (xs.map (entryOfKey (dk prog w))).toArray n ∧ (∀ x ∈ xs, (dk prog w).is s.heap x.1 x.2.1) ∧ (xs.map (·.1)).Nodup ∧ xs.length ≤ sizeLine ∧
      ((∀ (j : Nat) (p : Addr × Value), xs[j]? ≠ some (k, p)) → ∀ tk, R (.ok (.ret dflt)) { s with toks := tk }) ∧
      (∀ (j : Nat) (p : Addr × Value), xs[j]? = some (k, p) → ∀ tk, R (.ok (.ret p.2)) { s with heap := s.heap.update d (Obj.mapDictKeys (·.eraseIdxIfInBounds j)), toks := tk })) :=
  .of_wp fun A R s hyp => by
    refine and2 hyp fun hu hyp => e41 hyp fun k xs o n hyp => and4 hyp fun hk ho hE hyp => and4 hyp fun hdat his hn hyp => and3 hyp fun hsz q0 q1 => ?_
    unfold Builtin.«dict.pop»
    refine wpAny_bind ?_
    refine wpAny_bind (wpAny_notOrdered_dict ⟨o, ho, hE.1⟩ ?_)
    refine wpAny_pure ?_
    have hpart : (keyPart (Value.ref a)).isSome = false := rfl
    refine wpAny_bind (wpAny_dictEntries ho hdat (wpAny_bind (wpAny_pure ?_)))
    by_cases hx : xs = []
    · subst hx
      refine wpAny_ite_pos (by rfl) ?_
      refine wpAny_bind (wpAny_rule (wpAny_bind (wpAny_pure ?_)))
      refine wpAny_bind (wpAny_missedRemoval_other hd ?_)
      exact wpAny_bind (wpAny_rule (wpAny_pure ⟨dflt, rfl, q0 (fun j p z => by simp at z) _⟩))
    · have hne : ((xs.map (entryOfKey (dk prog w))).toArray).isEmpty = false := by
        cases xs with
        | nil => exact absurd rfl hx
        | cons x r => simp
      refine wpAny_ite_neg (by rw [hne]; exact Bool.false_ne_true) ?_
      refine wpAny_bind (takeOut_dk (by show A.units + 1 + 128 < _; exact hu) hk ho hdat his hn hsz (fun h0 => ?_) fun j p hj => ?_)
      · refine wpAny_bind (wpAny_missedRemoval_other hd ?_)
        exact wpAny_bind (wpAny_rule (wpAny_pure ⟨dflt, rfl, q0 h0 _⟩))
      · exact wpAny_bind (wpAny_letGo (wpAny_pure ⟨p.2, rfl, q1 j p hj _⟩))
theorem lookD_none {prog : Program} {w : World} {S : Heap} {xs : List DX} {kvs : List (PyData × PyData)} {k : DK} (D : Dx prog w S xs kvs) (h : ∀ (j : Nat) (p : Addr × Value), xs[j]? ≠ some (k, p)) : lookD kvs k.1 = none := by
  refine (look_at k D).2 ?_
  cases q : atKey xs k with
  | none => rfl
  | some p =>
    exfalso
    refine mapE q fun y hy e => ?_
    have h1 := List.find?_some hy
    refine e11 (List.getElem?_of_mem (List.mem_of_find?_eq_some hy)) fun j hj => ?_
    simp only [decide_eq_true_eq] at h1
    exact h j y.2 (by rw [hj, ← h1])
theorem delD_sub {kvs : List (PyData × PyData)} {k : PyData} : (delD kvs k).Sublist kvs := by
  induction kvs with
  | nil => exact .slnil
  | cons p r ih =>
    obtain ⟨a, b⟩ := p
    rw [delD]
    split
    · exact List.sublist_cons_self _ _
    · exact ih.cons_cons _
theorem mapKeys_data {o : Obj} {es : Array DictEntry} {n : Nat} {f : Array DictEntry → Array DictEntry} (hd : o.data = .dict es n) : (Obj.mapDictKeys f o).data = .dict (f es) (n + 1) := by
  obtain ⟨a, b, c, d⟩ := o
  simp only at hd
  subst hd
  rfl
theorem mapKeys_freed {o : Obj} {es : Array DictEntry} {n : Nat} {f : Array DictEntry → Array DictEntry} (hd : o.data = .dict es n) : (Obj.mapDictKeys f o).isFreed = false := by
  obtain ⟨a, b, c, d⟩ := o
  simp only at hd
  subst hd
  rfl
theorem erase_map {α β : Type} (f : α → β) {xs : List α} {j : Nat} (h : j < xs.length) : (xs.map f).toArray.eraseIdxIfInBounds j = ((xs.eraseIdx j).map f).toArray := by
  unfold Array.eraseIdxIfInBounds
  rw [dif_pos (by simpa using h)]
  apply Array.toList_inj.mp
  simp only [Array.toList_eraseIdx, List.toList_toArray]
  clear h
  induction xs generalizing j with
  | nil => rfl
  | cons x r ih => cases j with
    | zero => rfl
    | succ j => simp [ih]
set_option tactic.hygienic true in
theorem r_dpop (O : C.Ok) {x : Str} {i : Nat} {p ap pos : Pos} {a b : Expr} {y z d : PyData} (N : NameOk C x i .local) (hp : (ap.endLine == pos.line) = true) (h0 : (st.at i).isD = true) (hs : starOk [a, b] = true)
    (h : EvL C pos [a, b] st [y, z] st1) (e : dpopK i y z st1 = some (d, st2)) : EvE C (.Call (.Attribute (.Name x p) "pop" ap) [a, b] [] pos) st d st2 := by
  intro E s m ow S Q G P
  refine e11 (isD_od h0) fun kvs0 hz0 => ?_
  obtain ⟨a0, o0, xs0, n0, _, hm0, ho0, hg0, hE0, -⟩ := G.dict N hz0
  refine meth_form hp (star_all hs).2 (by simp) (name_any O G N hm0 (getMethod_D hg0 hE0 F.slot_dict_pop F.type_dict_pop ?_))
  refine method_meetsIn F.slot_dict_pop F.entry_dict_pop (star_all hs).1 (args_plain (star_cons hs).1 (h _ _ _ _ _ _ G fun vs h2 t2 ow2 S2 le2 G2 r2 => ?_))
  refine e23 (RDs.two_inv r2) fun v0 v1 eq0 rk rv => ?_; subst eq0
  unfold dpopK at e
  split at e
  · rename_i kvs hz
    refine and2 (if_some e) fun hk e => ?_
    · obtain ⟨rfl, rfl⟩ := some2 e
      obtain ⟨a, o, xs, n, _, hm, ho, hg, hE, hd, D, hnd, hle, hlen, hsm, hkv⟩ := G2.dict N hz
      cases Option.some.inj (hm0.symm.trans hm)
      obtain ⟨b, rfl, hk1, hk2, as, hra⟩ := keyRD rk hk
      have hM := D.ofH G2.1.stay hg hE hd hnd
      have sub := delD_sub (kvs := kvs) (k := y)
      have hnd2 : ((delD kvs y).map (·.1)).Nodup := (sub.map _).nodup hkv
      have hle2 : (delD kvs y).length ≤ 1048577 := Nat.le_trans sub.length_le hle
      refine ⟨rfl, hM.typeIs (s := { s with heap := h2, toks := t2 }), F.args_dict_pop_3 _ _ _, _, meets_pop_dk (by simpa using hsm) _, (by have := O.unt; omega), (⟨y, hk1, hk2⟩ : DK), xs, o, n, ⟨as, Reads.keeps G2.1.stay hra⟩, hg, hE, hd,
        (fun x hx => let ⟨as, q⟩ := D.is x hx; ⟨as, Reads.keeps G2.1.stay q⟩), hnd, (by rw [hlen, sizeLine_eq]; exact leE hle rfl), (fun hno tk => ?_), fun j p hj tk => ?_⟩
      · have hl := lookD_none D hno
        have hl' : lookD kvs y = none := hl
        rw [hl', delD_none hl'] at P
        have := P _ h2 tk ow2 S2 le2 (G2.put O (posOf_get N.pos).1 (StaysIn.refl S2) G2.1 (fun j _ => rfl) (by have := G2.slot (posOf_get N.pos).1; rw [hz] at this; exact this)) rv
        exact this
      · obtain ⟨D2, d', e1, r1⟩ := D.del hnd hj
        have e1' : lookD kvs y = some d' := e1
        rw [e1'] at P
        have hu2 := Heap.get?_update_self (Obj.mapDictKeys (·.eraseIdxIfInBounds j)) hg (mapKeys_freed hd)
        exact P _ _ tk _ S2 le2 (G2.turnD O N.pos hm ho (Heap.SameBut.update ..) hu2 (hE.mapDictKeys _) ((mapKeys_data hd).trans (by rw [erase_map _ (List.getElem?_eq_some_iff.mp hj).1])) (dk_ents D2) hnd2 hle2 hsm) r1
  · exact noS e
end
open Classical in
noncomputable def add (ex : Addr → Option Obj) : Option (Addr × Obj) → Addr → Option Obj
  | none => ex
  | some (a, o) => fun b => if b = a then some o else ex b
noncomputable def Cx.hold (C : Cx) (ex : Addr → Option Obj) : Cx := { C with ex := ex }
theorem Cx.Ok.hold {C : Cx} (O : C.Ok) (ex : Addr → Option Obj) : (C.hold ex).Ok := ⟨O.kind, O.glob, O.blt, O.hnd, O.dep, O.unt, O.gl, O.nod, O.cel⟩
noncomputable def Pv (P : Params) (S : Heap) (v : Value) (oo : Option (Addr × Obj)) : Slot → Prop
  | .un => False
  | .d d => RD S v d ∧ oo = none
  | .ol xs => ∃ a vs n, v = .ref a ∧ oo = some (a, ({ cls := .type "list", data := .seq (List.toArray vs) n } : Obj)) ∧ RDs S vs xs ∧ lenOk xs = true
  | .od kvs => ∃ a o es n, v = .ref a ∧ oo = some (a, o) ∧ o.ExactDict ∧ o.data = .dict (List.toArray es) n ∧ Ents P S es kvs ∧ (kvs.map (·.1)).Nodup ∧ kvs.length ≤ 1048577 ∧ a ≠ sysModules
  | .os kvs => ∃ a o es n, v = .ref a ∧ oo = some (a, o) ∧ o.ExactDict ∧ o.data = .dict (List.toArray es) n ∧ EntS P S es kvs ∧ (kvs.map (·.1)).Nodup
theorem Pv.keeps {P : Params} {S S' : Heap} {v : Value} {oo : Option (Addr × Obj)} {sl : Slot} (k : S.StaysIn S') (r : Pv P S v oo sl) : Pv P S' v oo sl := by
  cases sl with
  | un => exact r
  | d d => exact ⟨r.1.keeps k, r.2⟩
  | ol xs => obtain ⟨a, vs, n, h1, h2, h6, h7⟩ := r; exact ⟨a, vs, n, h1, h2, h6.keeps k, h7⟩
  | od kvs => obtain ⟨a, o, es, n, h1, h2, h3, h4, h5, h6⟩ := r; exact ⟨a, o, es, n, h1, h2, h3, h4, h5.keeps k, h6⟩
  | os kvs => obtain ⟨a, o, es, n, h1, h2, h3, h4, h5, h6⟩ := r; exact ⟨a, o, es, n, h1, h2, h3, h4, h5.keeps k, h6⟩
theorem Pv.slot {P : Params} {S : Heap} {env : Env} {m : Str → Option Value} {x : Str} {v : Value} {oo : Option (Addr × Obj)} {sl : Slot} (r : Pv P S v oo sl) (h : m x = some v) : SlotOK P S env m oo x .local sl := by
  cases sl with
  | un => trivial
  | d d => exact ⟨v, h, r.1⟩
  | ol xs => obtain ⟨a, vs, n, rfl, h2, h6, h7⟩ := r; exact ⟨a, vs, n, rfl, h, h2, h6, h7⟩
  | od kvs => obtain ⟨a, o, es, n, rfl, h2, h3⟩ := r; exact ⟨a, o, es, n, rfl, h, h2, h3⟩
  | os kvs => obtain ⟨a, o, es, n, rfl, h2, h3⟩ := r; exact ⟨a, o, es, n, rfl, h, h2, h3⟩
noncomputable def Fresh (ex : Addr → Option Obj) : Option (Addr × Obj) → Prop
  | none => True
  | some (a, _) => ex a = none
section
variable {h₀ h : Heap} {L : Addr} {m : Str → Option Value} {own : Nat → Option (Addr × Obj)} {ext : Addr → Option Obj} {S : Heap}
theorem Inv.hold {h' : Heap} (I : Inv h₀ L m own ext S h) (k : h.StaysIn h') {a : Addr} {o : Obj} (hn : h.get? a = none) (e : h'.get? a = some o) : Inv h₀ L m own (add ext (some (a, o))) S h' ∧ ext a = none := by
  have J := I.grow k
  have offS : S.get? a = none := by
    cases q : S.get? a with
    | none => rfl
    | some x => rw [I.stay _ _ q] at hn; exact sNo hn
  have offE : ext a = none := by
    cases q : ext a with
    | none => rfl
    | some x => rw [(I.ext _ _ q).1] at hn; exact sNo hn
  have offL : a ≠ L := fun z => by
    obtain ⟨oL, _, _, hL, _⟩ := id I.ns
    rw [z, hL] at hn; exact sNo hn
  refine ⟨⟨J.ns, J.base, J.stay, J.offL, fun j b x q => ?_, J.inj, fun b x q => ?_, J.top⟩, offE⟩
  · have q' := J.own j b x q
    have : b ≠ a := fun z => by
      have := (I.own j b x q).1
      rw [z, hn] at this; exact noS this
    exact ⟨q'.1, q'.2.1, q'.2.2.1, by simp only [add, this, if_false]; exact q'.2.2.2⟩
  · by_cases hb : b = a
    · simp only [add, hb, if_true, Option.some.injEq] at q
      subst q hb
      exact ⟨e, offL, offS⟩
    · simp only [add, hb, if_false] at q
      exact J.ext b x q
theorem Inv.unhold {oo : Option (Addr × Obj)} (I : Inv h₀ L m own (add ext oo) S h) (f : Fresh ext oo) (i : Nat) : Inv h₀ L m (fun j => if j = i then oo else own j) ext S h := by
  cases oo with
  | none =>
    have := I.drop i
    exact this
  | some p =>
    obtain ⟨a, o⟩ := p
    have offO : ∀ j x, own j ≠ some (a, x) := fun j x q => by
      have := (I.own _ _ _ q).2.2.2
      simp [add] at this
    refine ⟨I.ns, I.base, I.stay, I.offL, fun j b x q => ?_, fun j k b x y q r => ?_, fun b x q => ?_, I.top⟩
    · by_cases hj : j = i
      · simp only [hj, if_true, Option.some.injEq, Prod.mk.injEq] at q
        refine and2 q fun eq1 eq2 => ?_; subst eq1; subst eq2
        have := I.ext a o (by simp [add])
        exact ⟨this.1, this.2.1, this.2.2, f⟩
      · simp only [hj, if_false] at q
        have q' := I.own j b x q
        have : b ≠ a := fun z => offO j x (z ▸ q)
        have q4 := q'.2.2.2
        simp only [add, this, if_false] at q4
        exact ⟨q'.1, q'.2.1, q'.2.2.1, q4⟩
    · by_cases hj : j = i
      · by_cases hk : k = i
        · rw [hj, hk]
        · simp only [hj, hk, if_true, if_false, Option.some.injEq, Prod.mk.injEq] at q r
          refine and2 q fun eq1 eq2 => ?_; subst eq1; subst eq2
          exact absurd r (offO _ _)
      · by_cases hk : k = i
        · simp only [hj, hk, if_true, if_false, Option.some.injEq, Prod.mk.injEq] at q r
          refine and2 r fun eq1 eq2 => ?_; subst eq1; subst eq2
          exact absurd q (offO _ _)
        · simp only [hj, hk, if_false] at q r
          exact I.inj j k b x y q r
    · have hb : b ≠ a := fun z => by
        rw [z, f] at q; exact noS q
      exact I.ext b x (by simp only [add, hb, if_false]; exact q)
end
theorem SlotOK.m {P : Params} {S : Heap} {env : Env} {m m' : Str → Option Value} {ow : Option (Addr × Obj)} {x : Str} {k : NameKind} {s : Slot} (e : m' x = m x) (r : SlotOK P S env m ow x k s) : SlotOK P S env m' ow x k s := by
  have va : ∀ {v}, ValAt S env m x k v → ValAt S env m' x k v := fun {v} h => by
    cases k <;> first | exact h | exact e.trans h
  cases s with
  | un => trivial
  | d d => obtain ⟨v, h1, h2⟩ := r; exact ⟨v, va h1, h2⟩
  | ol xs => obtain ⟨a, vs, n, h1, h2, h3⟩ := r; exact ⟨a, vs, n, h1, e.trans h2, h3⟩
  | od kvs => obtain ⟨a, o, es, n, h1, h2, h3⟩ := r; exact ⟨a, o, es, n, h1, e.trans h2, h3⟩
  | os kvs => obtain ⟨a, o, es, n, h1, h2, h3⟩ := r; exact ⟨a, o, es, n, h1, e.trans h2, h3⟩
theorem Good.bindS {C : Cx} {m : Str → Option Value} {st : St} {ow : Nat → Option (Addr × Obj)} {S h h' : Heap} {oo : Option (Addr × Obj)} (G : Good (C.hold (add C.ex oo)) m st ow S h) (O : C.Ok) {x : Str} {i : Nat} {v : Value} {sl : Slot} (N : NameOk C x i .local)
    (r : Pv C.w.params S v oo sl) (f : Fresh C.ex oo) (hn : h'.Ns C.env.locals (fun y => if y = x then some v else m y)) (hs : Heap.SameBut C.env.locals h h') :
    Good C (fun y => if y = x then some v else m y) (st.put i sl) (fun j => if j = i then oo else ow j) S h' := by
  have I : Inv C.h₀ C.env.locals m (fun j => if j = i then oo else ow j) C.ex S h := G.1.unhold f i
  have hx := (posOf_get N.pos).1
  refine ⟨I.bind hn hs, by rw [length_put]; exact G.2.1, fun j y k' hy => ?_⟩
  rw [at_put _ _ _ _ (by rw [G.2.1]; exact (List.getElem?_eq_some_iff.mp hx).1)]
  by_cases hj : j = i
  · subst hj
    rw [hx] at hy
    obtain ⟨rfl, rfl⟩ := some2 hy
    simp only [if_true]
    exact r.slot (by simp)
  · simp only [hj, if_false]
    have hne : y ≠ x := fun z => hj (by subst z; exact nodup_at O.nod hy hx)
    exact (G.2.2 j y k' hy).m (by simp [hne])
theorem bindN {C : Cx} (O : C.Ok) {E : Value → Shared → Prop} {s : Shared} {m : Str → Option Value} {st : St} {ow : Nat → Option (Addr × Obj)} {S : Heap} {Q : Unit → Shared → Prop} {oo : Option (Addr × Obj)} (G : Good (C.hold (add C.ex oo)) m st ow S s.heap) {x : Str} {i : Nat} {v : Value} {sl : Slot} (N : NameOk C x i .local)
    (r : Pv C.w.params S v oo sl) (f : Fresh C.ex oo) (q : ∀ m' h' tk ow', Good C m' (st.put i sl) ow' S h' → Q () { s with heap := h', toks := tk }) : wpAny (model C.prog C.w) C.A (storeName C.env x v) Q E s :=
  wpAny_storeName_local (posOf_get N.pos).2 G.1.ns (fun h' hn hs => q _ h' _ _ (G.bindS O N r f hn hs)) (by rw [O.kind]; rfl)
noncomputable def notComp : Expr → Bool
  | .ListComp .. => false
  | .SetComp .. => false
  | .DictComp .. => false
  | _ => true
theorem swaps_of {e : Expr} (h : notComp e = true) (t : Option Expr) (n : Nat) (env : Env) : swapsWith e t n env = pure false := by
  cases e <;> first | rfl | exact fTr h
noncomputable def EvR (C : Cx) (t : Sem Value) (st : St) (sl : Slot) (st' : St) : Prop :=
  ∀ (E : Value → Shared → Prop) (s : Shared) (m : Str → Option Value) (ow : Nat → Option (Addr × Obj)) (S : Heap) (Q : Value → Shared → Prop),
    Good C m st ow S s.heap → (∀ v h' tk ow' S' oo, S.StaysIn S' → Good (C.hold (add C.ex oo)) m st' ow' S' h' → Fresh C.ex oo → Pv C.w.params S' v oo sl → Q v { s with heap := h', toks := tk }) → wpAny (model C.prog C.w) C.A t Q E s
noncomputable def FlowIs (S : Heap) : Option PyData → Flow → Prop
  | none, f => f = .next
  | some d, f => ∃ v, f = .ret v ∧ RD S v d
noncomputable def EvS (C : Cx) (t : Sem Flow) (st : St) (o : Option PyData) (st' : St) : Prop :=
  ∀ (E : Value → Shared → Prop) (s : Shared) (m : Str → Option Value) (ow : Nat → Option (Addr × Obj)) (S : Heap) (Q : Flow → Shared → Prop),
    Good C m st ow S s.heap → (∀ f m' h' tk ow' S', S.StaysIn S' → Good C m' st' ow' S' h' → FlowIs S' o f → Q f { s with heap := h', toks := tk }) → wpAny (model C.prog C.w) C.A t Q E s
noncomputable def EvSm (C : Cx) (t : Sem Flow) (st : St) (o : Option PyData) (st' : St) : Prop :=
  ∀ (E : Value → Shared → Prop) (s : Shared) (m : Str → Option Value) (ow : Nat → Option (Addr × Obj)) (S : Heap) (Q : Flow → Shared → Prop),
    Good C m st ow S s.heap → (∀ f h' tk ow' S', S.StaysIn S' → Good C m st' ow' S' h' → FlowIs S' o f → Q f { s with heap := h', toks := tk }) → wpAny (model C.prog C.w) C.A t Q E s
theorem EvSm.up {C : Cx} {t : Sem Flow} {st : St} {o : Option PyData} {st' : St} (h : EvSm C t st o st') : EvS C t st o st' := fun E s m ow S Q G P => h E s m ow S Q G fun f h' tk ow' S' => P f m h' tk ow' S'
section
variable {C : Cx} {st st1 st2 : St}
theorem fresh_size (h : Heap) : h.get? h.objs.size = none := by
  cases q : h.get? h.objs.size with
  | none => rfl
  | some o => exact absurd (Heap.lt_size q) (Nat.lt_irrefl _)
theorem Good.push {m : Str → Option Value} {ow : Nat → Option (Addr × Obj)} {S h : Heap} (G : Good C m st ow S h) (o : Obj) (hf : o.isFreed = false) : Good (C.hold (add C.ex (some (h.objs.size, o)))) m st ow S (h.push o) ∧ Fresh C.ex (some (h.objs.size, o)) := by
  have := G.1.hold (h' := h.push o) (fun b x e => Heap.get?_push_of_some _ e) (a := h.objs.size) (o := o) (fresh_size h) (Heap.get?_push_size _ hf)
  exact ⟨⟨this.1, G.2⟩, this.2⟩
theorem rh_e {e : Expr} {d : PyData} (h : EvE C e st d st1) : EvR C (eval e C.env) st (.d d) st1 := fun E s m ow S Q G P =>
  h _ _ _ _ _ _ G fun v h1 t1 ow1 S1 le1 G1 r1 => P v h1 t1 ow1 S1 none le1 G1 trivial ⟨r1, rfl⟩
theorem rh_l {es : List Expr} {pos : Pos} {ds : List PyData} (h : EvL C pos es st ds st1) (hl : lenOk ds = true) : EvR C (eval (.List es pos) C.env) st (.ol ds) st1 := fun E s m ow S Q G P =>
  List_ (h _ _ _ _ _ _ G fun vs h1 t1 ow1 S1 le1 G1 r1 => by
    refine and2 (G1.push { cls := .type "list", data := .seq vs.toArray } rfl) fun G2 f2 => ?_
    exact wpAny_newObj_type (P _ _ _ ow1 S1 _ le1 G2 f2 ⟨_, vs, 0, rfl, rfl, r1, hl⟩) (by show vs.toArray.size ≤ sizeLine; rw [List.size_toArray, r1.length, sizeLine_eq]; have := lenOk_le.mp hl; exact leE this rfl))
theorem rh_d (O : C.Ok) {pos : Pos} : EvR C (eval (.Dict [] [] pos) C.env) st (.od []) st := fun E s m ow S Q G P =>
  wpAny_Dict_empty (by
    refine and2 (G.push { cls := .type "dict", data := .dict #[] } rfl) fun G2 f2 => ?_
    refine P _ _ _ ow S _ (StaysIn.refl S) G2 f2 ⟨_, _, [], 0, rfl, rfl, ⟨rfl, rfl, rfl⟩, rfl, .nil, List.nodup_nil, by simp, fun z => ?_⟩
    exact absurd (Nat.lt_trans G.1.top (Heap.Ns.lt G.1.ns)) (by rw [z]; exact Nat.lt_irrefl _))
theorem s_asg (O : C.Ok) {x : Str} {p pos : Pos} {i : Nat} {e : Expr} {sl : Slot} (N : NameOk C x i .local) (hc : notComp e = true) (h : EvR C (eval e C.env) st sl st1) : EvS C (PySem.exec (.Assign [.Name x p] e pos) C.env) st none (st1.put i sl) := fun E s m ow S Q G P =>
  wpAny_Assign_Name (h _ _ _ _ _ _ G fun v h1 t1 ow1 S1 oo le1 G1 f1 r1 => bindN O G1 N r1 f1 fun m' h2 tk2 ow2 G2 => P _ m' h2 tk2 ow2 S1 le1 G2 rfl) (swaps_of hc _ _ _)
theorem s_ret {e : Expr} {pos : Pos} {d : PyData} (h : EvE C e st d st1) : EvS C (PySem.exec (.Return (some e) pos) C.env) st (some d) st1 := fun E s m ow S Q G P =>
  wpAny_Return_some (h _ _ _ _ _ _ G fun v h1 t1 ow1 S1 le1 G1 r1 => P _ m h1 t1 ow1 S1 le1 G1 ⟨v, rfl, r1⟩)
theorem s_nil : EvS C (PySem.execs [] C.env) st none st := fun E s m ow S Q G P => wpAny_execs_nil (P _ m s.heap s.toks ow S (StaysIn.refl S) G rfl)
theorem s_ret_cons {a : Stmt} {r : List Stmt} {d : PyData} (h : EvS C (PySem.exec a C.env) st (some d) st1) : EvS C (PySem.execs (a :: r) C.env) st (some d) st1 := fun E s m ow S Q G P =>
  wpAny_execs_cons (h _ _ _ _ _ _ G fun f m1 h1 t1 ow1 S1 le1 G1 r1 => by
    obtain ⟨v, rfl, rv⟩ := r1
    exact P _ m1 h1 t1 ow1 S1 le1 G1 ⟨v, rfl, rv⟩)
theorem s_cons {a : Stmt} {r : List Stmt} {o : Option PyData} (h : EvS C (PySem.exec a C.env) st none st1) (k : EvS C (PySem.execs r C.env) st1 o st2) : EvS C (PySem.execs (a :: r) C.env) st o st2 := fun E s m ow S Q G P =>
  wpAny_execs_cons (h _ _ _ _ _ _ G fun f m1 h1 t1 ow1 S1 le1 G1 r1 => by
    cases r1
    exact k _ _ _ _ _ _ G1 fun f m2 h2 t2 ow2 S2 le2 G2 r2 => P f m2 h2 t2 ow2 S2 (tr le1 le2) G2 r2)
theorem s_if {t : Expr} {a b : List Stmt} {pos : Pos} {c : Bool} {o : Option PyData} (ht : EvT C t st c st1) (hc : if c then EvS C (PySem.execs a C.env) st1 o st2 else EvS C (PySem.execs b C.env) st1 o st2) : EvS C (PySem.exec (.If t a b pos) C.env) st o st2 := fun E s m ow S Q G P =>
  wpAny_If (ht _ _ _ _ _ _ G fun v h1 t1 ow1 S1 le1 G1 rv => by
    subst rv
    cases v with
    | true => exact hc _ _ _ _ _ _ G1 fun f m2 h2 t2 ow2 S2 le2 G2 r2 => P f m2 h2 t2 ow2 S2 (tr le1 le2) G2 r2
    | false => exact hc _ _ _ _ _ _ G1 fun f m2 h2 t2 ow2 S2 le2 G2 r2 => P f m2 h2 t2 ow2 S2 (tr le1 le2) G2 r2)
set_option tactic.hygienic true in
theorem s_aug (O : C.Ok) {x : Str} {p pos : Pos} {i : Nat} {e : Expr} {y z d : PyData} (N : NameOk C x i .local) (h0 : st.at i = .d y) (h : EvE C e st z st1) (ha : augK i .Add y z st1 = some (none, st2)) :
    EvS C (PySem.exec (.AugAssign (.Name x p) .Add e pos) C.env) st none st2 := by
  intro E s m ow S Q G P
  have sl := G.slot (posOf_get N.pos).1
  rw [h0] at sl
  obtain ⟨v, hv, rv⟩ := sl
  unfold augK at ha
  split at ha
  · rename_i a b
    split at ha
    · rename_i r hr
      cases ha
      obtain rfl := Option.some.inj hr
      refine e11 rv.int_inv fun t eq1 => ?_; subst eq1
      refine wpAny_AugAssign_Name (wpAny_loadName_local O.kind (posOf_get N.pos).2 G.1.ns hv (h _ _ _ _ _ _ G fun u h1 t1 ow1 S1 le1 G1 r1 => ?_))
      refine e11 r1.int_inv fun t' eq1 => ?_; subst eq1
      refine PyProof.Rows.iadd_int ?_
      exact bindN (C := C) (oo := none) O (show Good (C.hold (add C.ex none)) m st1 ow1 S1 h1 from G1) N (sl := .d (.int (a + b))) ⟨.int _ _, rfl⟩ trivial fun m' h2 tk2 ow2 G2 => P _ m' h2 tk2 ow2 S1 le1 G2 rfl
    · exact noS ha
  · exact noS ha
set_option tactic.hygienic true in
theorem s_app (O : C.Ok) {x : Str} {i : Nat} {p ap pos spos : Pos} {a : Expr} {y : PyData} (N : NameOk C x i .local) (hp : (ap.endLine == pos.line) = true) (h0 : (st.at i).isL = true) (hs : starOk [a] = true)
    (h : EvL C pos [a] st [y] st1) (e : appK i y st1 = some (none, st2)) : EvS C (PySem.exec (.Expr (.Call (.Attribute (.Name x p) "append" ap) [a] [] pos) spos) C.env) st none st2 := by
  intro E s m ow S Q G P
  refine e11 (isL_ol h0) fun xs0 hz0 => ?_
  obtain ⟨a0, vs0, n0, hm0, ho0, hg0, -⟩ := G.ol N.pos hz0
  refine wpAny_Expr ?_ (by unfold interactive; rw [O.kind]; rfl) (swaps_of rfl _ _ _)
  refine meth_form hp (star_all hs).2 (by simp) (name_any O G N hm0 (getMethod_L hg0 F.slot_list_append F.type_list_append ?_))
  refine method_meets F.slot_list_append F.entry_list_append (star_all hs).1 (args_plain (star_cons hs).1 (h _ _ _ _ _ _ G fun vs2 h2 t2 ow2 S2 le2 G2 r2 => ?_))
  refine e12 (RDs.one_inv r2) fun v eq0 rv => ?_; subst eq0
  unfold appK at e
  split at e
  · rename_i xs hz
    refine and2 (if_some e) fun hl e => ?_
    · cases e
      refine e35 (G2.ol N.pos hz) fun a1 vs n hm ho hg hr hlx => ?_
      cases Option.some.inj (hm0.symm.trans hm)
      have hsz : vs.toArray.size ≤ sizeLine := by rw [List.size_toArray, hr.length, sizeLine_eq]; have := lenOk_le.mp hlx; exact leE this rfl
      refine e11 (mapSeq_list (fun xs => xs.push v) vs.toArray n) fun n' hn' => ?_
      have hn2 : Obj.mapSeq (fun xs => xs.push v) { cls := .type "list", data := .seq vs.toArray n } = { cls := .type "list", data := .seq (vs ++ [v]).toArray n' } := by rw [hn']; simp
      exact ⟨rfl, ⟨_, hg, rfl⟩, F.args_list_append_2 _ _, _, list_append a0 vs.toArray n v hsz, hg, P _ m _ _ _ S2 le2 (G2.turnL O N.pos hm ho hn2 (hr.snoc rv) hl) rfl⟩
  · exact noS e
set_option tactic.hygienic true in
theorem s_ext (O : C.Ok) {x : Str} {i : Nat} {p ap pos spos : Pos} {a : Expr} {y : PyData} (N : NameOk C x i .local) (hp : (ap.endLine == pos.line) = true) (h0 : (st.at i).isL = true) (hs : starOk [a] = true)
    (h : EvL C pos [a] st [y] st1) (e : extK i y st1 = some (none, st2)) : EvS C (PySem.exec (.Expr (.Call (.Attribute (.Name x p) "extend" ap) [a] [] pos) spos) C.env) st none st2 := by
  intro E s m ow S Q G P
  refine e11 (isL_ol h0) fun xs0 hz0 => ?_
  obtain ⟨a0, vs0, n0, hm0, ho0, hg0, -⟩ := G.ol N.pos hz0
  refine wpAny_Expr ?_ (by unfold interactive; rw [O.kind]; rfl) (swaps_of rfl _ _ _)
  refine meth_form hp (star_all hs).2 (by simp) (name_any O G N hm0 (getMethod_L hg0 F.slot_list_extend F.type_list_extend ?_))
  refine method_meets F.slot_list_extend F.entry_list_extend (star_all hs).1 (args_plain (star_cons hs).1 (h _ _ _ _ _ _ G fun vs2 h2 t2 ow2 S2 le2 G2 r2 => ?_))
  refine e12 (RDs.one_inv r2) fun v eq0 rv => ?_; subst eq0
  unfold extK at e
  split at e
  · rename_i ys
    split at e
    · rename_i xs hz
      refine and2 (if_some e) fun hl e => ?_
      · cases e
        refine e35 (G2.ol N.pos hz) fun a1 vs n hm ho hg hr hlx => ?_
        cases Option.some.inj (hm0.symm.trans hm)
        refine e24 rv.list_inv fun b ws eq1 hb hrb hlb => ?_; subst eq1
        obtain ⟨⟨bc, bd, bdat, bs⟩, hgb, hcb, nb, hdb⟩ := hb.keeps G2.1.stay
        simp only at hcb hdb
        subst hcb hdb
        have hsz : vs.toArray.size ≤ sizeLine := by rw [List.size_toArray, hr.length, sizeLine_eq]; have := lenOk_le.mp hlx; exact leE this rfl
        have hl' := lenOk_le.mp hl
        rw [List.length_append] at hl'
        have hsz2 : vs.toArray.size + ws.toArray.size ≤ sizeLine + 1 := by rw [List.size_toArray, List.size_toArray, hr.length, hrb.length, sizeLine_eq]; exact leE hl' rfl
        refine e11 (mapSeq_list (fun xs => xs ++ ws.toArray) vs.toArray n) fun n' hn' => ?_
        have hn2 : Obj.mapSeq (fun xs => xs ++ ws.toArray) { cls := .type "list", data := .seq vs.toArray n } = { cls := .type "list", data := .seq (vs ++ ws).toArray n' } := by rw [hn']; simp
        exact ⟨rfl, ⟨_, hg, rfl⟩, F.args_list_extend_2 _ _, _, list_extendW a0 vs.toArray n b ws.toArray nb bd bs (by unfold Builtin.List.listTooLong; simp only [Bool.and_eq_true, decide_eq_true_eq, not_and]; intro _; rw [List.size_toArray, List.size_toArray, hr.length, hrb.length, sizeLine_eq]; exact fun g0 => fk (c2 xs.length ys.length) [(1, .add (.var 0) (.var 1), .num 1048576), (1, .add (.num 16777216) (.num 1), .add (.var 0) (.var 1))] rfl (nl hl') (nt g0)) hsz hsz2, hg, hgb, P _ m _ _ _ S2 le2 (G2.turnL O N.pos hm ho hn2 (hr.append hrb) hl) rfl⟩
    · exact noS e
  · exact noS e
end
section
open Classical
variable {C : Cx} {st st1 st2 st3 : St}
theorem storedH_len {xs : List DX} {k : DK} {a : Addr} {v : Value} : (storedH xs k a v).length ≤ xs.length + 1 := by
  unfold storedH
  split <;> simp
set_option tactic.hygienic true in
theorem s_setM (O : C.Ok) {x : Str} {i : Nat} {p tp pos : Pos} {a b : Expr} {y z : PyData} (N : NameOk C x i .local) (hc : notComp b = true) (h0 : (st1.at i).any = true)
    (hv : EvE C b st z st1) (hk : EvE C a st1 y st2) (e : setK i z y st2 = some (none, st3)) : EvSm C (PySem.exec (.Assign [.Subscript (.Name x p) a tp] b pos) C.env) st none st3 := by
  intro E s m ow S Q G P
  refine wpAny_Assign_Subscript (hv _ _ _ _ _ _ G fun vz h1 t1 ow1 S1 le1 G1 rz => ?_) (swaps_of hc _ _ _)
  refine e11 (G1.some_val N h0) fun v hv1 => ?_
  refine name_any O G1 N hv1 (hk _ _ _ _ _ _ G1 fun vk h2 t2 ow2 S2 le2 G2 rk => ?_)
  have hm1 : m x = some v := hv1
  unfold setK doneK setV at e
  split at e
  · rename_i st3' hst
    cases e
    split at hst
    · rename_i xs hz
      split at hst
      · rename_i j
        refine and2 (if_some hst) fun hj hst => ?_
        · obtain rfl := Option.some.inj hst
          refine e35 (G2.ol N.pos hz) fun a0 vs n hm ho hg hr hlx => ?_
          cases Option.some.inj (hm1.symm.trans hm)
          refine e11 rk.int_inv fun t eq1 => ?_; subst eq1
          have hlen := hr.length
          have := lenOk_le.mp hlx
          refine e11 (mapSeq_list (fun xs => xs.setIfInBounds j.toNat vz) vs.toArray n) fun n' hn' => ?_
          have hn2 : Obj.mapSeq (fun xs => xs.setIfInBounds j.toNat vz) { cls := .type "list", data := .seq vs.toArray n } = { cls := .type "list", data := .seq (vs.set j.toNat vz).toArray n' } := by rw [hn']; simp
          exact ki_setAt (items := vs.toArray) hg hj.1 (by exact ilt (fk (c2 j xs.length) [(1, .add (.var 0) (.num 1), .var 1), (1, .var 1, .num 1048576), (1, .num 9223372036854775808, .var 0)] rfl (hj.2) (nl this))) (by rw [List.size_toArray, hlen]; exact hj.2) (P _ _ _ _ S2 (tr le1 le2) (G2.turnL O N.pos hm ho hn2 (hr.set (rz.keeps le2) _) (lenOk_of_le hlx (by simp))) rfl)
      · exact noS hst
    · rename_i kvs hz
      refine and2 (if_some hst) fun hk' hst => ?_
      · obtain rfl := Option.some.inj hst
        refine and2 (Bool.and_eq_true_iff.mp hk') fun hkk hlk => ?_
        obtain ⟨a0, o, xs, n, _, hm, ho, hg, hE, hd, D, hnd, hle, hlen, hsm, hkv⟩ := G2.dict N hz
        cases Option.some.inj (hm1.symm.trans hm)
        obtain ⟨b, rfl, hk1, hk2, as, hra⟩ := keyRD rk hkk
        have hM := D.ofH G2.1.stay hg hE hd hnd
        have hu : (dk C.prog C.w).room C.A.in1 := by show C.A.units + 1 + 128 < cLine; have := O.unt; exact nlt (fk (c3 C.A.units C.n cLine) [(1, .add (.add (.add (.var 0) (.mulL 8 (.var 1))) (.num 256)) (.num 1), .var 2), (8, .num 0, .var 1), (1, .var 2, .add (.add (.var 0) (.num 1)) (.num 128))] rfl (nt this) (n0 C.n))
        have hl := lenOk_le.mp hlk
        refine wpAny_setItem_heap (k := (⟨y, hk1, hk2⟩ : DK)) hu ⟨as, Reads.keeps G2.1.stay hra⟩ hM (fun h3 hM3 hs3 => ?_) (by rw [hlen, sizeLine_eq]; exact leE hl rfl)
        have D2 := D.put (k := (⟨y, hk1, hk2⟩ : DK)) hra (rz.keeps le2) hnd
        obtain ⟨o3, es3, ep3, hg3, hE3, hd3, hes3, his3, hnd3⟩ := hM3
        have hlen3 : (putD kvs y z).length = (storedH xs (⟨y, hk1, hk2⟩ : DK) b vz).length := by have := congrArg List.length D2.keys; simpa using this.symm
        have hkeys : ((putD kvs y z).map (·.1)).Nodup := by
          have e3 : ((storedH xs (⟨y, hk1, hk2⟩ : DK) b vz).map fun x => x.1.1) = (putD kvs y z).map (·.1) := D2.keys
          rw [← e3, show (fun x : DX => x.1.1) = Subtype.val ∘ (fun x : DX => x.1) from rfl, ← List.map_map]
          exact List.pairwise_map.mpr (hnd3.imp fun h e => h (Subtype.ext e))
        exact P _ _ _ _ S2 (tr le1 le2) (G2.turnD O N.pos hm ho hs3 hg3 hE3 (by rw [hd3]; congr 1; apply Array.toList_inj.mp; rw [hes3]) (dk_ents D2) hkeys (by have := storedH_len (xs := xs) (k := (⟨y, hk1, hk2⟩ : DK)) (a := b) (v := vz); omega) hsm) rfl
    · exact noS hst
  · exact noS e
theorem s_set (O : C.Ok) {x : Str} {i : Nat} {p tp pos : Pos} {a b : Expr} {y z : PyData} (N : NameOk C x i .local) (hc : notComp b = true) (h0 : (st1.at i).any = true)
    (hv : EvE C b st z st1) (hk : EvE C a st1 y st2) (e : setK i z y st2 = some (none, st3)) : EvS C (PySem.exec (.Assign [.Subscript (.Name x p) a tp] b pos) C.env) st none st3 := (s_setM O N hc h0 hv hk e).up
end
inductive PR (S : Heap) : List (Value × Value) → List Str → List PyData → Prop
  | nil : PR S [] [] []
  | cons {x : Str} {t : Tok} {v : Value} {d : PyData} {ps : List (Value × Value)} {ks : List Str} {ds : List PyData} : RD S v d → PR S ps ks ds → PR S ((.str x t, v) :: ps) (x :: ks) (d :: ds)
theorem PR.keeps {S S' : Heap} {ps ks ds} (k : S.StaysIn S') (r : PR S ps ks ds) : PR S' ps ks ds := by
  induction r with
  | nil => exact .nil
  | cons h _ ih => exact .cons (h.keeps k) ih
theorem PR.len {S : Heap} {ps ks ds} (r : PR S ps ks ds) : ps.length = ks.length ∧ ds.length = ks.length := by
  induction r with
  | nil => exact ⟨rfl, rfl⟩
  | cons h _ ih => simp [ih.1, ih.2]
abbrev EvD (C : Cx) (keys : List (Option Expr)) (pos : Pos) (es : List Expr) (st : St) (ks : List Str) (ds : List PyData) (st' : St) : Prop := EvP C (evalPairs (pairTrees keys es C.env pos)) st st' fun S ps => PR S ps ks ds
section
variable {C : Cx} {st st1 st2 : St}
theorem d_nil {pos : Pos} : EvD C [] pos [] st [] [] st := fun E s m ow S Q G P => wpAny_pure (P [] s.heap s.toks ow S (StaysIn.refl S) G .nil)
theorem d_cons {pos kp : Pos} {k : Nat} {x : Str} {keys : List (Option Expr)} {e : Expr} {es : List Expr} {ks : List Str} {d : PyData} {ds : List PyData} (h : EvE C e st d st1) (hr : EvD C keys pos es st1 ks ds st2) :
    EvD C (some (.Constant (.str x) k kp) :: keys) pos (e :: es) st (x :: ks) (d :: ds) st2 := fun E s m ow S Q G P =>
  pairTrees_cons_walk (wpAny_Constant_str (h _ { s with toks := s.toks + 1 } _ _ _ _ G fun v h1 t1 ow1 S1 le1 G1 r1 => hr _ _ _ _ _ _ G1 fun ps h2 t2 ow2 S2 le2 G2 r2 =>
    P _ h2 t2 ow2 S2 (tr le1 le2) G2 (.cons (r1.keeps le2) r2)))
end
theorem pr_carries {prog : Program} {w : World} {S : Heap} {ps : List (Value × Value)} {ks : List Str} {ds : List PyData} (r : PR S ps ks ds) : Carries (strKind prog w) ps (ks.zip (ps.map (·.2))) := by
  induction r with
  | nil => trivial
  | cons h _ ih => exact ⟨strKind_is prog w _ _, rfl, ih⟩
theorem pr_entS {prog : Program} {w : World} {S : Heap} {ps : List (Value × Value)} {ks : List Str} {ds : List PyData} (r : PR S ps ks ds) : ∀ {es : List DictEntry}, (∀ e ∈ es, ∃ k, (strKind prog w).is k e.key = true ∧ e.hash = (strKind prog w).hash k) → Pairs (strKind prog w) es (ks.zip (ps.map (·.2))) → EntS w.params S es (ks.zip ds) := by
  induction r with
  | nil => intro es _ q; cases q; exact .nil
  | @cons x t v d ps ks ds h _ ih =>
    intro es hk q
    cases q with
    | @cons e _ es _ q1 q2 q3 =>
      refine e12 (hk e (.head _)) fun k h1 h2 => ?_
      obtain ⟨eh, ek, ev⟩ := e
      simp only at q1 q2 h1 h2
      refine e11 (Value.isStrOf_shape q1) fun t' eq1 => ?_; subst eq1
      have : k = x := (strKind prog w).inj _ _ _ h1 q1
      subst this h2 q2
      exact .cons h (ih (fun e he => hk e (.tail _ he)) q3)
section
variable {C : Cx} {st st1 st2 : St}
theorem hold_at {ex : Addr → Option Obj} {a : Addr} {o : Obj} {m : Str → Option Value} {ow : Nat → Option (Addr × Obj)} {S h : Heap} (G : Good (C.hold (add ex (some (a, o)))) m st ow S h) : h.get? a = some o ∧ a ≠ C.env.locals ∧ S.get? a = none :=
  G.1.ext a o (by simp [Cx.hold, add])
theorem rh_ds {keys : List (Option Expr)} {es : List Expr} {pos : Pos} {ks : List Str} {ds : List PyData} (hall : keys.all (·.isSome) = true) (hl : keys.length = es.length) (h0 : keys ≠ []) (hlen : keys.length ≤ 15) (hn : ks.Nodup)
    (h : ∀ ex, EvD (C.hold ex) keys pos es st ks ds st1) : EvR C (eval (.Dict keys es pos) C.env) st (.os (ks.zip ds)) st1 := by
  intro E s m ow S Q G P
  refine and2 (G.push { cls := .type "dict", data := .dict #[] } rfl) fun G1 f1 => ?_
  refine wpAny_Dict_walk (knd := strKind C.prog C.w) hall hl h0 hlen (h (add C.ex (some (s.heap.objs.size, { cls := .type "dict", data := .dict #[] }))) _ { s with heap := s.heap.push { cls := .type "dict", data := .dict #[] } } _ _ _ _ G1 fun ps h2 t2 ow2 S2 le2 G2 r2 => ?_)
  refine and3 (hold_at G2) fun hg hne hoff => ?_
  refine ⟨ks.zip (ps.map (·.2)), pr_carries r2, ⟨_, #[], 0, hg, ⟨rfl, rfl, rfl⟩, rfl, (fun e he => by simp at he), .nil, List.nodup_nil⟩, fun h3 hD hs => ?_⟩
  have hlen2 := r2.len
  have hkeys : (ks.zip (ps.map (·.2))).map (·.1) = ks := by rw [List.map_fst_zip]; simp [hlen2.1]
  rw [merged_nil_of_nodup _ (by rw [hkeys]; exact hn)] at hD
  obtain ⟨o3, es3, ep3, hg3, hE3, hd3, hk3, hp3, hn3⟩ := hD
  have q : Good (C.hold (add C.ex (some (s.heap.objs.size, o3)))) m st1 ow2 S2 h3 := by
    refine ⟨⟨G2.1.ns.sameBut hs ?_, G2.1.base, fun b x e => (hs.2 b ?_).trans (G2.1.stay _ _ e), G2.1.offL, fun j b x e => ?_, G2.1.inj, fun b x e => ?_, G2.1.top⟩, G2.2⟩
    · exact Ne.symm hne
    · intro z; rw [z, hoff] at e; exact noS e
    · have q := G2.1.own j b x e
      have hb : b ≠ s.heap.objs.size := fun z => by have := q.2.2.2; simp [Cx.hold, add, z] at this
      exact ⟨(hs.2 b hb).trans q.1, q.2.1, q.2.2.1, by have := q.2.2.2; simp only [Cx.hold, add, hb, if_false] at this ⊢; exact this⟩
    · by_cases hb : b = s.heap.objs.size
      · subst hb
        simp only [Cx.hold, add, if_true, Option.some.injEq] at e
        subst e
        exact ⟨hg3, hne, hoff⟩
      · simp only [Cx.hold, add, hb, if_false] at e
        have q := G2.1.ext b x (by simp only [Cx.hold, add, hb, if_false]; exact e)
        exact ⟨(hs.2 b hb).trans q.1, q.2⟩
  exact P _ _ _ ow2 S2 _ le2 q f1 ⟨_, o3, es3.toList, ep3, rfl, rfl, hE3, by rw [hd3], pr_entS r2 (fun e he => hk3 e (by simpa using he)) hp3, by rw [List.map_fst_zip (by exact nle (fk (c2 ks.length ds.length) [(1, .var 0, .var 1), (1, .add (.var 1) (.num 1), .var 0)] rfl (ne hlen2.2.symm)))]; exact hn⟩
inductive PendL (P : Params) (S : Heap) : (Addr → Option Obj) → List Value → List Slot → (Addr → Option Obj) → Prop
  | nil {ex : Addr → Option Obj} : PendL P S ex [] [] ex
  | cons {ex ex' : Addr → Option Obj} {v : Value} {sl : Slot} {oo : Option (Addr × Obj)} {vs : List Value} {sls : List Slot} : Pv P S v oo sl → Fresh ex oo → PendL P S (add ex oo) vs sls ex' → PendL P S ex (v :: vs) (sl :: sls) ex'
theorem PendL.keeps {P : Params} {S S' : Heap} {ex ex' vs sls} (k : S.StaysIn S') (r : PendL P S ex vs sls ex') : PendL P S' ex vs sls ex' := by
  induction r with
  | nil => exact .nil
  | cons h f _ ih => exact .cons (h.keeps k) f ih
noncomputable def EvRs (C : Cx) (pos : Pos) (es : List Expr) (st : St) (sls : List Slot) (st' : St) : Prop :=
  ∀ (E : Value → Shared → Prop) (s : Shared) (m : Str → Option Value) (ow : Nat → Option (Addr × Obj)) (S : Heap) (Q : List Value → Shared → Prop),
    Good C m st ow S s.heap → (∀ vs h' tk ow' S' ex', S.StaysIn S' → Good (C.hold ex') m st' ow' S' h' → PendL C.w.params S' C.ex vs sls ex' → Q vs { s with heap := h', toks := tk }) → wpAny (model C.prog C.w) C.A (spliced (backTo pos (starEach es C.env))) Q E s
theorem rs_nil {pos : Pos} : EvRs C pos [] st [] st := fun E s m ow S Q G P => Calls.spliced_nil (P [] s.heap s.toks ow S C.ex (StaysIn.refl S) G .nil)
theorem rs_cons {pos : Pos} {e : Expr} {r : List Expr} {sl : Slot} {sls : List Slot} (he : starEach (e :: r) C.env = (false, eval e C.env) :: starEach r C.env) (h : EvR C (eval e C.env) st sl st1) (hr : ∀ ex, EvRs (C.hold ex) pos r st1 sls st2) :
    EvRs C pos (e :: r) st (sl :: sls) st2 := fun E s m ow S Q G P =>
  spliced_more (h _ _ _ _ _ _ G fun v h1 t1 ow1 S1 oo le1 G1 f1 r1 => hr (add C.ex oo) _ _ _ _ _ _ G1 fun vs h2 t2 ow2 S2 ex2 le2 G2 r2 => P _ h2 t2 ow2 S2 ex2 (tr le1 le2) G2 (.cons (r1.keeps le2) f1 r2)) he
inductive Nms (C : Cx) : List Nat → List Str → Prop
  | nil : Nms C [] []
  | cons {i : Nat} {x : Str} {is : List Nat} {xs : List Str} : NameOk C x i .local → Nms C is xs → Nms C (i :: is) (x :: xs)
theorem Nms.hold {is xs ex} (h : Nms C is xs) : Nms (C.hold ex) is xs := by
  induction h with
  | nil => exact .nil
  | cons n _ ih => exact .cons ⟨n.pos, n.dbg, n.cls⟩ ih
theorem bind_back {P : Params} {S : Heap} {ex ex' : Addr → Option Obj} {vs : List Value} {sls : List Slot} (r : PendL P S ex vs sls ex') : ∀ {C : Cx} (O : C.Ok) (hP : P = C.w.params) (hex : C.ex = ex) {is : List Nat} {xs : List Str} (N : Nms C is xs) {st st' : St} {E : Value → Shared → Prop} {s : Shared} {m : Str → Option Value} {ow : Nat → Option (Addr × Obj)} {Q : Unit → Shared → Prop} {ts : List (Value → Sem Unit)} {ws : List Value},
    Good (C.hold ex') m st ow S s.heap → putBack is sls st = some st' → (∀ m' h' tk ow', Good C m' st' ow' S h' → wpAny (model C.prog C.w) C.A (assignInOrder ts ws) Q E { s with heap := h', toks := tk }) →
    wpAny (model C.prog C.w) C.A (assignInOrder (xs.reverse.map (fun n => bindName C.env n) ++ ts) (vs.reverse ++ ws)) Q E s := by
  induction r with
  | nil =>
    intro C O hP hex is xs N st st' E s m ow Q ts ws G hp k
    subst hex
    cases N with
    | nil =>
      obtain rfl := Option.some.inj hp
      exact k m s.heap s.toks ow G
    | cons => exact noS hp
  | @cons ex ex' v sl oo vs sls h f _ ih =>
    intro C O hP hex is xs N st st' E s m ow Q ts ws G hp k
    subst hP hex
    cases N with
    | nil => exact noS hp
    | @cons i x is xs n ns =>
      rw [putBack] at hp
      split at hp
      · rename_i st2 hp2
        obtain rfl := Option.some.inj hp
        rw [List.reverse_cons, List.reverse_cons, List.map_append, List.append_assoc, List.append_assoc]
        refine ih (C := C.hold (add C.ex oo)) (O.hold _) rfl rfl ns.hold G hp2 fun m' h' tk ow' G' => ?_
        refine wpAny_bind (wpAny_holding (wpAny_bindName (bindN (C := C) O (s := { s with heap := h', toks := tk }) G' n h f fun m2 h2 t2 ow2 G2 => ?_)))
        exact k m2 h2 t2 ow2 G2
      · exact noS hp
end
theorem locOf_name {C : Cx} {e : Expr} {i : Nat} (h : locOf C.env.scope.names e = some i) : ∃ x p, e = .Name x p ∧ NameOk C x i .local := by
  cases e with
  | Name x p =>
    refine and2 (if_not h) fun hd h2 => bindE h2 fun ⟨j, k⟩ hj h3 => ?_
    cases k with
    | «local» => exact ⟨x, p, rfl, Option.some.inj h3 ▸ hj, Bool.eq_false_iff.mpr hd, fun z => by cases z⟩
    | _ => exact noS h3
  | _ => exact noS h
theorem locsOf_nms {C : Cx} : ∀ {ts : List Expr} {is : List Nat}, locsOf C.env.scope.names ts = some is → Nms C is (tnames ts) ∧ (tnames ts).length = ts.length
  | [], is, h => by obtain rfl := Option.some.inj h; exact ⟨.nil, rfl⟩
  | e :: r, is, h => by
    refine bindE h fun i h1 h => bindE h fun l h2 h => and2 (if_not h) fun _ h => ?_
    obtain rfl := Option.some.inj h
    refine e22 (locOf_name h1) fun x p eq1 n => ?_; subst eq1
    refine and2 (locsOf_nms h2) fun ns hl => ?_
    exact ⟨.cons n ns, congrArg (· + 1) hl⟩
theorem sw_names {C : Cx} {n : Nat} : ∀ {ts : List Expr} {is : List Nat}, locsOf C.env.scope.names ts = some is → onLine n ts = true →
    (ts.filterMap fun | .Name id pos => if C.env.kindOf id == some .local && pos.line == n then some id else none | _ => none) = tnames ts
  | [], is, h, _ => rfl
  | e :: r, is, h, hl => by
    refine bindE h fun i h1 h => bindE h fun l h2 h => ?_
    refine e22 (locOf_name h1) fun x p eq1 nm => ?_; subst eq1
    refine and2 (andB hl) fun hl1 hl2 => ?_
    have hk : C.env.kindOf x = some .local := (posOf_get nm.pos).2
    rw [List.filterMap_cons, sw_names h2 hl2]
    simp [hk, hl1, tnames]
theorem star_any : ∀ {es : List Expr}, starOk es = true → (es.any fun | .Starred .. => true | _ => false) = false
  | [], _ => rfl
  | e :: r, h => by
    rw [List.any_cons, star_any (es := r) (andB h).2, Bool.or_false]
    exact notB (andB h).1
theorem PendL.len {P : Params} {S : Heap} {ex ex' vs sls} (r : PendL P S ex vs sls ex') : vs.length = sls.length := by
  induction r with
  | nil => rfl
  | cons _ _ _ ih => simp [ih]
theorem extStays {h h' : Heap} (x : Heap.ExtBut h.objs.size h h') : h.StaysIn h' := fun b o e => x b o (Nat.ne_of_lt (Heap.lt_size e)) e
theorem sw_hw {env : Env} {ts vs : List Expr} {k1 k2 : Nat} {tp vp : Pos} {names : List Str} (hk : env.blockKind = .function) (h3 : ts.length = 2 ∨ ts.length = 3) (hl : ts.length = vs.length) (star : (vs.any fun | .Starred .. => true | _ => false) = false)
    (hf : (ts.filterMap fun | .Name id pos => if env.kindOf id == some .local && pos.line == ((ts.head?.map (·.pos.line)).getD 0) then some id else none | _ => none) = names) (hn : names.length = ts.length) (hd : (names.eraseDups.length == names.length) = true)
    (c1 : vs.all (foldedForSure 8) = false) (c2 : vs.all (constantsAlone 8) = false) : swappedStores [.Tuple ts k1 tp] (.Tuple vs k2 vp) env = pure (some names) := by
  have e1 : (!(ts.length == 2 || ts.length == 3) || vs.length != ts.length || env.blockKind != .function) = false := by
    rw [hk, ← hl]; rcases h3 with h | h <;> rw [h] <;> rfl
  have e2 : (names.length != ts.length || names.eraseDups.length != names.length) = false := by
    rw [hn, bne_self_eq_false, Bool.false_or, bne, ← hn, hd]; rfl
  unfold swappedStores
  simp only [e1, Bool.false_eq_true, if_false, pure_bind, c1, c2]
  refine Eq.trans (if_neg (fun z => Bool.false_ne_true (star.symm.trans z))) ?_
  subst hf
  refine Eq.trans (if_neg (fun z => Bool.false_ne_true (e2.symm.trans z))) ?_
  rfl
section
variable {C : Cx} {st st1 st2 : St}
theorem blockKind_fn (O : C.Ok) : C.env.blockKind = .function := by
  unfold Env.blockKind
  rw [O.kind]; rfl
theorem s_asgT (O : C.Ok) {ts vs : List Expr} {k1 k2 : Nat} {tp vp pos : Pos} {is : List Nat} {sls : List Slot} (h1 : locsOf C.env.scope.names ts = some is) (h3 : ts.length = 2 ∨ ts.length = 3) (hl : ts.length = vs.length) (sw : swOk ts vs = true) (star : starOk vs = true)
    (h : EvRs C vp vs st sls st1) (hsl : sls.length = vs.length) (hp : putBack is sls st1 = some st2) : EvS C (PySem.exec (.Assign [.Tuple ts k1 tp] (.Tuple vs k2 vp) pos) C.env) st none st2 := by
  intro E s m ow S Q G P
  simp only [swOk, Bool.and_eq_true, Bool.not_eq_true'] at sw
  obtain ⟨⟨⟨w1, w2⟩, w3⟩, w4⟩ := sw
  refine and2 (locsOf_nms h1) fun nms hln => ?_
  refine Assign_Tuple_swapped (names := tnames ts) ?_ rfl (sw_hw (blockKind_fn O) h3 hl (star_any star) (sw_names h1 w1) hln w2 w3 w4)
  refine Tuple_ (h _ _ _ _ _ _ G fun vs' h1 t1 ow1 S1 ex1 le1 G1 r1 => ?_)
  have hlen := r1.len
  refine e13 (G1.pushSeq (T := "tuple") (vs := vs')) fun S2 le2 G2 hs => ?_
  refine wpAny_newObj_type ?_ (by show vs'.toArray.size ≤ sizeLine; rw [List.size_toArray, hlen, hsl, ← hl, sizeLine_eq]; omega)
  have hsz : (tnames ts).length = vs'.toArray.size := by rw [List.size_toArray, hlen, hsl, hln, hl]
  rw [hsz]
  refine unpackItems_tuple O.hnd (hs.keeps G2.1.stay).isTup fun h3 hx => ?_
  have G3 := G2.grow (extStays hx)
  have := bind_back (r1.keeps le2) O rfl rfl nms (E := E) (s := { s with heap := h3, toks := t1 }) (Q := fun _ => Q .next) (ts := []) (ws := []) G3 hp fun m' h' tk ow' G' => wpAny_pure (P _ m' h' tk ow' S2 (tr le1 le2) G' rfl)
  rw [List.append_nil, List.append_nil] at this
  exact this
theorem each_names : ∀ {ts : List Expr} {is : List Nat}, locsOf C.env.scope.names ts = some is → (assignEach ts C.env).length = ts.length ∧ (assignEach ts C.env).findIdx? (·.1) = none ∧ (assignEach ts C.env).map (·.2) = ts.map (fun t => assign t C.env)
  | [], is, _ => ⟨rfl, rfl, rfl⟩
  | e :: r, is, h => by
    refine bindE h fun i h1 h => bindE h fun l h2 _ => ?_
    refine e22 (locOf_name h1) fun x p eq1 nm => ?_; subst eq1
    refine and3 (each_names h2) fun a b c => ?_
    refine ⟨congrArg (· + 1) a, ?_, congrArg (assign (.Name x p) C.env :: ·) c⟩
    show List.findIdx? (·.1) ((false, assign (.Name x p) C.env) :: assignEach r C.env) = none
    rw [List.findIdx?_cons, b]
    rfl
theorem bind_fwd (O : C.Ok) {S : Heap} {E : Value → Shared → Prop} {Q : Unit → Shared → Prop} : ∀ {ts : List Expr} {is : List Nat}, locsOf C.env.scope.names ts = some is → ∀ {vs : List Value} {ds : List PyData} {st st' : St} {s : Shared} {m : Str → Option Value} {ow : Nat → Option (Addr × Obj)}, RDs S vs ds → Good C m st ow S s.heap → putAll is (ds.map .d) st = some st' →
    (∀ m' h' tk ow', Good C m' st' ow' S h' → Q () { s with heap := h', toks := tk }) → wpAny (model C.prog C.w) C.A (assignInOrder (ts.map (fun t => assign t C.env)) vs) Q E s
  | [], is, h, vs, ds, st, st', s, m, ow, r, G, hp, k => by
    obtain rfl := Option.some.inj h
    cases r with
    | nil => obtain rfl := Option.some.inj hp; exact wpAny_pure (k m s.heap s.toks ow G)
    | cons _ _ => exact noS hp
  | e :: t, is, h, vs, ds, st, st', s, m, ow, r, G, hp, k => by
    refine bindE h fun i h1 h => bindE h fun l h2 h => and2 (if_not h) fun _ h => ?_
    obtain rfl := Option.some.inj h
    refine e22 (locOf_name h1) fun x p eq1 nm => ?_; subst eq1
    cases r with
    | nil => exact noS hp
    | @cons v d vs ds rv r =>
      refine wpAny_bind (wpAny_holding (assign_Name (bindN (C := C) (oo := none) O (show Good (C.hold (add C.ex none)) m st ow S s.heap from G) nm (sl := .d d) ⟨rv, rfl⟩ trivial fun m2 h2' t2 ow2 G2 => ?_)))
      exact bind_fwd O h2 r (s := { s with heap := h2', toks := t2 }) G2 hp k
set_option tactic.hygienic true in
theorem s_asgU (O : C.Ok) {ts : List Expr} {e : Expr} {k1 : Nat} {tp pos : Pos} {is : List Nat} {x : PyData} (h1 : locsOf C.env.scope.names ts = some is) (hc : notComp e = true) (ht : ∀ vs k p, e ≠ .Tuple vs k p)
    (h : EvE C e st x st1) (hu : unpK is x st1 = some (none, st2)) : EvS C (PySem.exec (.Assign [.Tuple ts k1 tp] e pos) C.env) st none st2 := by
  intro E s m ow S Q G P
  refine Assign_Tuple (h _ _ _ _ _ _ G fun v h2 t2 ow2 S2 le2 G2 r2 => ?_) (Eq.trans (by rfl) (swaps_of hc (some (.Tuple ts k1 tp)) pos.line C.env)) (by cases e <;> first | rfl | exact absurd rfl (ht _ _ _))
  unfold unpK doneK at hu
  split at hu
  · rename_i ds
    split at hu
    · rename_i st3 hp
      cases hu
      refine e24 r2.tuple_inv fun a vs eq1 hs hr hl => ?_; subst eq1
      refine and3 (each_names h1) fun e1 e2 e3 => ?_
      have hlen : ∀ {is : List Nat} {ss : List Slot} {st st' : St}, putAll is ss st = some st' → is.length = ss.length := by
        intro is
        induction is with
        | nil => intro ss st st' h; cases ss <;> first | rfl | exact noS h
        | cons i r ih => intro ss st st' h; cases ss with
          | nil => exact noS h
          | cons s t => simp [ih h]
      have hil : ∀ {ts : List Expr} {is : List Nat}, locsOf C.env.scope.names ts = some is → is.length = ts.length := by
        intro ts
        induction ts with
        | nil => intro is h; obtain rfl := Option.some.inj h; rfl
        | cons t r ih =>
          intro is h
          exact bindE h fun i h1 h => bindE h fun l h2 h => and2 (if_not h) fun _ h => Option.some.inj h ▸ congrArg (· + 1) (ih h2)
      refine assign_Tuple_tuple O.hnd (hs.keeps G2.1.stay).isTup (by rw [e1, List.size_toArray, hr.length]; have := hlen hp; have := hil h1; simp at *; omega) e2 fun h3 hx => ?_
      rw [e3, List.toList_toArray]
      exact bind_fwd O h1 hr (s := { s with heap := h3, toks := t2 }) (G2.grow (extStays hx)) hp fun m' h' tk ow' G' => P _ m' h' tk ow' S2 le2 G' rfl
    · exact noS hu
  · exact noS hu
end
open Classical in
noncomputable def exW (ex : Addr → Option Obj) (wr : List Addr) (h : Heap) : Addr → Option Obj := fun a => if a ∈ wr then h.get? a else ex a
structure Over (ex0 : Addr → Option Obj) (wr : List Addr) (ex : Addr → Option Obj) : Prop where
  all : ∀ a ∈ wr, (ex a).isSome = true
  off : ∀ a, a ∉ wr → ex a = ex0 a
  no : ∀ a ∈ wr, ex0 a = none
theorem Over.turn {ex0 ex : Addr → Option Obj} {wr : List Addr} {h : Heap} (o : Over ex0 wr ex) (l : ∀ a ∈ wr, (h.get? a).isSome = true) : Over ex0 wr (exW ex0 wr h) :=
  ⟨fun a ha => by simp only [exW, ha, if_true]; exact l a ha, fun a ha => by simp [exW, ha], o.no⟩
theorem Inv.walk {h₀ h h' : Heap} {L : Addr} {m : Str → Option Value} {own : Nat → Option (Addr × Obj)} {ex ex0 ex' : Addr → Option Obj} {S : Heap} {wr : List Addr} (I : Inv h₀ L m own ex S h) (o : Over ex0 wr ex)
    (hk : ∀ b x, b ∉ wr → h.get? b = some x → h'.get? b = some x) (he : ∀ a x, ex' a = some x → (a ∈ wr ∧ h'.get? a = some x) ∨ (a ∉ wr ∧ ex0 a = some x)) : Inv h₀ L m own ex' S h' := by
  have inw : ∀ {a : Addr}, a ∈ wr → a ≠ L ∧ S.get? a = none := fun {a} ha => by
    refine e11 (Option.isSome_iff_exists.mp (o.all a ha)) fun x hx => ?_
    exact (I.ext a x hx).2
  have offw : ∀ {b : Addr} {x : Obj}, S.get? b = some x → b ∉ wr := fun {b x} e hb => by rw [(inw hb).2] at e; exact noS e
  have hL : L ∉ wr := fun z => (inw z).1 rfl
  refine ⟨?_, I.base, fun b x e => hk b x (offw e) (I.stay b x e), I.offL, fun j b x q => ?_, I.inj, fun b x q => ?_, I.top⟩
  · obtain ⟨ob, es, ep, h1, h2⟩ := id I.ns
    exact ⟨ob, es, ep, hk _ _ hL h1, h2⟩
  · have q' := I.own j b x q
    have hb : b ∉ wr := fun z => by have := o.all b z; rw [q'.2.2.2] at this; exact fTr this
    refine ⟨hk b x hb q'.1, q'.2.1, q'.2.2.1, ?_⟩
    cases e : ex' b with
    | none => rfl
    | some y =>
      rcases he b y e with z | z
      · exact absurd z.1 hb
      · rw [← o.off b hb, q'.2.2.2] at z; exact noS z.2
  · rcases he b x q with z | z
    · exact ⟨z.2, inw z.1⟩
    · rw [← o.off b z.1] at z
      have := I.ext b x z.2
      exact ⟨hk b x z.1 this.1, this.2⟩
theorem exW_spec {ex0 : Addr → Option Obj} {wr : List Addr} {h' : Heap} : ∀ a x, exW ex0 wr h' a = some x → (a ∈ wr ∧ h'.get? a = some x) ∨ (a ∉ wr ∧ ex0 a = some x) := fun a x e => by
  by_cases ha : a ∈ wr
  · simp only [exW, ha, if_true] at e; exact .inl ⟨ha, e⟩
  · simp only [exW, ha, if_false] at e; exact .inr ⟨ha, e⟩
theorem ex0_spec {ex0 ex : Addr → Option Obj} {wr : List Addr} {h' : Heap} (o : Over ex0 wr ex) : ∀ a x, ex0 a = some x → (a ∈ wr ∧ h'.get? a = some x) ∨ (a ∉ wr ∧ ex0 a = some x) := fun a x e =>
  .inr ⟨fun z => (by rw [o.no a z] at e; exact noS e), e⟩
noncomputable def ItemAt (S h : Heap) (v : Value) : Tgt → PyData → Prop
  | .one _, d => RD S v d
  | .two _ _, d => ∃ T x y a b, d = .tuple [a, b] ∧ v = .ref T ∧ IsTup h T #[x, y] ∧ RD S x a ∧ RD S y b
section
variable {C : Cx} {st st1 st2 : St}
theorem bind_tgt (O : C.Ok) {target : Expr} {tgt : Tgt} (ht : tgtOf C.env.scope.names target = some tgt) {E : Value → Shared → Prop} {s : Shared} {m : Str → Option Value} {st st' : St} {ow : Nat → Option (Addr × Obj)} {S : Heap} {Q : Unit → Shared → Prop} {v : Value} {d : PyData}
    (G : Good C m st ow S s.heap) (hi : ItemAt S s.heap v tgt d) (hb : bindT tgt d st = some st') (q : ∀ m' h' tk ow', Good C m' st' ow' S h' → Q () { s with heap := h', toks := tk }) : wpAny (model C.prog C.w) C.A (assign target C.env v) Q E s := by
  have one : (locOf C.env.scope.names target).map .one = some tgt → wpAny (model C.prog C.w) C.A (assign target C.env v) Q E s := fun ht => by
    refine mapE ht fun i h1 eq1 => ?_; subst eq1
    refine e22 (locOf_name h1) fun na pa eq1 ma => ?_; subst eq1
    obtain rfl := Option.some.inj hb
    exact assign_Name (bindN (C := C) (oo := none) O (show Good (C.hold (add C.ex none)) m st ow S s.heap from G) ma (sl := .d d) ⟨hi, rfl⟩ trivial q)
  cases target with
  | Tuple es k p => cases es with
    | nil => exact noS ht
    | cons a r => cases r with
      | nil => exact noS ht
      | cons b r => cases r with
        | cons => exact noS ht
        | nil =>
          clear one
          refine bindE ht fun i h1 h => bindE h fun j h2 h => and2 (if_not h) fun _ h => ?_
          obtain rfl := Option.some.inj h
          obtain ⟨T, x, y, da, db, rfl, rfl, hT, rx, ry⟩ := hi
          refine e22 (locOf_name h1) fun na pa eq1 ma => ?_; subst eq1
          refine e22 (locOf_name h2) fun nb pb eq1 mb => ?_; subst eq1
          refine assign_Tuple_tuple O.hnd hT rfl rfl fun h3 hx => ?_
          have G3 := G.grow (extStays hx)
          obtain rfl := Option.some.inj hb
          refine wpAny_bind (wpAny_holding (assign_Name (bindN (C := C) (oo := none) (s := { s with heap := h3 }) O (show Good (C.hold (add C.ex none)) m st ow S h3 from G3) ma (sl := .d da) ⟨rx, rfl⟩ trivial fun m2 h4 t4 ow4 G4 => ?_)))
          refine wpAny_bind (wpAny_holding (assign_Name (bindN (C := C) (oo := none) (s := { s with heap := h4, toks := t4 }) O (show Good (C.hold (add C.ex none)) m2 _ ow4 S h4 from G4) mb (sl := .d db) ⟨ry, rfl⟩ trivial fun m5 h5 t5 ow5 G5 => ?_)))
          exact wpAny_pure (q m5 h5 t5 ow5 G5)
  | _ => exact one ht
theorem step_some {α : Type} {tgt : Tgt} {f : St → Ans α} {d : PyData} {st : St} {r : α × St} (h : step tgt f d st = some r) : ∃ st1, bindT tgt d st = some st1 ∧ f st1 = some r := by
  unfold step at h
  split at h
  · exact ⟨_, by assumption, h⟩
  · exact noS h
theorem Good.kinds {ex : Addr → Option Obj} {m : Str → Option Value} {ow : Nat → Option (Addr × Obj)} {S h h' : Heap} {ex' : Addr → Option Obj} (G : Good (C.hold ex) m st ow S h) (I : Inv C.h₀ C.env.locals m ow ex' S h') : Good (C.hold ex') m st ow S h' := ⟨I, G.2⟩
theorem for_turns {prog : Program} {w : World} {A : Around} {R : Result → Shared → Prop} {target : Expr} {it : Value} {body : List Stmt} {env : Env} (I : Nat → Shared → Prop)
    (turn : ∀ n s, I n s → ∀ (Q5 : Shared → Prop) (Qf : Flow → Shared → Prop) (X : Value → Shared → Prop), (∀ m s, m < n → I m s → Q5 s) → (∀ f s, R (.ok f) s → Qf f s) → wpAny (model prog w) A (pyNext it) (fun r s₁ => match r with
      | none => Qf .next s₁
      | some v => wpAny (model prog w) A (letOwnedTupleGo target it v) (fun _ s₀ => wpAny (model prog w) A (assign target env v) (fun _ s₂ =>
          wpAny (model prog w) A (PySem.execs body env) (fun f s₃ => match f with
            | .next | .cont => Q5 s₃
            | .brk => Qf .next s₃
            | .ret v => Qf (.ret v) s₃) X s₂) X s₀) X s₁) X s)
    {s : Shared} (n : Nat) (h : I n s) : codeAny (model prog w) A (.forLoop target it body [] env) R s := by
  refine codeAny_forLoop_any I (fun n s hI => ?_) n h
  refine wpAny_mono (turn n s hI (fun s => ∃ m, m < n ∧ I m s) (fun f s => R (.ok f) s) (notedBy (model prog w) A env fun e s' => R (.error e) s') (fun m s h1 h2 => ⟨m, h1, h2⟩) fun _ _ h => h) (fun r s₁ h₁ => ?_) fun _ _ z => z
  cases r with
  | none => exact wpAny_execs_nil h₁
  | some v => exact h₁
inductive ForInv (C : Cx) (wr : List Addr) (s : Shared) (S : Heap) (It : Nat → Heap → Prop) (rest : Nat → St → Prop) (n : Nat) : Nat → Shared → Prop where
  | mk (h' : Heap) (tk : Nat) (m' : Str → Option Value) (ow' : Nat → Option (Addr × Obj)) (S' : Heap) (st1 : St) (exi : Addr → Option Obj) (i : Nat) (hst : It i h') (le : S.StaysIn S') (G : Good (C.hold exi) m' st1 ow' S' h') (ov : Over C.ex wr exi)
    (hl : rest i st1) (hi : i ≤ n) : ForInv C wr s S It rest n (n + 1 - i) { s with heap := h', toks := tk }
set_option tactic.hygienic true in
theorem for_core (O : C.Ok) {target : Expr} {tgt : Tgt} {body : List Stmt} {B : St → Ans (Option PyData)} {I : Addr} {fp wr : List Addr} {n : Nat} {P Md : Nat → Value → Heap → Prop} {It : Nat → Heap → Prop} {ds : List PyData} {S₀ : Heap}
    (W : KTurns C.prog C.w C.A target I fp wr n P Md It) (ht : tgtOf C.env.scope.names target = some tgt) (hb : ∀ ex st o st1, B st = some (o, st1) → EvS (C.hold ex) (PySem.execs body C.env) st o st1)
    (live : ∀ i h, It i h → ∀ a ∈ wr, (h.get? a).isSome = true) (hfp : ∀ b ∈ fp, b ∈ wr ∨ (S₀.get? b).isSome = true) (hn : n = ds.length)
    (item : ∀ i v h S, i < n → S₀.StaysIn S → P i v h → ∃ d, ds[i]? = some d ∧ ItemAt S h v tgt d)
    {s : Shared} {R : Result → Shared → Prop} {m : Str → Option Value} {ow : Nat → Option (Addr × Obj)} {S : Heap} {ex : Addr → Option Obj} {o : Option PyData} {st' : St} (le : S₀.StaysIn S) (G : Good (C.hold ex) m st ow S s.heap) (ov : Over C.ex wr ex) (h0 : It 0 s.heap)
    (e : forL B tgt ds st = some (o, st')) (q : ∀ f m' h' tk ow' S', S.StaysIn S' → Good C m' st' ow' S' h' → FlowIs S' o f → R (.ok f) { s with heap := h', toks := tk }) :
    codeAny (model C.prog C.w) C.A (.forLoop target (.ref I) body [] C.env) R s := by
  refine for_turns (ForInv C wr s S It (fun i st1 => forL B tgt (ds.drop i) st1 = some (o, st')) n) ?_ (n + 1)
    (.mk s.heap s.toks m ow S st ex 0 h0 (StaysIn.refl S) G ov e (Nat.zero_le _))
  rintro k s' ⟨h', tk, m', ow', S', st1, ex1, i, hst', le1, G', ov', e', hi⟩ Q5 Qf X f5 ff
  by_cases hlt : i < n
  · refine W.item i _ _ _ hlt hst' fun v h₁ tk₁ hMd hk₁ => ?_
    refine W.go i v _ _ _ hMd fun h₂ hP hst₂ hk₂ => ?_
    have hk : ∀ b x, b ∉ wr → h'.get? b = some x → h₂.get? b = some x := fun b x hb z => hk₂ b x hb (hk₁ b x hb z)
    have G2 : Good (C.hold (exW C.ex wr h₂)) m' st1 ow' S' h₂ := G'.kinds (G'.1.walk ov' hk exW_spec)
    have ov2 := ov'.turn (live _ _ hst₂)
    refine e12 (item i v h₂ S' hlt (tr le le1) hP) fun d hd hit => ?_
    have hdr : ds.drop i = d :: ds.drop (i + 1) := by
      obtain ⟨h1, h2⟩ := List.getElem?_eq_some_iff.mp hd
      rw [List.drop_eq_getElem_cons h1, h2]
    rw [hdr, forL] at e'
    unfold seqK at e'
    refine (show wpAny (model C.prog C.w) C.A (assign target C.env v) _ _ { s with heap := h₂, toks := tk₁ } from ?_)
    split at e'
    · rename_i st3 hs
      refine e12 (step_some hs) fun st2 hb1 hb2 => ?_
      refine bind_tgt (C := C.hold (exW C.ex wr h₂)) (O.hold _) ht G2 hit hb1 fun m3 h3 t3 ow3 G3 => ?_
      refine hb (exW C.ex wr h₂) _ _ _ hb2 _ { s with heap := h3, toks := t3 } _ _ _ _ G3 fun f m4 h4 t4 ow4 S4 le4 G4 r4 => ?_
      cases r4
      refine f5 (n + 1 - (i + 1)) _ (by exact dec1 hi) (.mk h4 t4 m4 ow4 S4 _ _ (i + 1) ?_ (tr le1 le4) G4 ov2 e' hlt)
      refine W.frame _ _ _ hst₂ fun b hb x hx => ?_
      rcases hfp b hb with z | z
      · exact (G4.1.ext b x (by simp only [Cx.hold, exW, z, if_true]; exact hx)).1
      · refine e11 (Option.isSome_iff_exists.mp z) fun y hy => ?_
        have hy' := le1 _ _ (le _ _ hy)
        have : y = x := Option.some.inj ((G2.1.stay _ _ hy').symm.trans hx)
        exact this ▸ G4.1.stay _ _ (le4 _ _ hy')
    · rename_i dd st3 hs
      obtain ⟨rfl, rfl⟩ := some2 e'
      refine e12 (step_some hs) fun st2 hb1 hb2 => ?_
      refine bind_tgt (C := C.hold (exW C.ex wr h₂)) (O.hold _) ht G2 hit hb1 fun m3 h3 t3 ow3 G3 => ?_
      refine hb (exW C.ex wr h₂) _ _ _ hb2 _ { s with heap := h3, toks := t3 } _ _ _ _ G3 fun f m4 h4 t4 ow4 S4 le4 G4 r4 => ?_
      have r4' := r4
      obtain ⟨rv, rfl, hrv⟩ := r4
      exact ff _ _ (q _ m4 h4 t4 ow4 S4 (tr le1 le4) ⟨G4.1.walk ov2 (fun _ _ _ z => z) (ex0_spec ov2), G4.2⟩ r4')
    · exact noS e'
  · have hin : i = n := by exact Nat.le_antisymm (nle (fk (c2 i n) [(1, .var 0, .var 1), (1, .add (.var 1) (.num 1), .var 0)] rfl (nl hi))) (nle (fk (c2 i n) [(1, .var 1, .var 0), (1, .add (.var 0) (.num 1), .var 1)] rfl (nl (Nat.not_lt.mp hlt))))
    subst hin
    refine W.done _ _ _ hst' fun h₁ tk₁ hk₁ => ?_
    rw [hn, List.drop_length, forL] at e'
    obtain ⟨rfl, rfl⟩ := some2 e'
    exact ff _ _ (q _ m' h₁ tk₁ ow' S' le1 ⟨G'.1.walk ov' hk₁ (ex0_spec ov'), G'.2⟩ rfl)
end
section
variable {prog : Program} {w : World} {A : Around} {E : Value → Shared → Prop} {s : Shared}
theorem nextOf_tup {it t : Addr} {i : Nat} {items : Array Value} {x : Value} {Q : Value → Shared → Prop} (hit : s.heap.IsTupleIter it t i) (ht : s.heap.IsTuple t items) (hx : items[i]? = some x)
    (hQ : ∀ h', h'.IsTupleIter it t (i + 1) → Heap.SameBut it s.heap h' → Q x { s with heap := h' }) : wpAny (model prog w) A (Builtin.SmallTypes.nextOf (.ref it)) Q E s := by
  obtain ⟨o, ho, hc, hd⟩ := id hit
  obtain ⟨ot, hot, _, nt, hdt⟩ := ht
  refine wpAny_bind (wpAny_callSpecial?_slot (name := Str.ofString "__next__") hit.typeIs F.slot_tuple_iterator_next
    (wpAny_call_entry F.slot_tuple_iterator_next hit.typeIs F.entry_tuple_iterator_next ?_ (F.args_tuple_iterator_next_1 _)))
  refine wpAny_bind (m := field (.ref it) 0) (wpAny_field ho hd (x := .ref t) rfl ?_)
  refine wpAny_ite_neg (c := (Value.ref t == Value.none) = true) Bool.false_ne_true ?_
  refine wpAny_bind (m := field (.ref it) 1) (wpAny_field ho hd (x := .int i 0) rfl ?_)
  refine wpAny_bind (m := seqItems? (.ref t)) (wpAny_seqItems hot hdt ?_)
  simp only [Int.toNat_natCast, hx]
  refine wpAny_bind (wpAny_setField ho hd (by simp) (wpAny_pure ⟨x, rfl, wpAny_pure (hQ _ ?_ (Heap.SameBut.update ..))⟩))
  refine ⟨_, Heap.get?_update_self _ ho (Obj.isFreed_of_fields (Obj.data_mapFields hd _)), (Obj.cls_mapFields ..).trans hc, ?_⟩
  rw [Obj.data_mapFields hd]; simp [rawInt]
theorem nextOf_tup_end {it t : Addr} {i : Nat} {items : Array Value} {Q : Value → Shared → Prop} (hh : A.handled = none) (hit : s.heap.IsTupleIter it t i) (ht : s.heap.IsTuple t items) (hx : items[i]? = none)
    (hE : ∀ h' e, Heap.ExtBut it s.heap h' → (∃ o, h'.get? e = some o ∧ o.cls = .type "StopIteration") → E (.ref e) { s with heap := h' }) : wpAny (model prog w) A (Builtin.SmallTypes.nextOf (.ref it)) Q E s := by
  obtain ⟨o, ho, hc, hd⟩ := id hit
  obtain ⟨ot, hot, _, nt, hdt⟩ := ht
  refine wpAny_bind (wpAny_callSpecial?_slot (name := Str.ofString "__next__") hit.typeIs F.slot_tuple_iterator_next
    (wpAny_call_entry F.slot_tuple_iterator_next hit.typeIs F.entry_tuple_iterator_next ?_ (F.args_tuple_iterator_next_1 _)))
  refine wpAny_bind (m := field (.ref it) 0) (wpAny_field ho hd (x := .ref t) rfl ?_)
  refine wpAny_ite_neg (c := (Value.ref t == Value.none) = true) Bool.false_ne_true ?_
  refine wpAny_bind (m := field (.ref it) 1) (wpAny_field ho hd (x := .int i 0) rfl ?_)
  refine wpAny_bind (m := seqItems? (.ref t)) (wpAny_seqItems hot hdt ?_)
  simp only [Int.toNat_natCast, hx]
  refine wpAny_bind (wpAny_rule (wpAny_bind (wpAny_setField ho hd (by simp) ?_)))
  refine wpAny_bind (m := newExc (.type "StopIteration") []) ?_
  refine wpAny_bind (wpAny_newObj_type ?_ (by exact Nat.zero_le _))
  refine wpAny_bind (m := firstArgMember _ _) (wpAny_of_eq (a := Value.none) (by first | rfl | (rfl)) ?_)
  refine wpAny_newObj_type ?_ (by exact Nat.le_add_left _ _)
  refine wpAny_bind (wpAny_handled ?_)
  rw [show A.in1.handled = none from hh]
  refine wpAny_bind (wpAny_pure (wpAny_throw ?_))
  refine hE _ _ (fun b x hb e => ?_) ⟨_, Heap.get?_push_size _ rfl, rfl⟩
  exact Heap.get?_push_of_some _ (Heap.get?_push_of_some _ ((Heap.SameBut.update _ _ _).extBut b x hb e))
theorem drawsTup (hh : A.handled = none) (it t : Addr) (hne : t ≠ it) (items : Array Value) :
    Draws prog w A it [it, t] items.size (fun i v => items[i]? = some v) (fun i h => h.IsTupleIter it t i ∧ h.IsTuple t items) where
  live := fun _ _ st => let ⟨o, ho, _⟩ := st.1; ⟨o, ho⟩
  frame := fun _ _ _ st hk => ⟨let ⟨o, ho, r⟩ := st.1; ⟨o, hk it (by simp) o ho, r⟩, let ⟨o, ho, r⟩ := st.2; ⟨o, hk t (by simp) o ho, r⟩⟩
  item := fun i s Q E hi st hQ => by
    refine nextOf_tup st.1 st.2 (x := items[i]) (by simp [hi]) fun h' hit' hs' => ?_
    exact hQ _ h' s.toks (by simp [hi]) ⟨hit', let ⟨o, ho, r⟩ := st.2; ⟨o, (hs'.2 t hne).trans ho, r⟩⟩ hs'
  done := fun s Q E st hE => nextOf_tup_end hh st.1 st.2 (by simp) hE
set_option tactic.hygienic true in
theorem meets_enum_tup (l : Addr) (items : Array Value) (n : Nat) (dct : Option Addr) (sl : Array (Option Value)) :
    Meets (Builtin.«enumerate.__new__» ⟨[.type "enumerate", .ref l], []⟩) (fun _ R s => s.heap.get? l = some { cls := .type "tuple", dict := dct, data := .seq items n, slots := sl } ∧
      R (.ok (.ret (.ref (s.heap.push { cls := .type "tuple_iterator", data := .fields #[.ref l, .int 0 0] }).objs.size)))
        { s with heap := (s.heap.push { cls := .type "tuple_iterator", data := .fields #[.ref l, .int 0 0] }).push { cls := .type "enumerate", data := .fields #[.none, .bool false, .ref s.heap.objs.size, rawInt 0, .none, .none] } }) :=
  .of_wp fun prog w A R s h => by
    obtain ⟨hp, g, d, tk, os⟩ := s; refine and2 h fun hl h => ?_
    have hsub := sub_enumerate
    have hL : Heap.IsTuple (Shared.heap ⟨hp, g, d, tk, os⟩) l items := ⟨_, hl, rfl, n, rfl⟩
    wp_walk using wpAny_loadPart' hl
    refine wpAny_stack_any fun st => wpAny_pure ?_
    split
    · rename_i c _ _ _ _ _
      cases (c == Value.type "enumerate")
      · wp_walk using wpAny_loadPart' hl, wpAny_pyIter_tuple hL
        exact ⟨_, rfl, h⟩
      · wp_walk using wpAny_loadPart' hl, wpAny_pyIter_tuple hL
        exact ⟨_, rfl, h⟩
    · wp_walk using wpAny_loadPart' hl, wpAny_pyIter_tuple hL
      exact ⟨_, rfl, h⟩
theorem call_enum_tup {l : Addr} {items : Array Value} {Q : Value → Shared → Prop} (hL : s.heap.IsTuple l items)
    (h : ∀ h', IsEnum h' (s.heap.objs.size + 1) s.heap.objs.size 0 .none → h'.IsTupleIter s.heap.objs.size l 0 → h'.objs.size = s.heap.objs.size + 2 → (∀ b o, s.heap.get? b = some o → h'.get? b = some o) → Q (.ref (s.heap.objs.size + 1)) { s with heap := h' }) :
    wpAny (model prog w) A (call (.type "enumerate") [.ref l]) Q E s := by
  obtain ⟨⟨c, dct, dt, sl⟩, hl, hc, n, hd⟩ := hL
  replace hc : c = .type "tuple" := hc
  replace hd : dt = .seq items n := hd
  subst hc hd
  refine callType_new F.called_enumerate (by decide) (F.typeCall_enumerate_1 _) (F.newCall_enumerate_1 _) (fun obj => F.args_object_init_2 obj _) F.entry_enumerate_new
    (meets_enum_tup l items n dct sl) ⟨hl, ?_⟩
  have hz : (s.heap.push { cls := .type "tuple_iterator", data := .fields #[.ref l, .int 0 0] }).objs.size = s.heap.objs.size + 1 := Heap.size_push ..
  rw [hz]
  have he : IsEnum ((s.heap.push { cls := .type "tuple_iterator", data := .fields #[.ref l, .int 0 0] }).push
      { cls := .type "enumerate", data := .fields #[.none, .bool false, .ref s.heap.objs.size, rawInt 0, .none, .none] }) (s.heap.objs.size + 1) s.heap.objs.size 0 .none := by
    have := Heap.get?_push_size (s.heap.push { cls := .type "tuple_iterator", data := .fields #[.ref l, .int 0 0] })
      (o := { cls := .type "enumerate", data := .fields #[.none, .bool false, .ref s.heap.objs.size, rawInt 0, .none, .none] }) rfl
    rw [hz] at this; exact this
  refine ⟨⟨_, he, rfl⟩, h _ he ⟨_, Heap.get?_push_of_some _ (Heap.get?_push_size _ rfl), rfl, rfl⟩ (by rw [Heap.size_push, hz]) fun b o x => Heap.get?_push_of_some _ (Heap.get?_push_of_some _ x)⟩
end
noncomputable def RawD (h : Heap) (d : Addr) (es : Array DictEntry) (ep : Nat) : Prop := ∃ o, h.get? d = some o ∧ o.ExactDict ∧ o.data = .dict es ep
section
variable {prog : Program} {w : World} {A : Around} {E : Value → Shared → Prop} {s : Shared} {d it : Addr} {es : Array DictEntry} {ep i : Nat}
theorem RawD.typeIs (h : RawD s.heap d es ep) : s.TypeIs (.ref d) "dict" := let ⟨o, ho, hc, _⟩ := h; ⟨o, ho, hc.1⟩
theorem meets_items_raw (prog : Program) (w : World) (hd : (d == sysModules) = false) : MeetsIn prog w (Builtin.«dict.items» ⟨[.ref d], []⟩) (fun _ R s => (∃ es ep, RawD s.heap d es ep) ∧
      R (.ok (.ret (.ref s.heap.objs.size))) { s with heap := s.heap.push { cls := .type "dict_items", data := .fields #[.ref d] } }) :=
  .of_wp fun A R s ⟨⟨es, ep, hm⟩, h⟩ => by
    unfold Builtin.«dict.items»
    refine wpAny_bind ?_
    refine wpAny_bind (wpAny_notOrdered_dict hm.typeIs (wpAny_pure ?_))
    refine wpAny_bind (m := Builtin.Dict.showsAll d) ?_
    refine wpAny_ite_neg (by rw [hd]; exact Bool.false_ne_true) (wpAny_pure ?_)
    exact wpAny_bind (wpAny_newObj_type (wpAny_pure ⟨_, rfl, h⟩))
theorem iter_items_raw {v : Addr} {Q : Value → Shared → Prop} (hv : s.heap.IsItemsView v d) (hm : RawD s.heap d es ep)
    (hQ : Q (.ref s.heap.objs.size) { s with heap := s.heap.push { cls := .type "dict_itemiterator", data := .fields #[.none, .bool false, .ref d, .int 0 0, .int es.size 0, .int ep 0, .none, .none] } }) :
    wpAny (model prog w) A (pyIter (.ref v)) Q E s := by
  obtain ⟨ov, hov, hcv, hdv⟩ := id hv
  obtain ⟨o, ho, hc, hdat⟩ := id hm
  refine wpAny_pyIter_slot hv.typeIs F.slot_dict_items_iter (wpAny_call_entry F.slot_dict_items_iter hv.typeIs F.entry_dict_items_iter ?_ (F.args_dict_items_iter_1 _))
  unfold Builtin.«dict_items.__iter__»
  refine wpAny_bind (wpAny_pure (wpAny_bind ?_))
  refine wpAny_bind (wpAny_field hov hdv (x := .ref d) rfl (wpAny_pure (wpAny_bind ?_)))
  refine wpAny_bind (wpAny_dictEntries ho hdat (wpAny_bind (wpAny_dictEpoch ho hdat ?_)))
  simp only [show Builtin.Dict_items.ownsTuple "dict_itemiterator" = true by decide, if_true]
  refine wpAny_newObj_type (wpAny_pure ⟨_, rfl, "dict_itemiterator", _, ⟨_, Heap.get?_push_size _ rfl, rfl⟩, F.slot_dict_itemiterator_next.lookup, ?_⟩)
    (by simp only [sizeOk, Builtin.Dict_items.ownedTupleFields, List.size_toArray, List.length_append, List.length_cons, List.length_nil, sizeLine_eq]; exact Nat.le_add_left _ _)
  simpa [rawInt, Builtin.Dict_items.ownedTupleFields] using hQ
theorem next_items_raw {ok ov : Value} {x : DictEntry} {Q : Option Value → Shared → Prop} (hit : IsItemIter s.heap it d i es.size ep ok ov) (hm : RawD s.heap d es ep) (hx : es[i]? = some x)
    (hQ : ∀ h', IsItemIterOut h' it d (i + 1) es.size ep x.key x.val s.heap.objs.size → h'.get? s.heap.objs.size = some { cls := .type "tuple", data := .seq #[x.key, x.val] } → h'.objs.size = s.heap.objs.size + 1 →
      (∀ b o, b ≠ it → s.heap.get? b = some o → h'.get? b = some o) → Q (some (.ref s.heap.objs.size)) { s with heap := h' }) : wpAny (model prog w) A (pyNext (.ref it)) Q E s := by
  obtain ⟨hp, g, dr, tk, os⟩ := s
  obtain ⟨od, hod, hcd, hdd⟩ := id hm
  have hT : Shared.TypeIs ⟨hp, g, dr, tk, os⟩ (.ref it) "dict_itemiterator" := ⟨_, hit, rfl⟩
  refine wpAny_bind (wpAny_attempt (wpAny_callSpecial?_slot (name := Str.ofString "__next__") hT F.slot_dict_itemiterator_next
    (wpAny_call_entry F.slot_dict_itemiterator_next hT F.entry_dict_itemiterator_next ?_ (F.args_dict_itemiterator_next_1 _))))
  refine wpAny_bind (wpAny_pure (wpAny_bind (wpAny_bind ?_)))
  first | refine wpAny_bind (wpAny_typeNameOfWhole_itemiter hT (wpAny_pure ?_)) | refine wpAny_bind (wpAny_typeNameOf_itemiter hT (wpAny_pure ?_))
  refine wpAny_bind (wpAny_fieldsOf hit rfl ?_)
  simp only [show Builtin.Dict_items.ownsTuple "dict_itemiterator" = true by decide, if_true]
  refine wpAny_ite_neg (c := (Value.ref d == Value.none) = true) Bool.false_ne_true ?_
  refine wpAny_bind (wpAny_pure (wpAny_bind (wpAny_dictEntries hod hdd (wpAny_ite_neg (by simp) ?_))))
  refine wpAny_bind (wpAny_pure (wpAny_bind (wpAny_dictEpoch hod hdd (wpAny_ite_neg (by simp) (wpAny_pure ?_)))))
  simp only [show ¬ ((i : Int) < 0) from by exact of_decide_eq_true rfl, if_false, Int.toNat_natCast, hx]
  refine wpAny_bind ?_
  first | refine wpAny_bind (wpAny_typeNameOfWhole_itemiter hT (wpAny_pure ?_)) | refine wpAny_bind (wpAny_typeNameOf_itemiter hT (wpAny_pure ?_))
  refine wpAny_bind (wpAny_isOneOf_itemiter hT ?_)
  refine wpAny_bind (m := setField (.ref it) 3 (rawInt ((i : Int) + 1))) (wpAny_setField_rec hit (by simp) fun h₁ he₁ hs₁ => ?_)
  replace hs₁ : Heap.SameBut it hp h₁ := hs₁
  replace he₁ : IsItemIter h₁ it d (i + 1) es.size ep ok ov := by
    have e : ((i + 1 : Nat) : Int) = (i : Int) + 1 := by exact rfl
    unfold IsItemIter; rw [e]; simpa [rawInt] using he₁
  have hT₁ : Shared.TypeIs ⟨h₁, g, dr, tk, os⟩ (.ref it) "dict_itemiterator" := ⟨_, he₁, rfl⟩
  refine wpAny_bind (wpAny_holding (wpAny_bind (wpAny_isOneOf_itemiter hT₁ (wpAny_bind (wpAny_isOneOf_itemiter hT₁ ?_)))))
  refine wpAny_bind (wpAny_newTuple ?_)
  have hz₁ : h₁.objs.size = hp.objs.size := hs₁.1
  have hil : it < hp.objs.size := Heap.lt_size hit
  have he₂ : IsItemIter (h₁.push { cls := .type "tuple", data := .seq #[x.key, x.val] }) it d (i + 1) es.size ep ok ov := Heap.get?_push_of_some _ he₁
  generalize hh₂ : h₁.push { cls := .type "tuple", data := .seq #[x.key, x.val] } = h₂ at he₂
  have ht₂ : h₂.get? hp.objs.size = some { cls := .type "tuple", data := .seq #[x.key, x.val] } := by rw [← hh₂, ← hz₁]; exact Heap.get?_push_size _ rfl
  have hz₂ : h₂.objs.size = hp.objs.size + 1 := by rw [← hh₂, Heap.size_push, hz₁]
  have hk₂ : ∀ b o, b ≠ it → hp.get? b = some o → h₂.get? b = some o := fun b o hb e => by rw [← hh₂]; exact Heap.get?_push_of_some _ (hs₁.extBut b o hb e)
  show wpAny _ _ (Builtin.Dict_items.ownedTupleIsFree (.ref it) >>= _) _ _ ⟨h₂, g, dr, tk, os⟩
  rw [hz₁]
  clear hh₂ he₁ hs₁ hT₁ hz₁ h₁
  refine wpAny_bind ?_
  refine wpAny_bind (wpAny_field he₂ rfl (x := .none) rfl (wpAny_pure ?_))
  refine wpAny_bind (wpAny_field he₂ rfl (x := ok) rfl (wpAny_bind (wpAny_field he₂ rfl (x := ov) rfl ?_)))
  refine wpAny_bind (wpAny_setField_rec he₂ (by simp) fun h₃ he₃ hs₃ => ?_)
  replace hs₃ : Heap.SameBut it h₂ h₃ := hs₃
  replace he₃ : IsItemIter h₃ it d (i + 1) es.size ep x.key ov := he₃
  refine wpAny_bind (wpAny_setField_rec he₃ (by simp) fun h₄ he₄ hs₄ => ?_)
  replace hs₄ : Heap.SameBut it h₃ h₄ := hs₄
  replace he₄ : IsItemIter h₄ it d (i + 1) es.size ep x.key x.val := he₄
  refine wpAny_bind (wpAny_setField_rec he₄ (by simp) fun h₅ he₅ hs₅ => ?_)
  replace hs₅ : Heap.SameBut it h₄ h₅ := hs₅
  replace he₅ : IsItemIterOut h₅ it d (i + 1) es.size ep x.key x.val hp.objs.size := he₅
  refine wpAny_bind (wpAny_setField_rec he₅ (by simp) fun h₆ he₆ hs₆ => ?_)
  replace hs₆ : Heap.SameBut it h₅ h₆ := hs₆
  replace he₆ : IsItemIterOut h₆ it d (i + 1) es.size ep x.key x.val hp.objs.size := he₆
  have all : ∀ b o, b ≠ it → h₂.get? b = some o → h₆.get? b = some o := fun b o hb e => hs₆.extBut b o hb (hs₅.extBut b o hb (hs₄.extBut b o hb (hs₃.extBut b o hb e)))
  refine wpAny_bind (wpAny_letGo (wpAny_pure (wpAny_pure ⟨_, rfl, wpAny_pure (hQ h₆ he₆ (all _ _ (Nat.ne_of_gt hil) ht₂) ?_ fun b o hb e => all b o hb (hk₂ b o hb e))⟩)))
  rw [hs₆.1, hs₅.1, hs₄.1, hs₃.1, hz₂]
theorem next_items_end {ok ov : Value} {Q : Option Value → Shared → Prop} (hh : A.handled = none) (hit : IsItemIter s.heap it d i es.size ep ok ov) (hm : RawD s.heap d es ep) (hx : es.size ≤ i)
    (hQ : ∀ h', Heap.ExtBut it s.heap h' → Q none { s with heap := h' }) : wpAny (model prog w) A (pyNext (.ref it)) Q E s := by
  obtain ⟨od, hod, hcd, hdd⟩ := id hm
  have hT : s.TypeIs (.ref it) "dict_itemiterator" := ⟨_, hit, rfl⟩
  refine wpAny_bind (wpAny_attempt (wpAny_callSpecial?_slot (name := Str.ofString "__next__") hT F.slot_dict_itemiterator_next
    (wpAny_call_entry F.slot_dict_itemiterator_next hT F.entry_dict_itemiterator_next ?_ (F.args_dict_itemiterator_next_1 _))))
  refine wpAny_bind (wpAny_pure (wpAny_bind (wpAny_bind ?_)))
  first | refine wpAny_bind (wpAny_typeNameOfWhole_itemiter hT (wpAny_pure ?_)) | refine wpAny_bind (wpAny_typeNameOf_itemiter hT (wpAny_pure ?_))
  refine wpAny_bind (wpAny_fieldsOf hit rfl ?_)
  simp only [show Builtin.Dict_items.ownsTuple "dict_itemiterator" = true by decide, if_true]
  refine wpAny_ite_neg (c := (Value.ref d == Value.none) = true) Bool.false_ne_true ?_
  refine wpAny_bind (wpAny_pure (wpAny_bind (wpAny_dictEntries hod hdd (wpAny_ite_neg (by simp) ?_))))
  refine wpAny_bind (wpAny_pure (wpAny_bind (wpAny_dictEpoch hod hdd (wpAny_ite_neg (by simp) (wpAny_pure ?_)))))
  simp only [show ¬ ((i : Int) < 0) from by exact of_decide_eq_true rfl, if_false, Int.toNat_natCast, Array.getElem?_eq_none hx]
  refine wpAny_bind ?_
  first | refine wpAny_bind (wpAny_typeNameOfWhole_itemiter hT (wpAny_pure ?_)) | refine wpAny_bind (wpAny_typeNameOf_itemiter hT (wpAny_pure ?_))
  refine wpAny_bind (m := setField (.ref it) 2 .none) (wpAny_setField hit rfl (by simp) ?_)
  refine wpAny_bind (m := newExc (.type "StopIteration") []) ?_
  refine wpAny_bind (wpAny_newObj_type ?_ (by exact Nat.zero_le _))
  refine wpAny_bind (m := firstArgMember _ _) (wpAny_of_eq (a := Value.none) (by first | rfl | (rfl)) ?_)
  refine wpAny_newObj_type ?_ (by exact Nat.le_add_left _ _)
  refine wpAny_bind (wpAny_handled ?_)
  rw [show A.in1.handled = none from hh]
  refine wpAny_bind (wpAny_pure (wpAny_throw ?_))
  refine wpAny_bind (wpAny_isInstance (T := "StopIteration") (b := true) ⟨_, Heap.get?_push_size _ rfl, rfl⟩ isSubtype_stop ?_)
  exact wpAny_pure (hQ _ (((Heap.SameBut.update ..).extBut.push _).push _))
end
noncomputable def OpB (C : Cx) (g : List Value → Sem Value) (ds : List PyData) (d : PyData) : Prop :=
  ∀ (E : Value → Shared → Prop) (s : Shared) (m : Str → Option Value) (st : St) (ow : Nat → Option (Addr × Obj)) (S : Heap) (Q : Value → Shared → Prop) (vs : List Value),
    Good C m st ow S s.heap → RDs S vs ds → Post C m st S s (fun S v => RD S v d) Q → wpAny (model C.prog C.w) C.A (g vs) Q E s
section
variable {C : Cx} {st st1 st2 : St}
theorem ob_abs {a : Int} : OpB C (fun vs => call (.builtin "abs") vs) [.int a] (.int (if a < 0 then -a else a)) := fun E s m st ow S Q vs G r P => by
  cases r with
  | cons h r => cases r with
    | nil => refine e11 h.int_inv fun t eq1 => ?_; subst eq1; exact call_abs_int fun u tk => P _ s.heap tk ow S (StaysIn.refl S) G (.int _ _)
theorem ob_max (O : C.Ok) {a b : Int} : OpB C (fun vs => call (.builtin "max") vs) [.int a, .int b] (.int (if b > a then b else a)) := fun E s m st ow S Q vs G r P => by
  refine e23 (RDs.two_inv r) fun v0 v1 eq0 h h2 => ?_; subst eq0
  refine e11 h.int_inv fun t eq1 => ?_; subst eq1; refine e11 h2.int_inv fun u eq1 => ?_; subst eq1
  refine Flt.max_two_num O.hnd (.int _ _) (.int _ _) fun h' tk hk => P _ h' tk ow S (StaysIn.refl S) (G.grow hk) ?_
  rw [show Flt.ltV (.int a t) (.int b u) = decide (a < b) from rfl]
  by_cases hb : a < b
  · simp only [hb, decide_true, if_true]; exact .int _ _
  · simp only [hb, decide_false, if_false, Bool.false_eq_true]; exact .int _ _
theorem ob_min (O : C.Ok) {a b : Int} : OpB C (fun vs => call (.builtin "min") vs) [.int a, .int b] (.int (if b < a then b else a)) := fun E s m st ow S Q vs G r P => by
  refine e23 (RDs.two_inv r) fun v0 v1 eq0 h h2 => ?_; subst eq0
  refine e11 h.int_inv fun t eq1 => ?_; subst eq1; refine e11 h2.int_inv fun u eq1 => ?_; subst eq1
  refine Flt.min_two_num O.hnd (.int _ _) (.int _ _) fun h' tk hk => P _ h' tk ow S (StaysIn.refl S) (G.grow hk) ?_
  rw [show Flt.ltV (.int b u) (.int a t) = decide (b < a) from rfl]
  by_cases hb : b < a
  · simp only [hb, decide_true, if_true]; exact .int _ _
  · simp only [hb, decide_false, if_false, Bool.false_eq_true]; exact .int _ _
theorem ob_listL {xs : List PyData} : OpB C (fun vs => call (.type "list") vs) [.list xs] (.list xs) := fun E s m st ow S Q vs G r P => by
  refine e12 (RDs.one_inv r) fun v0 eq0 h => ?_; subst eq0
  refine e24 h.list_inv fun a vs eq1 hs hr hl => ?_; subst eq1
  obtain ⟨o, ho, hc, n, hd⟩ := hs.keeps G.1.stay
  refine call_list_seq a (.inl rfl) ho hc hd (fun h' c' hk hg => ?_) (by rw [List.size_toArray, hr.length, sizeLine_eq]; have := lenOk_le.mp hl; exact leE this rfl)
  refine e13 (G.seeAll hk) fun S' le G' hS => ?_
  exact P _ h' s.toks ow S' le G' (.list ⟨_, hS _ _ (fresh_size _) hg, rfl, _, rfl⟩ (hr.keeps le) hl)
theorem ob_listT {xs : List PyData} : OpB C (fun vs => call (.type "list") vs) [.tuple xs] (.list xs) := fun E s m st ow S Q vs G r P => by
  refine e12 (RDs.one_inv r) fun v0 eq0 h => ?_; subst eq0
  refine e24 h.tuple_inv fun a vs eq1 hs hr hl => ?_; subst eq1
  obtain ⟨o, ho, hc, n, hd⟩ := hs.keeps G.1.stay
  refine call_list_seq a (.inr rfl) ho hc hd (fun h' c' hk hg => ?_) (by rw [List.size_toArray, hr.length, sizeLine_eq]; have := lenOk_le.mp hl; exact leE this rfl)
  refine e13 (G.seeAll hk) fun S' le G' hS => ?_
  exact P _ h' s.toks ow S' le G' (.list ⟨_, hS _ _ (fresh_size _) hg, rfl, _, rfl⟩ (hr.keeps le) hl)
theorem ob_tup {xs : List PyData} : OpB C (fun vs => call (.type "tuple") vs) [.list xs] (.tuple xs) := fun E s m st ow S Q vs G r P => by
  refine e12 (RDs.one_inv r) fun v0 eq0 h => ?_; subst eq0
  refine e24 h.list_inv fun a vs eq1 hs hr hl => ?_; subst eq1
  refine call_tuple_list (hs.keeps G.1.stay).isList (fun h' hk => ?_) (by rw [List.size_toArray, hr.length, sizeLine_eq]; have := lenOk_le.mp hl; exact leE this rfl)
  refine e13 ((G.grow hk).pushSeq (T := "tuple") (vs := vs)) fun S' le G' hS => ?_
  exact P _ _ s.toks ow S' le G' (.tuple hS (hr.keeps le) hl)
theorem ob_len {d e : PyData} (h : lenV d = some e) : OpB C (fun vs => call (.builtin "len") vs) [d] e := fun E s m st ow S Q vs G r P => by
  refine e12 (RDs.one_inv r) fun v0 eq0 h1 => ?_; subst eq0
  unfold lenV at h
  split at h
  · obtain rfl := Option.some.inj h
    refine e24 h1.list_inv fun a vs eq1 hs hr hl => ?_; subst eq1
    have := lenOk_le.mp hl
    refine len_list (hs.keeps G.1.stay).isList (by rw [List.size_toArray, hr.length]; omega) ?_
    rw [List.size_toArray, hr.length]
    exact P _ s.heap _ ow S (StaysIn.refl S) G (.int _ _)
  · obtain rfl := Option.some.inj h
    refine e24 h1.tuple_inv fun a vs eq1 hs hr hl => ?_; subst eq1
    have := lenOk_le.mp hl
    refine len_tuple (hs.keeps G.1.stay).isTup (by rw [List.size_toArray, hr.length]; omega) ?_
    rw [List.size_toArray, hr.length]
    exact P _ s.heap _ ow S (StaysIn.refl S) G (.int _ _)
  · exact noS h
theorem intsD_get : ∀ {xs : List PyData} {is : List Int}, intsD xs = some is → is.length = xs.length ∧ ∀ i, i < is.length → xs[i]? = some (.int (is.getD i 0))
  | [], is, h => by obtain rfl := Option.some.inj h; exact ⟨rfl, fun i hi => by simp at hi⟩
  | .int a :: r, is, h => by
    refine mapE h fun t ht eq1 => ?_; subst eq1
    refine and2 (intsD_get ht) fun h1 h2 => ?_
    refine ⟨by simp [h1], fun i hi => ?_⟩
    cases i with
    | zero => simp
    | succ i => simpa using h2 i (by simpa using hi)
theorem ob_sum (O : C.Ok) {xs : List PyData} {is : List Int} (h : intsD xs = some is) : OpB C (fun vs => call (.builtin "sum") vs) [.list xs] (.int is.sum) := fun E s m st ow S Q vs G r P => by
  refine e12 (RDs.one_inv r) fun v0 eq0 h1 => ?_; subst eq0
  refine e24 h1.list_inv fun a vs eq1 hs hr hl => ?_; subst eq1
  have hL := (hs.keeps G.1.stay).isList
  refine call_sum_walkAnyS (wpAny_pyIter_list hL ?_)
  obtain ⟨o, ho, hoc⟩ := id hL
  have hne : a ≠ s.heap.objs.size := Nat.ne_of_lt (Heap.lt_size ho)
  have W := (Walks.list (prog := C.prog) (w := C.w) (A := C.A.in1) O.hnd s.heap.objs.size a hne vs.toArray).toS
  refine and2 (intsD_get h) fun e1 e2 => ?_
  refine ⟨_, _, _, _, _, _, _, (fun i => is.getD i 0), rfl, W, ?_, ?_, ?_, ?_⟩
  · exact ⟨⟨_, Heap.get?_push_size _ rfl, rfl, rfl⟩, ⟨o, Heap.get?_push_of_some _ ho, hoc⟩⟩
  · intro b hb
    have hlt := Heap.lt_size ho
    rw [Heap.size_push]
    rcases List.mem_cons.mp hb with rfl | hb
    · exact Nat.lt_succ_self _
    · rw [List.mem_singleton.mp hb]; exact Nat.lt_succ_of_lt hlt
  · intro i v hv
    have hv' : vs[i]? = some v := by simpa using hv
    have hi : i < is.length := by rw [e1, ← hr.length]; exact (List.getElem?_eq_some_iff.mp hv').1
    refine e12 (hr.get (e2 i hi)) fun v' h3 h4 => ?_
    rw [hv'] at h3
    obtain rfl := Option.some.inj h3
    refine e11 h4.int_inv fun t eq1 => ?_; subst eq1
    exact ⟨t, rfl⟩
  · intro s' t' mv
    rw [preSum_getD, List.take_of_length_le (by rw [List.size_toArray, hr.length, e1]; exact Nat.le_refl _)]
    have es : s' = { s with heap := s'.heap, toks := s'.toks } := by
      obtain ⟨h1, g1, d1, k1, o1⟩ := s'
      have := mv.gens; have := mv.drawn; have := mv.os
      simp only at *
      subst_vars
      rfl
    rw [es]
    refine P _ s'.heap s'.toks ow S (StaysIn.refl S) (G.grow fun b x e => mv.heap b x ?_ (Heap.get?_push_of_some _ e)) (.int _ _)
    intro z
    simp at z
    exact absurd (Heap.lt_size e) (by rw [z]; exact Nat.lt_irrefl _)
end
noncomputable def bfVal : Bf → Value
  | .abs => .builtin "abs"
  | .max => .builtin "max"
  | .min => .builtin "min"
  | .len => .builtin "len"
  | .sorted => .builtin "sorted"
  | .sum => .builtin "sum"
  | .list => .type "list"
  | .tuple => .type "tuple"
  | .range => .type "range"
  | .enumerate => .type "enumerate"
structure PK (w : World) (K : Frag) (fa : FN → Addr) (gt : Str → Option GV) : Prop where
  dat : ∀ x d, gt x = some (.dat d) → ∃ v, nsIn K mainGlobals x = some (some v) ∧ ∀ h, K.In h → RD h v d
  tab : ∀ x kvs, gt x = some (.tab kvs) → ∃ a, nsIn K mainGlobals x = some (some (.ref a)) ∧ ∀ h, K.In h → ∃ o es n, h.get? a = some o ∧ o.ExactDict ∧ o.data = .dict (List.toArray es) n ∧ EntS w.params h es kvs
  bf : ∀ x f, gt x = some (.bf f) → nsIn K mainGlobals x = some none ∧ bootBuiltins x = some (bfVal f)
  fn : ∀ x f, gt x = some (.fn f) → nsIn K mainGlobals x = some (some (.ref (fa f))) ∧ ∀ h, K.In h → ∃ o fd, h.get? (fa f) = some o ∧ o.data = .func fd
set_option tactic.hygienic true in
theorem globOf_some {gt : Str → Option GV} {ns : List (Str × NameKind)} {x : Str} {g : GV} (h : globOf gt ns x = some g) : ∃ i, posOf x ns 0 = some (i, .globalImplicit) ∧ (x == ("__debug__" : Str)) = false ∧ (x == ("__name__" : Str)) = false ∧ gt x = some g := by
  unfold globOf at h
  refine and2 (if_not h) fun hx h => ?_
  · split at h
    · rename_i i hi
      simp only [Bool.or_eq_true, not_or, Bool.not_eq_true] at hx
      exact ⟨i, hi, hx.1, hx.2, h⟩
    · exact noS h
section
variable {C : Cx} {st st1 st2 : St} {fa : FN → Addr} {gt : Str → Option GV}
theorem callV {E : Value → Shared → Prop} {s : Shared} {pos : Pos} {e : Expr} {r : List Expr} {Q : Value → Shared → Prop} {M : Model} {A : Around} {env : Env} (f : Bf) (hs : starOk (e :: r) = true)
    (h : wpAny M A (spliced (backTo pos (starEach (e :: r) env))) (fun vs s₁ => wpAny M A (call (bfVal f) vs) Q E s₁) E s) : wpAny M A (callWith pos (bfVal f) [] (backTo pos (starEach (e :: r) env)) []) Q E s := by
  have hp := (star_all (pos := pos) (env := env) hs).1
  cases f <;> first
    | exact callWith_builtin hp (args_plain (star_cons hs).1 h)
    | exact PySem.callWith_type hp (args_plain (star_cons hs).1 h)
theorem r_bt (O : C.Ok) (T : PK C.w C.K fa gt) {x : Str} {p pos : Pos} {e : Expr} {r : List Expr} {f : Bf} {ds : List PyData} {d : PyData} (hx : globOf gt C.env.scope.names x = some (.bf f)) (hs : starOk (e :: r) = true)
    (h : EvL C pos (e :: r) st ds st1) (op : OpB C (fun vs => call (bfVal f) vs) ds d) : EvE C (.Call (.Name x p) (e :: r) [] pos) st d st1 := by
  intro E s m ow S Q G P
  refine e14 (globOf_some hx) fun i h1 h2 h3 h4 => ?_
  refine and2 (T.bf x f h4) fun k1 k2 => ?_
  exact wpAny_Call_NameR (name_built O G h1 h2 (by simpa using h3) k1 k2 (callV f hs (h _ _ _ _ _ _ G fun vs h2 t2 ow2 S2 le2 G2 r2 =>
    op E _ m st1 ow2 S2 Q vs G2 r2 fun v h3 t3 ow3 S3 le3 G3 r3 => P v h3 t3 ow3 S3 (tr le2 le3) G3 r3)))
theorem r_one {op : BoolOp} {e : Expr} {pos : Pos} {d : PyData} (h : EvE C e st d st1) : EvE C (.BoolOp op [e] pos) st d st1 := fun E s m ow S Q G P => BoolOp_one (h _ _ _ _ _ _ G P)
theorem r_and {e e2 : Expr} {r : List Expr} {pos : Pos} {c : Bool} {d : PyData} (h : EvE C e st (.bool c) st1) (k : if c then EvE C (.BoolOp .And (e2 :: r) pos) st1 d st2 else d = .bool false ∧ st2 = st1) : EvE C (.BoolOp .And (e :: e2 :: r) pos) st d st2 := fun E s m ow S Q G P =>
  BoolOp_and (h _ _ _ _ _ _ G fun v h1 t1 ow1 S1 le1 G1 r1 => by
    rw [r1.bool_inv]
    refine wpAny_truthy_bool ?_
    cases c with
    | true => exact k _ _ _ _ _ _ G1 fun v h2 t2 ow2 S2 le2 G2 r2 => P v h2 t2 ow2 S2 (tr le1 le2) G2 r2
    | false => obtain ⟨rfl, rfl⟩ := k; exact P _ h1 t1 ow1 S1 le1 G1 (.bool false))
theorem r_or {e e2 : Expr} {r : List Expr} {pos : Pos} {c : Bool} {d : PyData} (h : EvE C e st (.bool c) st1) (k : if c then d = .bool true ∧ st2 = st1 else EvE C (.BoolOp .Or (e2 :: r) pos) st1 d st2) : EvE C (.BoolOp .Or (e :: e2 :: r) pos) st d st2 := fun E s m ow S Q G P =>
  BoolOp_or (h _ _ _ _ _ _ G fun v h1 t1 ow1 S1 le1 G1 r1 => by
    rw [r1.bool_inv]
    refine wpAny_truthy_bool ?_
    cases c with
    | false => exact k _ _ _ _ _ _ G1 fun v h2 t2 ow2 S2 le2 G2 r2 => P v h2 t2 ow2 S2 (tr le1 le2) G2 r2
    | true => obtain ⟨rfl, rfl⟩ := k; exact P _ h1 t1 ow1 S1 le1 G1 (.bool true))
abbrev EvW (C : Cx) (op : BoolOp) (es : List Expr) (pos : Pos) (st : St) (c : Bool) (st' : St) : Prop := ∀ whole, EvP C (isTrue (.BoolOp op es pos) C.env whole) st st' fun _ v => v = c
theorem w_and_nil {pos : Pos} : EvW C .And [] pos st true st := fun whole E s m ow S Q G P => isTrue_and_nil (P true s.heap s.toks ow S (StaysIn.refl S) G rfl)
theorem w_or_nil {pos : Pos} : EvW C .Or [] pos st false st := fun whole E s m ow S Q G P => isTrue_or_nil (P false s.heap s.toks ow S (StaysIn.refl S) G rfl)
theorem w_and {e : Expr} {r : List Expr} {pos : Pos} {c d : Bool} (h : EvT C e st c st1) (k : if c then EvW C .And r pos st1 d st2 else d = false ∧ st2 = st1) : EvW C .And (e :: r) pos st d st2 := fun whole E s m ow S Q G P =>
  isTrue_and (h _ _ _ _ _ _ G fun v h1 t1 ow1 S1 le1 G1 r1 => by
    subst r1
    cases v with
    | true => exact k whole _ _ _ _ _ _ G1 fun v h2 t2 ow2 S2 le2 G2 r2 => P v h2 t2 ow2 S2 (tr le1 le2) G2 r2
    | false => obtain ⟨rfl, rfl⟩ := k; exact P _ h1 t1 ow1 S1 le1 G1 rfl)
theorem w_or {e : Expr} {r : List Expr} {pos : Pos} {c d : Bool} (h : EvT C e st c st1) (k : if c then d = true ∧ st2 = st1 else EvW C .Or r pos st1 d st2) : EvW C .Or (e :: r) pos st d st2 := fun whole E s m ow S Q G P =>
  isTrue_or (h _ _ _ _ _ _ G fun v h1 t1 ow1 S1 le1 G1 r1 => by
    subst r1
    cases v with
    | false => exact k whole _ _ _ _ _ _ G1 fun v h2 t2 ow2 S2 le2 G2 r2 => P v h2 t2 ow2 S2 (tr le1 le2) G2 r2
    | true => obtain ⟨rfl, rfl⟩ := k; exact P _ h1 t1 ow1 S1 le1 G1 rfl)
theorem r_gidx (O : C.Ok) (T : PK C.w C.K fa gt) {x : Str} {p pos : Pos} {b : Expr} {kvs : List (Str × PyData)} {y d : PyData} (hx : globOf gt C.env.scope.names x = some (.tab kvs)) (hn : notSlice b = true) (hb : EvE C b st y st1) (e : lookK kvs y st1 = some (d, st2)) :
    EvE C (.Subscript (.Name x p) b pos) st d st2 := by
  intro E s m ow S Q G P
  refine e14 (globOf_some hx) fun i h1 h2 h3 h4 => ?_
  refine e12 (T.tab x kvs h4) fun a k1 k2 => ?_
  refine Subscript_ (name_glob O G h1 h2 k1 (hb _ _ _ _ _ _ G fun v h2 t2 ow2 S2 le2 G2 rv => ?_))
  refine e34 (k2 S2 ((O.gl.keeps G2.1.base).inK)) fun o es n g1 g2 g3 g4 => ?_
  unfold lookK at e
  split at e
  · refine and2 (lift_some e) fun e1 eq1 => ?_; subst eq1
    obtain ⟨⟨t, rfl⟩, _⟩ := rv.str_inv
    exact str_item (s := { s with heap := h2, toks := t2 }) (G2.1.stay _ _ g1) g2 g3 g4 e1 (subscripted_of hn) fun v tk r => P v h2 tk ow2 S2 le2 G2 r
  · exact noS e
theorem Good.pushO {m : Str → Option Value} {ow : Nat → Option (Addr × Obj)} {S h : Heap} (G : Good C m st ow S h) (o : Obj) : Good C m st ow S (h.push o) := G.grow fun b x e => Heap.get?_push_of_some _ e
set_option tactic.hygienic true in
theorem r_upto {a b : Expr} {sp pos : Pos} {x y d : PyData} (ha : EvE C a st x st1) (hb : EvE C b st1 y st2) (e : uptoV x y = some d) : EvE C (.Subscript a (.Slice none (some b) none sp) pos) st d st2 := by
  intro E s m ow S Q G P
  refine Subscript_ (ha _ _ _ _ _ _ G fun v h1 t1 ow1 S1 le1 G1 ra => wpAny_Slice (wpAny_evalPart_none (wpAny_evalPart_some (hb _ _ _ _ _ _ G1 fun u h2 t2 ow2 S2 le2 G2 rb => wpAny_evalPart_none ?_))))
  have G3 := G2.pushO { cls := .type "slice", data := .fields #[.none, u, .none] }
  unfold uptoV at e
  split at e
  · rename_i xs i
    refine and2 (if_some e) fun hi e => ?_
    · obtain rfl := Option.some.inj e
      refine e24 ((ra.keeps le2).list_inv) fun a vs eq1 h3 h4 h5 => ?_; subst eq1
      refine e11 rb.int_inv fun t eq1 => ?_; subst eq1
      have hL := h3.keeps G3.1.stay
      refine tailL (s := { s with heap := h2.push _, toks := t2 }) (ops := [.ref h2.objs.size, .ref a]) hL.typeIs F.slot_list_getitem rfl (wpAny_getItem_list_slice (lo := none) (hi := some i) (st := none) hL.isList (Heap.IsSliceOf.new _ _ _ _) .none (.int _ _) .none (by simp) ?_ (by rw [List.size_toArray, h4.length, sizeLine_eq]; have := lenOk_le.mp h5; exact leE this rfl))
      refine e13 (G3.pushSeq (T := "list") (vs := vs.take i.toNat)) fun S4 le4 G4 hs => ?_
      have e1 : slicePick vs.toArray none (some i) none = (vs.take i.toNat).toArray := by
        have := slicePick_upto' vs.toArray i.toNat
        rw [show ((i.toNat : Nat) : Int) = i by omega] at this
        exact this
      rw [e1]
      exact P _ _ _ ow2 S4 (tr le1 (tr le2 le4)) G4 (.list hs ((h4.take _).keeps le4) (lenOk_of_le h5 (by simp; exact Nat.min_le_right _ _)))
  · rename_i xs i
    refine and2 (if_some e) fun hi e => ?_
    · obtain rfl := Option.some.inj e
      refine e24 ((ra.keeps le2).tuple_inv) fun a vs eq1 h3 h4 h5 => ?_; subst eq1
      refine e11 rb.int_inv fun t eq1 => ?_; subst eq1
      have hL := h3.keeps G3.1.stay
      have hi' : ((i.toNat : Nat) : Int) = i := by omega
      have hsl : (h2.push { cls := .type "slice", data := .fields #[.none, .int i t, .none] }).IsSliceOf h2.objs.size .none (.int (i.toNat : Nat) t) .none := by rw [hi']; exact Heap.IsSliceOf.new _ _ _ _
      refine tailL (s := { s with heap := h2.push _, toks := t2 }) (ops := [.ref h2.objs.size, .ref a]) hL.typeIs F.slot_tuple_getitem rfl (getItem_tuple_upto hL.isTup hsl (by rw [List.size_toArray, h4.length]; omega) ?_ (by rw [List.size_toArray, h4.length, sizeLine_eq]; have := lenOk_le.mp h5; exact leE this rfl))
      refine e13 (G3.pushSeq (T := "tuple") (vs := vs.take i.toNat)) fun S4 le4 G4 hs => ?_
      exact P _ _ _ ow2 S4 (tr le1 (tr le2 le4)) G4 (.tuple hs ((h4.take _).keeps le4) (lenOk_of_le h5 (by simp; exact Nat.min_le_right _ _)))
  · exact noS e
set_option tactic.hygienic true in
theorem r_from {a b : Expr} {sp pos : Pos} {x y d : PyData} (ha : EvE C a st x st1) (hb : EvE C b st1 y st2) (e : fromV x y = some d) : EvE C (.Subscript a (.Slice (some b) none none sp) pos) st d st2 := by
  intro E s m ow S Q G P
  refine Subscript_ (ha _ _ _ _ _ _ G fun v h1 t1 ow1 S1 le1 G1 ra => wpAny_Slice (wpAny_evalPart_some (hb _ _ _ _ _ _ G1 fun u h2 t2 ow2 S2 le2 G2 rb => wpAny_evalPart_none (wpAny_evalPart_none ?_))))
  have G3 := G2.pushO { cls := .type "slice", data := .fields #[u, .none, .none] }
  unfold fromV at e
  split at e
  · rename_i xs i
    refine and2 (if_some e) fun hi e => ?_
    · obtain rfl := Option.some.inj e
      refine e24 ((ra.keeps le2).list_inv) fun a vs eq1 h3 h4 h5 => ?_; subst eq1
      refine e11 rb.int_inv fun t eq1 => ?_; subst eq1
      have hL := h3.keeps G3.1.stay
      refine tailL (s := { s with heap := h2.push _, toks := t2 }) (ops := [.ref h2.objs.size, .ref a]) hL.typeIs F.slot_list_getitem rfl (wpAny_getItem_list_slice (lo := some i) (hi := none) (st := none) hL.isList (Heap.IsSliceOf.new _ _ _ _) (.int _ _) .none .none (by simp) ?_ (by rw [List.size_toArray, h4.length, sizeLine_eq]; have := lenOk_le.mp h5; exact leE this rfl))
      refine e13 (G3.pushSeq (T := "list") (vs := vs.drop i.toNat)) fun S4 le4 G4 hs => ?_
      have e1 : slicePick vs.toArray (some i) none none = (vs.drop i.toNat).toArray := by
        have := slicePick_from' vs.toArray i.toNat
        rw [show ((i.toNat : Nat) : Int) = i by omega] at this
        exact this
      rw [e1]
      exact P _ _ _ ow2 S4 (tr le1 (tr le2 le4)) G4 (.list hs ((h4.drop _).keeps le4) (lenOk_of_le h5 (by simp)))
  · rename_i xs i
    refine and2 (if_some e) fun hi e => ?_
    · obtain rfl := Option.some.inj e
      refine e24 ((ra.keeps le2).tuple_inv) fun a vs eq1 h3 h4 h5 => ?_; subst eq1
      refine e11 rb.int_inv fun t eq1 => ?_; subst eq1
      have hL := h3.keeps G3.1.stay
      have hi' : ((i.toNat : Nat) : Int) = i := by omega
      have hsl : (h2.push { cls := .type "slice", data := .fields #[.int i t, .none, .none] }).IsSliceOf h2.objs.size (.int (i.toNat : Nat) t) .none .none := by rw [hi']; exact Heap.IsSliceOf.new _ _ _ _
      refine tailL (s := { s with heap := h2.push _, toks := t2 }) (ops := [.ref h2.objs.size, .ref a]) hL.typeIs F.slot_tuple_getitem rfl (PyProof.Rows.getItem_tuple_from hL.isTup hsl (by exact nle (fk (c2 i i.toNat) [(1, .num 1, .var 0), (1, .var 0, .var 1), (1, .add (.var 1) (.num 1), .num 1)] rfl (hi.1) (Int.self_le_toNat i))) (by rw [List.size_toArray, h4.length]; omega) ?_ (by rw [List.size_toArray, h4.length, sizeLine_eq]; have := lenOk_le.mp h5; exact leE this rfl))
      refine e13 (G3.pushSeq (T := "tuple") (vs := vs.drop i.toNat)) fun S4 le4 G4 hs => ?_
      exact P _ _ _ ow2 S4 (tr le1 (tr le2 le4)) G4 (.tuple hs ((h4.drop _).keeps le4) (lenOk_of_le h5 (by simp)))
  · exact noS e
set_option tactic.hygienic true in
theorem r_rev {a : Expr} {k : Nat} {p1 p2 sp pos : Pos} {x d : PyData} (ha : EvE C a st x st1) (e : revV x = some d) : EvE C (.Subscript a (.Slice none none (some (.UnaryOp .USub (.Constant (.int 1) k p1) p2)) sp) pos) st d st1 := by
  intro E s m ow S Q G P
  refine Subscript_ (ha _ _ _ _ _ _ G fun v h1 t1 ow1 S1 le1 G1 ra => wpAny_Slice (wpAny_evalPart_none (wpAny_evalPart_none (wpAny_evalPart_some (UnaryOp_ (wpAny_Constant_int (neg_int ?_)))))))
  unfold revV at e
  split at e
  · obtain rfl := Option.some.inj e
    rename_i xs
    refine e24 ra.list_inv fun a vs eq1 h3 h4 h5 => ?_; subst eq1
    have G3 := G1.pushO { cls := .type "slice", data := .fields #[.none, .none, .int (-1) (t1 + 1)] }
    have hL := h3.keeps G3.1.stay
    refine tailL (s := { s with heap := h1.push _, toks := _ }) (ops := [.ref a, .ref h1.objs.size]) hL.typeIs F.slot_list_getitem rfl (wpAny_getItem_list_slice (lo := none) (hi := none) (st := some (-1)) hL.isList (Heap.IsSliceOf.new _ _ _ _) .none .none (.int _ _) (by simp) ?_ (by rw [List.size_toArray, h4.length, sizeLine_eq]; have := lenOk_le.mp h5; exact leE this rfl))
    refine e13 (G3.pushSeq (T := "list") (vs := vs.reverse)) fun S4 le4 G4 hs => ?_
    rw [krv_pick]
    exact P _ _ _ ow1 S4 (tr le1 le4) G4 (.list hs (h4.reverse.keeps le4) (lenOk_of_le h5 (by simp)))
  · exact noS e
end
noncomputable def CallOk (prog : Program) (w : World) (K : Frag) (n : Nat) (a : Addr) (ds : List PyData) (d : PyData) : Prop :=
  ∀ (A : Around) (E : Value → Shared → Prop) (s : Shared) (S : Heap) (Q : Value → Shared → Prop) (vs : List Value), A.handled = none → A.depth + n < recursionLimit → A.units + 8 * n + 256 < cLine → Gl K S → S.StaysIn s.heap → sysModules < s.heap.objs.size → RDs S vs ds →
    (∀ v h' tk S', S.StaysIn S' → S'.StaysIn h' → s.heap.StaysIn h' → (∀ b o o', s.heap.get? b = some o → S'.get? b = some o' → (S.get? b).isSome = true) → RD S' v d → Q v { s with heap := h', toks := tk }) → wpAny (model prog w) A (call (.ref a) vs) Q E s
noncomputable def CallsOk (prog : Program) (w : World) (K : Frag) (fa : FN → Addr) (n : Nat) (O : Or) : Prop := ∀ f ds d, O.call f ds = some d → CallOk prog w K n (fa f) ds d
noncomputable def boxO (vs : List Value) (n : Nat) : Obj := { cls := .type "list", data := .seq (List.toArray vs) n }
noncomputable def TakeOk (prog : Program) (w : World) (K : Frag) (n : Nat) (a : Addr) (O : Or) : Prop :=
  ∀ (xs xs' : List PyData) (y d : PyData), O.take xs y = some (d, xs') →
    ∀ (A : Around) (E : Value → Shared → Prop) (s : Shared) (S : Heap) (Q : Value → Shared → Prop) (b : Addr) (vs : List Value) (k : Nat) (u : Value), A.handled = none → A.depth + n < recursionLimit → A.units + 8 * n + 256 < cLine → Gl K S → S.StaysIn s.heap → sysModules < s.heap.objs.size →
      s.heap.get? b = some (boxO vs k) → S.get? b = none → RDs S vs xs → lenOk xs = true → RD S u y →
      (∀ v h' tk S' vs' k', S.StaysIn S' → S'.StaysIn h' → (∀ c o, c ≠ b → s.heap.get? c = some o → h'.get? c = some o) → (∀ c o o', s.heap.get? c = some o → S'.get? c = some o' → (S.get? c).isSome = true) → h'.get? b = some (boxO vs' k') → RDs S' vs' xs' → lenOk xs' = true → RD S' v d →
        Q v { s with heap := h', toks := tk }) → wpAny (model prog w) A (call (.ref a) [.ref b, u]) Q E s
section
variable {C : Cx} {st st1 st2 : St} {fa : FN → Addr} {gt : Str → Option GV}
theorem Good.adopt {m : Str → Option Value} {ow : Nat → Option (Addr × Obj)} {S h S' h' : Heap} (G : Good C m st ow S h) (le : S.StaysIn S') (st' : S'.StaysIn h') (k : h.StaysIn h') (no : ∀ b o o', h.get? b = some o → S'.get? b = some o' → (S.get? b).isSome = true) : Good C m st ow S' h' :=
  ⟨G.1.adopt le st' k no, G.2.keeps le⟩
theorem Good.big {m : Str → Option Value} {ow : Nat → Option (Addr × Obj)} {S h : Heap} (G : Good C m st ow S h) : sysModules < h.objs.size := Nat.lt_trans G.1.top (Heap.Ns.lt G.1.ns)
theorem r_call (O : C.Ok) (T : PK C.w C.K fa gt) {K : Or} {n : Nat} (hn : n ≤ C.n) (H : CallsOk C.prog C.w C.K fa n K) {x : Str} {p pos : Pos} {e : Expr} {r : List Expr} {f : FN} {ds : List PyData} {d : PyData} (hx : globOf gt C.env.scope.names x = some (.fn f)) (hs : starOk (e :: r) = true)
    (h : EvL C pos (e :: r) st ds st1) (hc : K.call f ds = some d) : EvE C (.Call (.Name x p) (e :: r) [] pos) st d st1 := by
  intro E s m ow S Q G P
  refine e14 (globOf_some hx) fun i h1 h2 h3 h4 => ?_
  refine and2 (T.fn x f h4) fun k1 k2 => ?_
  refine wpAny_Call_NameR (name_glob O G h1 h2 k1 ?_)
  refine e22 (k2 S ((O.gl.keeps G.1.base).inK)) fun o fd g1 g2 => ?_
  refine PySem.Calls.callWith_function (o := o) (fd := fd) (args_plain (star_cons hs).1 (h _ _ _ _ _ _ G fun vs h2 t2 ow2 S2 le2 G2 r2 => ?_))
  refine ⟨⟨(G2.1.stay _ _ (le2 _ _ g1)), g2⟩, ?_⟩
  have hd := O.dep
  have hu := O.unt
  exact H f ds d hc C.A E _ S2 Q vs O.hnd (by exact nlt (fk (c4 n C.n C.A.depth recursionLimit) [(1, .var 0, .var 1), (1, .add (.add (.var 2) (.var 1)) (.num 1), .var 3), (1, .var 3, .add (.var 2) (.var 0))] rfl (nl hn) (nt hd))) (by exact nlt (fk (c4 n C.n C.A.units cLine) [(8, .var 0, .var 1), (1, .add (.add (.add (.var 2) (.mulL 8 (.var 1))) (.num 256)) (.num 1), .var 3), (1, .var 3, .add (.add (.var 2) (.mulL 8 (.var 0))) (.num 256))] rfl (nl hn) (nt hu))) (O.gl.keeps G2.1.base) G2.1.stay G2.big r2 fun v h' tk S' le3 st3 k3 no3 rv => P v h' tk ow2 S' (tr le2 le3) (G2.adopt le3 st3 k3 no3) rv
set_option tactic.hygienic true in
theorem r_take (O : C.Ok) (T : PK C.w C.K fa gt) {K : Or} {n : Nat} (hn : n ≤ C.n) (H : TakeOk C.prog C.w C.K n (fa 492) K) {x y : Str} {p q pos : Pos} {e : Expr} {i : Nat} {z d : PyData} (hx : globOf gt C.env.scope.names x = some (.fn 492)) (N : NameOk C y i .local) (hs : starOk [.Name y q, e] = true)
    (h0 : (st.at i).isL = true) (h : EvE C e st z st1) (hc : takeK K i z st1 = some (d, st2)) : EvE C (.Call (.Name x p) [.Name y q, e] [] pos) st d st2 := by
  intro E s m ow S Q G P
  refine e14 (globOf_some hx) fun i' h1 h2 h3 h4 => ?_
  refine and2 (T.fn x _ h4) fun k1 k2 => ?_
  refine e11 (isL_ol h0) fun xs0 hz0 => ?_
  obtain ⟨a0, vs0, n0, hm0, ho0, hg0, -⟩ := G.ol N.pos hz0
  refine wpAny_Call_NameR (name_glob O G h1 h2 k1 ?_)
  refine e22 (k2 S ((O.gl.keeps G.1.base).inK)) fun o fd g1 g2 => ?_
  refine and2 (star_cons (env := C.env) hs) fun hs1 hs2 => ?_
  refine PySem.Calls.callWith_function (o := o) (fd := fd) (args_plain hs1 (spliced_more (name_any O G N hm0 (spliced_more (h _ _ _ _ _ _ G fun u h2 t2 ow2 S2 le2 G2 r2 => Calls.spliced_nil ?_) (star_cons hs2).1)) hs1))
  refine ⟨⟨(G2.1.stay _ _ (le2 _ _ g1)), g2⟩, ?_⟩
  have hd := O.dep
  have hu := O.unt
  unfold takeK at hc
  split at hc
  · rename_i xs hz
    split at hc
    · rename_i rr xs' ht
      cases hc
      obtain ⟨a1, vs, k, hm, ho, hg, hr, hl⟩ := G2.ol N.pos hz
      cases Option.some.inj (hm0.symm.trans hm)
      have hoff := (G2.1.own _ _ _ ho)
      refine H xs xs' z d ht C.A E _ S2 Q a0 vs k u O.hnd (by exact nlt (fk (c4 n C.n C.A.depth recursionLimit) [(1, .var 0, .var 1), (1, .add (.add (.var 2) (.var 1)) (.num 1), .var 3), (1, .var 3, .add (.var 2) (.var 0))] rfl (nl hn) (nt hd))) (by exact nlt (fk (c4 n C.n C.A.units cLine) [(8, .var 0, .var 1), (1, .add (.add (.add (.var 2) (.mulL 8 (.var 1))) (.num 256)) (.num 1), .var 3), (1, .var 3, .add (.add (.var 2) (.mulL 8 (.var 0))) (.num 256))] rfl (nl hn) (nt hu))) (O.gl.keeps G2.1.base) G2.1.stay G2.big hg hoff.2.2.1 hr hl r2 fun v h' tk S' vs' k' le3 st3 k3 no3 hb rv' hl' rv => ?_
      have off : ∀ {a : Addr} {o : Obj}, h2.get? a = some o → S2.get? a = none → S'.get? a = none := fun {a o} e1 e2 => by
        cases q : S'.get? a with
        | none => rfl
        | some x => have := no3 a o x e1 q; rw [e2] at this; exact fTr this
      obtain ⟨oL, es, ep, hL, hL2⟩ := id G2.1.ns
      have I : Inv C.h₀ C.env.locals m (fun j => if j = i then some (a0, boxO vs' k') else ow2 j) C.ex S' h' := by
        refine ⟨⟨oL, es, ep, k3 _ _ (Ne.symm hoff.2.1) hL, hL2⟩, tr G2.1.base le3, st3, off hL G2.1.offL, fun j b x q => ?_, fun j k b x y q r => ?_, fun b x q => ?_, G2.1.top⟩
        · by_cases hj : j = i
          · simp only [hj, if_true, Option.some.injEq, Prod.mk.injEq] at q
            refine and2 q fun eq1 eq2 => ?_; subst eq1; subst eq2
            exact ⟨hb, hoff.2.1, off hoff.1 hoff.2.2.1, hoff.2.2.2⟩
          · simp only [hj, if_false] at q
            have q' := G2.1.own j b x q
            have hne : b ≠ a0 := fun z => hj (G2.1.inj j i b x _ q (z ▸ ho))
            exact ⟨k3 b x hne q'.1, q'.2.1, off q'.1 q'.2.2.1, q'.2.2.2⟩
        · by_cases hj : j = i
          · by_cases hk : k = i
            · rw [hj, hk]
            · simp only [hj, hk, if_true, if_false, Option.some.injEq, Prod.mk.injEq] at q r
              refine and2 q fun eq1 eq2 => ?_; subst eq1; subst eq2
              exact absurd (G2.1.inj k i a0 y _ r ho) hk
          · by_cases hk : k = i
            · simp only [hj, hk, if_true, if_false, Option.some.injEq, Prod.mk.injEq] at q r
              refine and2 r fun eq1 eq2 => ?_; subst eq1; subst eq2
              exact absurd (G2.1.inj j i a0 x _ q ho) hj
            · simp only [hj, hk, if_false] at q r
              exact G2.1.inj j k b x y q r
        · have q' := G2.1.ext b x q
          have hne : b ≠ a0 := fun z => by rw [z, hoff.2.2.2] at q; exact noS q
          exact ⟨k3 b x hne q'.1, q'.2.1, off q'.1 q'.2.2⟩
      exact P v h' tk _ S' (tr le2 le3) (G2.put O (posOf_get N.pos).1 le3 I (fun j hj => by simp [hj]) ⟨a0, vs', k', rfl, hm, by simp [boxO], rv', hl'⟩) rv
    · exact noS hc
  · exact noS hc
end
structure Src (prog : Program) (w : World) (target : Expr) (tgt : Tgt) (ds : List PyData) (S₀ : Heap) (I : Addr) (fp wr : List Addr) (P Md : Nat → Value → Heap → Prop) (It : Nat → Heap → Prop) : Prop where
  turns : ∀ A : Around, A.handled = none → KTurns prog w A target I fp wr ds.length P Md It
  self : ∀ (A : Around) i (s : Shared) (Q : Value → Shared → Prop) (E : Value → Shared → Prop), It i s.heap → Q (.ref I) s → wpAny (model prog w) A (pyIter (.ref I)) Q E s
  live : ∀ i h, It i h → ∀ a ∈ wr, (h.get? a).isSome = true
  fps : ∀ b ∈ fp, b ∈ wr ∨ (S₀.get? b).isSome = true
  item : ∀ i v h S, i < ds.length → S₀.StaysIn S → P i v h → ∃ d, ds[i]? = some d ∧ ItemAt S h v tgt d
noncomputable def SrcP (C : Cx) (target : Expr) (tgt : Tgt) (iter : Expr) (st : St) (ds : List PyData) (st' : St) : Prop :=
  ∀ (E : Value → Shared → Prop) (s : Shared) (m : Str → Option Value) (ow : Nat → Option (Addr × Obj)) (S : Heap) (Q : Value → Shared → Prop),
    Good C m st ow S s.heap → (∀ I fp wr P Md It h' tk ow' S' ex, S.StaysIn S' → Src C.prog C.w target tgt ds S' I fp wr P Md It → Good (C.hold ex) m st' ow' S' h' → Over C.ex wr ex → It 0 h' → Q (.ref I) { s with heap := h', toks := tk }) →
    wpAny (model C.prog C.w) C.A (eval iter C.env) (fun x s₁ => wpAny (model C.prog C.w) C.A (pyIter x) Q E s₁) E s
noncomputable def isName : Expr → Bool
  | .Name .. => true
  | _ => false
theorem go_name {target : Expr} (h : isName target = true) (it v : Value) : letOwnedTupleGo target it v = pure () := by
  cases target <;> first | rfl | exact fTr h
section
variable {C : Cx} {st st1 st2 : St}
theorem Good.hold1 {m : Str → Option Value} {ow : Nat → Option (Addr × Obj)} {S h h' : Heap} (G : Good C m st ow S h) (k : h.StaysIn h') {a : Addr} {o : Obj} (hn : h.get? a = none) (e : h'.get? a = some o) :
    Good (C.hold (add C.ex (some (a, o)))) m st ow S h' ∧ Over C.ex [a] (add C.ex (some (a, o))) := by
  refine and2 (G.1.hold k hn e) fun I f => ?_
  refine ⟨⟨I, G.2⟩, fun b hb => ?_, fun b hb => ?_, fun b hb => ?_⟩
  · rw [List.mem_singleton.mp hb]; simp [add]
  · have : b ≠ a := fun z => hb (by simp [z])
    simp [add, this]
  · rw [List.mem_singleton.mp hb]; exact f
theorem Good.hold2 {m : Str → Option Value} {ow : Nat → Option (Addr × Obj)} {S h h' : Heap} (G : Good C m st ow S h) (k : h.StaysIn h') {a b : Addr} {o u : Obj} (hab : a ≠ b) (hn : h.get? a = none) (hm : h.get? b = none) (e : h'.get? a = some o) (g : h'.get? b = some u) :
    Good (C.hold (add (add C.ex (some (a, o))) (some (b, u)))) m st ow S h' ∧ Over C.ex [b, a] (add (add C.ex (some (a, o))) (some (b, u))) := by
  refine and2 (G.1.hold k hn e) fun I f => ?_
  have offb : ∀ {P : Prop}, (∀ x, h.get? b ≠ some x → P) → P := fun hp => hp default (by rw [hm]; simp)
  have hSb : S.get? b = none := by
    cases q : S.get? b with
    | none => rfl
    | some x => rw [G.1.stay _ _ q] at hm; exact sNo hm
  have hEb : C.ex b = none := by
    cases q : C.ex b with
    | none => rfl
    | some x => rw [(G.1.ext _ _ q).1] at hm; exact sNo hm
  have hLb : b ≠ C.env.locals := fun z => by
    obtain ⟨oL, _, _, hL, _⟩ := id G.1.ns
    rw [z, hL] at hm; exact sNo hm
  have hb2 : add C.ex (some (a, o)) b = none := by simp [add, Ne.symm hab, hEb]
  refine ⟨⟨⟨I.ns, I.base, I.stay, I.offL, fun j c x q => ?_, I.inj, fun c x q => ?_, I.top⟩, G.2⟩, fun c hc => ?_, fun c hc => ?_, fun c hc => ?_⟩
  · have q' := I.own j c x q
    have hcb : c ≠ b := fun z => by have := (G.1.own j c x q).1; rw [z, hm] at this; exact noS this
    exact ⟨q'.1, q'.2.1, q'.2.2.1, by simp only [Cx.hold, add, hcb, if_false]; exact q'.2.2.2⟩
  · by_cases hc : c = b
    · subst hc
      simp only [Cx.hold, add, if_true, Option.some.injEq] at q
      subst q
      exact ⟨g, hLb, hSb⟩
    · have : add C.ex (some (a, o)) c = some x := by
        simp only [Cx.hold, add, hc, if_false] at q ⊢
        exact q
      exact I.ext c x this
  · rcases List.mem_cons.mp hc with rfl | hc
    · simp [add]
    · rw [List.mem_singleton.mp hc]; simp [add, hab]
  · have h1 : c ≠ b := fun z => hc (by simp [z])
    have h2 : c ≠ a := fun z => hc (by simp [z])
    simp [add, h1, h2]
  · rcases List.mem_cons.mp hc with rfl | hc
    · exact hEb
    · rw [List.mem_singleton.mp hc]; exact f
theorem src_it (O : C.Ok) {target iter : Expr} {i : Nat} {d : PyData} {ds : List PyData} (ht : isName target = true) (h : EvE C iter st d st1) (e : itemsOf d = some ds) : SrcP C target (.one i) iter st ds st1 := by
  intro E s m ow S Q G P
  refine h _ _ _ _ _ _ G fun v h1 t1 ow1 S1 le1 G1 r1 => ?_
  unfold itemsOf at e
  split at e
  · cases e
    obtain ⟨a, vs, rfl, hs, hr, hl⟩ := r1.list_inv
    have hs' := hs.keeps G1.1.stay
    refine wpAny_pyIter_list hs'.isList ?_
    have hg : (h1.push { cls := .type "list_iterator", data := .fields #[.ref a, .int 0 0] }).get? h1.objs.size = some { cls := .type "list_iterator", data := .fields #[.ref a, .int 0 0] } := Heap.get?_push_size _ rfl
    obtain ⟨G2, ov⟩ := G1.hold1 (h' := h1.push { cls := .type "list_iterator", data := .fields #[.ref a, .int 0 0] }) (fun b x e => Heap.get?_push_of_some _ e) (fresh_size h1) hg
    obtain ⟨o, ho, hoc⟩ := id hs'
    obtain ⟨oS, hoS, -⟩ := id hs
    have hne : a ≠ h1.objs.size := Nat.ne_of_lt (Heap.lt_size ho)
    refine P h1.objs.size [h1.objs.size, a] [h1.objs.size] (fun i v _ => vs.toArray[i]? = some v) (fun i v h => vs.toArray[i]? = some v ∧ h.IsListIter h1.objs.size a (i + 1) ∧ h.IsList a vs.toArray) (fun i h => h.IsListIter h1.objs.size a i ∧ h.IsList a vs.toArray) _ t1 ow1 S1 _ le1 ⟨fun A hh => ?_, fun A i s Q E st q => wpAny_pyIter_listiter st.1 q, fun i h st b hb => ?_, fun b hb => ?_, fun i v h S' hi le hP => ?_⟩ G2 ov ⟨⟨_, hg, rfl, rfl⟩, o, Heap.get?_push_of_some _ ho, hoc⟩
    · have W := Walks.list (prog := C.prog) (w := C.w) (A := A) hh h1.objs.size a hne vs.toArray
      rw [show vs.toArray.size = ds.length by rw [List.size_toArray, hr.length]] at W
      exact KTurns.ofWalks W fun i v s Q E st q => by rw [go_name ht]; exact wpAny_pure q
    · rw [List.mem_singleton.mp hb]; obtain ⟨⟨o, ho, _⟩, _⟩ := st; rw [ho]; rfl
    · rcases List.mem_cons.mp hb with rfl | hb
      · exact .inl (by simp)
      · rw [List.mem_singleton.mp hb]; exact .inr (by rw [hoS]; rfl)
    · refine e12 (hr.get (List.getElem?_eq_getElem hi)) fun v' h3 h4 => ?_
      have : vs[i]? = some v := by simpa using hP
      rw [this] at h3
      obtain rfl := Option.some.inj h3
      exact ⟨_, List.getElem?_eq_getElem hi, h4.keeps le⟩
  · cases e
    obtain ⟨a, vs, rfl, hs, hr, hl⟩ := r1.tuple_inv
    have hs' := hs.keeps G1.1.stay
    obtain ⟨o, ho, hoc⟩ := id hs'
    have hT : h1.IsTuple a vs.toArray := ⟨o, ho, hoc⟩
    refine wpAny_pyIter_tuple hT ?_
    have hg : (h1.push { cls := .type "tuple_iterator", data := .fields #[.ref a, .int 0 0] }).get? h1.objs.size = some { cls := .type "tuple_iterator", data := .fields #[.ref a, .int 0 0] } := Heap.get?_push_size _ rfl
    obtain ⟨G2, ov⟩ := G1.hold1 (h' := h1.push { cls := .type "tuple_iterator", data := .fields #[.ref a, .int 0 0] }) (fun b x e => Heap.get?_push_of_some _ e) (fresh_size h1) hg
    obtain ⟨oS, hoS, -⟩ := id hs
    have hne : a ≠ h1.objs.size := Nat.ne_of_lt (Heap.lt_size ho)
    refine P h1.objs.size [h1.objs.size, a] [h1.objs.size] (fun i v _ => vs.toArray[i]? = some v) (fun i v h => vs.toArray[i]? = some v ∧ h.IsTupleIter h1.objs.size a (i + 1) ∧ h.IsTuple a vs.toArray) (fun i h => h.IsTupleIter h1.objs.size a i ∧ h.IsTuple a vs.toArray) _ t1 ow1 S1 _ le1 ⟨fun A hh => ?_, fun A i s Q E st q => wpAny_pyIter_tupleiter st.1 q, fun i h st b hb => ?_, fun b hb => ?_, fun i v h S' hi le hP => ?_⟩ G2 ov ⟨⟨_, hg, rfl, rfl⟩, o, Heap.get?_push_of_some _ ho, hoc⟩
    · have W := Walks.tuple (prog := C.prog) (w := C.w) (A := A) hh h1.objs.size a hne vs.toArray
      rw [show vs.toArray.size = ds.length by rw [List.size_toArray, hr.length]] at W
      exact KTurns.ofWalks W fun i v s Q E st q => by rw [go_name ht]; exact wpAny_pure q
    · rw [List.mem_singleton.mp hb]; obtain ⟨⟨o, ho, _⟩, _⟩ := st; rw [ho]; rfl
    · rcases List.mem_cons.mp hb with rfl | hb
      · exact .inl (by simp)
      · rw [List.mem_singleton.mp hb]; exact .inr (by rw [hoS]; rfl)
    · refine e12 (hr.get (List.getElem?_eq_getElem hi)) fun v' h3 h4 => ?_
      have : vs[i]? = some v := by simpa using hP
      rw [this] at h3
      obtain rfl := Option.some.inj h3
      exact ⟨_, List.getElem?_eq_getElem hi, h4.keeps le⟩
  · exact noS e
end
theorem srcV_r1 {ds ds' : List PyData} (h : srcV .range1 ds = some ds') : ∃ b : Int, ds = [.int b] ∧ -1048576 ≤ b ∧ b ≤ 1048576 ∧ ds' = rangeD 0 b.toNat := by
  refine e12 (oneL_some h) fun a eq1 h => ?_; subst eq1
  cases a with
  | int b =>
    refine and2 (if_some h) fun hb h => ?_
    exact ⟨_, rfl, hb.1, hb.2, (Option.some.inj h).symm⟩
  | _ => exact noS h
theorem srcV_r2 {ds ds' : List PyData} (h : srcV .range2 ds = some ds') : ∃ a b : Int, ds = [.int a, .int b] ∧ 0 ≤ a ∧ a ≤ 1048576 ∧ -1048576 ≤ b ∧ b ≤ 1048576 ∧ ds' = rangeD a (b - a).toNat := by
  refine e22 (twoL_some h) fun x y eq1 h => ?_; subst eq1
  refine two_elim (M := fun x y t => rng2 t = some ds' → ∃ a b : Int, [x, y] = [.int a, .int b] ∧ 0 ≤ a ∧ a ≤ 1048576 ∧ -1048576 ≤ b ∧ b ≤ 1048576 ∧ ds' = rangeD a (b - a).toNat) (fun a b h => ?_) (fun _ _ h => noS h) (fun _ _ h => noS h) (fun _ _ h => noS h) (fun _ _ h => noS h) x y h
  refine and2 (if_some h) fun hb h => ?_
  exact ⟨_, _, rfl, hb.1, hb.2.1, hb.2.2.1, hb.2.2.2, (Option.some.inj h).symm⟩
theorem srcV_en {ds ds' : List PyData} (h : srcV .enum ds = some ds') : ∃ xs, ds = [.tuple xs] ∧ ds' = enumD 0 xs := by
  refine e12 (oneL_some h) fun a eq1 h => ?_; subst eq1
  cases a with
  | tuple xs => exact ⟨_, rfl, (Option.some.inj h).symm⟩
  | _ => exact noS h
theorem srcV_it {ds ds' : List PyData} (h : srcV .it ds = some ds') : ∃ d, ds = [d] ∧ itemsOf d = some ds' := oneL_some h
theorem rangeD_len : ∀ (n : Nat) (a : Int), (rangeD a n).length = n
  | 0, _ => rfl
  | n + 1, a => by simp [rangeD, rangeD_len n]
theorem rangeD_get : ∀ (n : Nat) (a : Int) (i : Nat), i < n → (rangeD a n)[i]? = some (.int (a + i))
  | 0, _, _, h => absurd h (Nat.not_lt_zero _)
  | n + 1, a, 0, _ => by simp [rangeD]
  | n + 1, a, i + 1, h => by
    simp only [rangeD, List.getElem?_cons_succ]
    rw [rangeD_get n (a + 1) i (by exact Nat.le_of_lt_succ h)]
    congr 2
    push_cast
    exact Int.le_antisymm (ile (fk (c2 a i) [(1, .add (.add (.var 0) (.add (.var 1) (.num 1))) (.num 1), .add (.add (.var 0) (.num 1)) (.var 1))] rfl )) (ile (fk (c2 a i) [(1, .add (.add (.add (.var 0) (.num 1)) (.var 1)) (.num 1), .add (.var 0) (.add (.var 1) (.num 1)))] rfl ))
theorem enumD_len : ∀ (ds : List PyData) (n : Nat), (enumD n ds).length = ds.length
  | [], _ => rfl
  | d :: r, n => by simp [enumD, enumD_len r]
theorem enumD_get : ∀ (ds : List PyData) (n i : Nat) (d : PyData), ds[i]? = some d → (enumD n ds)[i]? = some (.tuple [.int ((n + i : Nat) : Int), d])
  | [], _, i, d, h => by simp at h
  | x :: r, n, 0, d, h => by simp at h; subst h; simp [enumD]
  | x :: r, n, i + 1, d, h => by
    simp only [enumD, List.getElem?_cons_succ] at h ⊢
    rw [enumD_get r (n + 1) i d h]
    congr 4
    exact Int.le_antisymm (ile (fk (c2 n i) [(1, .add (.add (.var 0) (.add (.var 1) (.num 1))) (.num 1), .add (.add (.var 0) (.num 1)) (.var 1))] rfl )) (ile (fk (c2 n i) [(1, .add (.add (.add (.var 0) (.num 1)) (.var 1)) (.num 1), .add (.var 0) (.add (.var 1) (.num 1)))] rfl ))
section
variable {C : Cx} {st st1 st2 : St} {fa : FN → Addr} {gt : Str → Option GV}
theorem size_of {a b : Int} : Builtin.Range.rangeSize a b 1 = ((b - a).toNat : Nat) := by
  unfold Builtin.Range.rangeSize
  rw [if_pos (by decide)]
  by_cases h : a < b
  · rw [if_pos h, Int.ediv_one, Int.sub_add_cancel, Int.toNat_of_nonneg (Int.le_of_lt (Int.sub_pos_of_lt h))]
  · rw [if_neg h, Int.toNat_eq_zero.mpr (Int.sub_nonpos_of_le (Int.not_lt.mp h))]; rfl
theorem fits_of {a : Int} (h : -2097152 ≤ a) (k : a ≤ 2097152) : Builtin.Range.rangeFitsLong a = true := by
  unfold Builtin.Range.rangeFitsLong
  simp only [Bool.and_eq_true, decide_eq_true_eq]
  exact ⟨ile (fk (c1 a) [(1, .neg (.num 2097152), .var 0), (1, .add (.var 0) (.num 1), .neg (.num 9223372036854775808))] rfl (h)), ilt (fk (c1 a) [(1, .var 0, .num 2097152), (1, .num 9223372036854775808, .var 0)] rfl (k))⟩
theorem small_of {a b : Int} (h1 : 0 ≤ a) (h3 : a ≤ 1048576) (h4 : -1048576 ≤ b) (h2 : b ≤ 1048576) : Builtin.Range.small a b 1 = true := by
  unfold Builtin.Range.small
  rw [size_of]
  rw [fits_of (a := a) (by exact ile (fk (c1 a) [(1, .num 0, .var 0), (1, .add (.var 0) (.num 1), .neg (.num 2097152))] rfl (h1))) (by exact ile (fk (c1 a) [(1, .var 0, .num 1048576), (1, .add (.num 2097152) (.num 1), .var 0)] rfl (h3))), fits_of (a := b) (by exact ile (fk (c1 b) [(1, .neg (.num 1048576), .var 0), (1, .add (.var 0) (.num 1), .neg (.num 2097152))] rfl (h4))) (by exact ile (fk (c1 b) [(1, .var 0, .num 1048576), (1, .add (.num 2097152) (.num 1), .var 0)] rfl (h2))), fits_of (a := 1) (by exact Int.natCast_nonneg _) (by exact Int.natCast_nonneg _), fits_of (a := (((b - a).toNat : Nat) : Int)) (by exact Int.natCast_nonneg _) (by omega)]
  simp only [Bool.and_self, Bool.true_and, Bool.or_eq_true]
  right
  rw [if_pos (by decide)]
  exact fits_of (by exact ile (fk (c1 b) [(1, .neg (.num 1048576), .var 0), (1, .add (.add (.var 0) (.sub (.num 1) (.num 1))) (.num 1), .neg (.num 2097152))] rfl (h4))) (by exact ile (fk (c1 b) [(1, .var 0, .num 1048576), (1, .add (.num 2097152) (.num 1), .add (.var 0) (.sub (.num 1) (.num 1)))] rfl (h2)))
theorem range_src {prog : Program} {w : World} {target : Expr} {j n : Nat} {a : Int} {S : Heap} {I : Addr} (ht : isName target = true) :
    Src prog w target (.one j) (rangeD a n) S I [I] [I] (fun i v _ => ∃ t, v = .int (a + (i : Int) * 1) t) (fun i v h => (∃ t, v = .int (a + (i : Int) * 1) t) ∧ IsRangeIter h I (a + ((i + 1 : Nat) : Int) * 1) ((n : Int) - ((i + 1 : Nat) : Int)) 1) (fun i h => IsRangeIter h I (a + (i : Nat) * 1) ((n : Int) - (i : Nat)) 1) where
  turns := fun A hh => by
    rw [rangeD_len]
    exact KTurns.ofWalks (Walks.range hh I a 1 n) fun i v s Q E st q => by rw [go_name ht]; exact wpAny_pure q
  self := fun A i s Q E st q => wpAny_pyIter_rangeiter st q
  live := fun i h st b hb => by
    rw [List.mem_singleton.mp hb]
    have st' : h.get? I = some _ := st
    rw [st']; rfl
  fps := fun b hb => .inl hb
  item := fun i v h S' hi le hP => by
    rw [rangeD_len] at hi
    refine e11 hP fun t eq1 => ?_; subst eq1
    exact ⟨_, rangeD_get n a i hi, by rw [Int.mul_one]; exact .int _ _⟩
theorem range_end {target : Expr} {j : Nat} {a b : Int} {ta tb tc : Tok} {s : Shared} {m : Str → Option Value} {ow : Nat → Option (Addr × Obj)} {S h2 : Heap} {t2 : Nat} {E : Value → Shared → Prop} {Q : Value → Shared → Prop} (ht : isName target = true) (G : Good C m st ow S h2)
    (hsm : Builtin.Range.small a b 1 = true) (P : ∀ I fp wr P Md It h' tk ow' S' ex, S.StaysIn S' → Src C.prog C.w target (.one j) (rangeD a (b - a).toNat) S' I fp wr P Md It → Good (C.hold ex) m st ow' S' h' → Over C.ex wr ex → It 0 h' → Q (.ref I) { s with heap := h', toks := tk }) :
    wpAny (model C.prog C.w) C.A (pyIter (.ref h2.objs.size)) Q E { s with heap := h2.push { cls := .type "range", data := .fields #[.int a ta, .int b tb, .int 1 tc] }, toks := t2 } := by
  have G2 := G.pushO { cls := .type "range", data := .fields #[.int a ta, .int b tb, .int 1 tc] }
  generalize hh3 : h2.push { cls := .type "range", data := .fields #[.int a ta, .int b tb, .int 1 tc] } = h3 at G2
  have hr : IsRange h3 h2.objs.size a b 1 ta tb tc := by rw [← hh3]; exact Heap.get?_push_size _ rfl
  refine wpAny_pyIter_range hr hsm ?_
  have hg : (h3.push { cls := .type "range_iterator", data := .fields #[rawInt a, rawInt (Builtin.Range.rangeSize a b 1), rawInt 1] }).get? h3.objs.size = some { cls := .type "range_iterator", data := .fields #[rawInt a, rawInt (Builtin.Range.rangeSize a b 1), rawInt 1] } := Heap.get?_push_size _ rfl
  refine and2 (G2.hold1 (h' := h3.push { cls := .type "range_iterator", data := .fields #[rawInt a, rawInt (Builtin.Range.rangeSize a b 1), rawInt 1] }) (fun b x e => Heap.get?_push_of_some _ e) (fresh_size h3) hg) fun G3 ov => ?_
  refine P h3.objs.size _ _ _ _ _ _ t2 ow S _ (StaysIn.refl S) (range_src ht) G3 ov ?_
  unfold IsRangeIter
  rw [hg, size_of]
  congr 3
  simp
theorem src_range1 (O : C.Ok) (T : PK C.w C.K fa gt) {target e : Expr} {x : Str} {p pos : Pos} {j : Nat} {ds ds' : List PyData} (ht : isName target = true) (hx : globOf gt C.env.scope.names x = some (.bf .range)) (hs : starOk [e] = true)
    (h : EvL C pos [e] st ds st1) (hv : srcV .range1 ds = some ds') : SrcP C target (.one j) (.Call (.Name x p) [e] [] pos) st ds' st1 := by
  intro E s m ow S Q G P
  refine e14 (globOf_some hx) fun i h1 h2 h3 h4 => ?_
  refine and2 (T.bf x _ h4) fun k1 k2 => ?_
  refine wpAny_Call_NameR (name_built O G h1 h2 (by simpa using h3) k1 k2 (callV .range hs (h _ _ _ _ _ _ G fun vs h2 t2 ow2 S2 le2 G2 r2 => ?_)))
  refine e14 (srcV_r1 hv) fun b eq1 hb1 hb2 eq2 => ?_; subst eq1; subst eq2
  refine e12 (RDs.one_inv r2) fun v0 eq0 rb => ?_; subst eq0
  refine e11 rb.int_inv fun t eq1 => ?_; subst eq1
  refine call_range_1 (range_end (j := j) (s := s) ht G2 (small_of (by exact Int.natCast_nonneg _) (by exact Int.natCast_nonneg _) hb1 hb2) fun I fp wr P' Md It h' tk ow' S' ex le sr g ov st0 => P I fp wr P' Md It h' tk ow' S' ex (tr le2 le) ?_ g ov st0)
  rw [Int.sub_zero] at sr
  exact sr
theorem src_range2 (O : C.Ok) (T : PK C.w C.K fa gt) {target e f : Expr} {x : Str} {p pos : Pos} {j : Nat} {ds ds' : List PyData} (ht : isName target = true) (hx : globOf gt C.env.scope.names x = some (.bf .range)) (hs : starOk [e, f] = true)
    (h : EvL C pos [e, f] st ds st1) (hv : srcV .range2 ds = some ds') : SrcP C target (.one j) (.Call (.Name x p) [e, f] [] pos) st ds' st1 := by
  intro E s m ow S Q G P
  refine e14 (globOf_some hx) fun i h1 h2 h3 h4 => ?_
  refine and2 (T.bf x _ h4) fun k1 k2 => ?_
  refine wpAny_Call_NameR (name_built O G h1 h2 (by simpa using h3) k1 k2 (callV .range hs (h _ _ _ _ _ _ G fun vs h2 t2 ow2 S2 le2 G2 r2 => ?_)))
  obtain ⟨a, b, rfl, hb1, hb2, hb3, hb4, rfl⟩ := srcV_r2 hv
  refine e23 (RDs.two_inv r2) fun v0 v1 eq0 ra rb => ?_; subst eq0
  refine e11 ra.int_inv fun t eq1 => ?_; subst eq1; refine e11 rb.int_inv fun u eq1 => ?_; subst eq1
  exact call_range_2 (range_end (j := j) (s := s) ht G2 (small_of hb1 hb2 hb3 hb4) fun I fp wr P' Md It h' tk ow' S' ex le sr g ov st0 => P I fp wr P' Md It h' tk ow' S' ex (tr le2 le) sr g ov st0)
noncomputable def isPair : Expr → Bool
  | .Tuple .. => true
  | _ => false
theorem isPair_elim {M : Expr → Prop} (k : ∀ es kk tp, M (.Tuple es kk tp)) {e : Expr} (h : isPair e = true) : M e := by
  cases e with
  | Tuple es kk tp => exact k es kk tp
  | _ => exact fTr h
theorem isPair_some {e : Expr} (h : isPair e = true) : ∃ elts kk tp, e = .Tuple elts kk tp := isPair_elim (M := fun e => ∃ elts kk tp, e = .Tuple elts kk tp) (fun _ _ _ => ⟨_, _, _, rfl⟩) h
theorem enum_src {prog : Program} {w : World} {elts : List Expr} {k j l : Nat} {tp : Pos} {S : Heap} {e it t : Addr} {ws : List Value} {xs : List PyData} (h1 : t ≠ it) (h2 : t ≠ e) (h3 : it ≠ e) (hS : (S.get? t).isSome = true) (hr : RDs S ws xs) :
    Src prog w (.Tuple elts k tp) (.two j l) (enumD 0 xs) S e (e :: [it, t]) [e, it] (fun i v h => ∃ T vals, v = .ref T ∧ (∃ u x, ws.toArray[i]? = some x ∧ vals = #[.int i u, x]) ∧ h.IsTuple T vals)
      (fun i v h => ∃ T vals, v = .ref T ∧ (∃ u x, ws.toArray[i]? = some x ∧ vals = #[.int i u, x]) ∧ h.IsTuple T vals ∧ (∃ x, IsEnumOut h e it ((i : Int) + 1) x T) ∧ (h.IsTupleIter it t (i + 1) ∧ h.IsTuple t ws.toArray) ∧ T ≠ e ∧ T ≠ it)
      (fun i h => (∃ old, IsEnum h e it i old) ∧ h.IsTupleIter it t i ∧ h.IsTuple t ws.toArray) where
  turns := fun A hh => by
    have W := (WalksT.enumerateD (drawsTup (prog := prog) (w := w) (A := A.in1) hh it t h1 ws.toArray) e (Ne.symm h3) (by simp; exact ⟨Ne.symm h3, Ne.symm h2⟩) (by simp)).toU
    rw [show ws.toArray.size = (enumD 0 xs).length by rw [enumD_len, List.size_toArray, hr.length]] at W
    exact KTurns.ofWalksU W
  self := fun A i s Q E st q => by obtain ⟨⟨old, he⟩, _⟩ := st; exact wpAny_pyIter_enum he q
  live := fun i h st b hb => by
    obtain ⟨⟨old, he⟩, ⟨o, ho, _⟩, _⟩ := st
    rcases List.mem_cons.mp hb with rfl | hb
    · have he' : h.get? b = some _ := he
      rw [he']; rfl
    · rw [List.mem_singleton.mp hb, ho]; rfl
  fps := fun b hb => by
    rcases List.mem_cons.mp hb with rfl | hb
    · exact .inl (by simp)
    · rcases List.mem_cons.mp hb with rfl | hb
      · exact .inl (by simp)
      · rw [List.mem_singleton.mp hb]; exact .inr hS
  item := fun i v h S' hi le hP => by
    obtain ⟨T, vals, rfl, ⟨u, x, hx, rfl⟩, hT⟩ := hP
    rw [enumD_len] at hi
    refine e12 (hr.get (List.getElem?_eq_getElem hi)) fun v' h4 h5 => ?_
    have hx' : ws[i]? = some x := by simpa using hx
    rw [hx'] at h4
    obtain rfl := Option.some.inj h4
    refine ⟨_, enumD_get xs 0 i _ (List.getElem?_eq_getElem hi), T, _, _, _, _, rfl, rfl, hT, ?_, h5.keeps le⟩
    rw [Nat.zero_add]
    exact .int _ _
theorem src_enum (O : C.Ok) (T : PK C.w C.K fa gt) {target e : Expr} {x : Str} {p pos : Pos} {j k : Nat} {ds ds' : List PyData} (ht : isPair target = true) (hx : globOf gt C.env.scope.names x = some (.bf .enumerate)) (hs : starOk [e] = true)
    (h : EvL C pos [e] st ds st1) (hv : srcV .enum ds = some ds') : SrcP C target (.two j k) (.Call (.Name x p) [e] [] pos) st ds' st1 := by
  intro E s m ow S Q G P
  refine e14 (globOf_some hx) fun i h1 h2 h3 h4 => ?_
  refine and2 (T.bf x _ h4) fun k1 k2 => ?_
  refine wpAny_Call_NameR (name_built O G h1 h2 (by simpa using h3) k1 k2 (callV .enumerate hs (h _ _ _ _ _ _ G fun vs h2 t2 ow2 S2 le2 G2 r2 => ?_)))
  refine e12 (srcV_en hv) fun xs eq1 eq2 => ?_; subst eq1; subst eq2
  refine e12 (RDs.one_inv r2) fun v0 eq0 rb => ?_; subst eq0
  refine e24 rb.tuple_inv fun a ws eq1 hs2 hr hl => ?_; subst eq1
  obtain ⟨o, ho, hoc⟩ := hs2.keeps G2.1.stay
  obtain ⟨oS, hoS, -⟩ := id hs2
  refine call_enum_tup (s := { s with heap := h2, toks := t2 }) (items := ws.toArray) ⟨o, ho, hoc⟩ fun h' hE hI hz hk => ?_
  refine wpAny_pyIter_enum hE ?_
  have hne : a ≠ h2.objs.size := Nat.ne_of_lt (Heap.lt_size ho)
  have hne1 : a ≠ h2.objs.size + 1 := Nat.ne_of_lt (Nat.lt_succ_of_lt (Heap.lt_size ho))
  have hz1 : h2.objs.size ≠ h2.objs.size + 1 := Nat.ne_of_lt (Nat.lt_succ_self _)
  obtain ⟨oi, hoi, hoi2⟩ := id hI
  have hn1 : h2.get? (h2.objs.size + 1) = none := by
    cases q : h2.get? (h2.objs.size + 1) with
    | none => rfl
    | some x => exact absurd (Heap.lt_size q) (Nat.not_lt.mpr (Nat.le_succ _))
  refine and2 (G2.hold2 (h' := h') hk (a := h2.objs.size) (b := h2.objs.size + 1) hz1 (fresh_size h2) hn1 hoi hE) fun G3 ov => ?_
  refine e31 (isPair_some ht) fun elts kk tp eq0 => ?_; subst eq0
  exact P _ _ _ _ _ _ h' t2 ow2 S2 _ le2 (enum_src (elts := elts) (k := kk) (tp := tp) (j := j) (l := k) hne hne1 hz1 (by rw [hoS]; rfl) hr) G3 ov ⟨⟨_, hE⟩, hI, o, hk _ _ ho, hoc⟩
end
theorem Ents.at {P : Params} {S : Heap} {es : List DictEntry} {kvs : List (PyData × PyData)} (r : Ents P S es kvs) : es.length = kvs.length ∧ ∀ i (h : i < kvs.length), ∃ x, es[i]? = some x ∧ RD S x.key kvs[i].1 ∧ RD S x.val kvs[i].2 := by
  induction r with
  | nil => exact ⟨rfl, fun i h => absurd h (Nat.not_lt_zero _)⟩
  | cons h1 h2 h3 _ ih =>
    refine ⟨by simp [ih.1], fun i h => ?_⟩
    cases i with
    | zero => exact ⟨_, rfl, h1, h3⟩
    | succ i => exact ih.2 i (by simpa using h)
theorem items_src {prog : Program} {w : World} {elts : List Expr} {k j l ep : Nat} {tp : Pos} {S : Heap} {I d : Addr} {es : List DictEntry} {kvs : List (PyData × PyData)} (h1 : d ≠ I) (hS : (S.get? d).isSome = true) (hr : Ents w.params S es kvs) :
    Src prog w (.Tuple elts k tp) (.two j l) (kvs.map fun p => .tuple [p.1, p.2]) S I [I, d] [I] (fun i v h => ∃ T x, es[i]? = some x ∧ v = .ref T ∧ IsTup h T #[x.key, x.val])
      (fun i v h => ∃ T x, es[i]? = some x ∧ v = .ref T ∧ h.get? T = some { cls := .type "tuple", data := .seq #[x.key, x.val] } ∧ IsItemIterOut h I d (i + 1) es.toArray.size ep x.key x.val T ∧ RawD h d es.toArray ep ∧ T ≠ I)
      (fun i h => (∃ ok ov, IsItemIter h I d i es.toArray.size ep ok ov) ∧ RawD h d es.toArray ep) where
  turns := fun A hh => by
    have hlen : (kvs.map fun p => PyData.tuple [p.1, p.2]).length = es.toArray.size := by rw [List.length_map, List.size_toArray, hr.at.1]
    rw [hlen]
    exact {
      sub := fun b hb => by rw [List.mem_singleton.mp hb]; simp
      frame := fun i h h' st hk => by
        obtain ⟨⟨ok, ov, hi⟩, o, ho, hD⟩ := st
        exact ⟨⟨ok, ov, hk I (by simp) _ hi⟩, o, hk d (by simp) o ho, hD⟩
      item := fun i s Q E hi st hQ => by
        obtain ⟨⟨ok, ov, hit⟩, hD⟩ := st
        have hx : es.toArray[i]? = some es.toArray[i] := Array.getElem?_eq_getElem hi
        refine next_items_raw hit hD hx fun h' ho hT hz hk => ?_
        have hI : I < s.heap.objs.size := Heap.lt_size hit
        obtain ⟨o, hd, hE⟩ := hD
        exact hQ _ h' s.toks ⟨_, es.toArray[i], by simp, rfl, hT, ho, ⟨o, hk d o h1 hd, hE⟩, Nat.ne_of_gt hI⟩ fun b o hb e => hk b o (fun z => hb (by simp [z])) e
      go := fun i v s Q E hm hQ => by
        obtain ⟨T, x, hx, rfl, hT, ho, ⟨o, hd, hE⟩, hne⟩ := hm
        refine wpAny_letOwnedTupleGo_items ho fun h' he' hs' => ?_
        exact hQ h' ⟨T, x, hx, rfl, ⟨_, (hs'.2 T hne).trans hT, rfl, 0, rfl⟩⟩ ⟨⟨_, _, he'⟩, o, (hs'.2 d h1).trans hd, hE⟩ fun b o hb e => (hs'.2 b fun z => hb (by simp [z])).trans e
      done := fun s Q E st hQ => by
        obtain ⟨⟨ok, ov, hit⟩, hD⟩ := st
        exact next_items_end hh hit hD (Nat.le_refl _) fun h' hx => hQ h' s.toks fun b o hb e => hx b o (fun z => hb (by simp [z])) e }
  self := fun A i s Q E st q => by
    obtain ⟨⟨ok, ov, hit⟩, hD⟩ := st
    exact kcp_self hit q
  live := fun i h st b hb => by
    obtain ⟨⟨ok, ov, hi⟩, _⟩ := st
    rw [List.mem_singleton.mp hb]
    have he' : h.get? I = some _ := hi
    rw [he']; rfl
  fps := fun b hb => by
    rcases List.mem_cons.mp hb with rfl | hb
    · exact .inl (by simp)
    · rw [List.mem_singleton.mp hb]; exact .inr hS
  item := fun i v h S' hi le hP => by
    refine e23 hP fun T x hx eq1 hT => ?_; subst eq1
    rw [List.length_map] at hi
    refine e13 (hr.at.2 i hi) fun y h4 h5 h6 => ?_
    rw [hx] at h4
    obtain rfl := Option.some.inj h4
    exact ⟨_, by rw [List.getElem?_map, List.getElem?_eq_getElem hi]; rfl, T, _, _, _, _, rfl, rfl, hT, h5.keeps le, h6.keeps le⟩
section
variable {C : Cx} {st st1 st2 : St} {fa : FN → Addr} {gt : Str → Option GV}
set_option tactic.hygienic true in
theorem src_items (O : C.Ok) {target : Expr} {x : Str} {p ap pos : Pos} {i j k : Nat} {ds : List PyData} (N : NameOk C x i .local) (ht : isPair target = true) (hp : (ap.endLine == pos.line) = true) (e : itemsK i st = some (ds, st1)) :
    SrcP C target (.two j k) (.Call (.Attribute (.Name x p) "items" ap) [] [] pos) st ds st1 := by
  intro E s m ow S Q G P
  unfold itemsK at e
  split at e
  · rename_i kvs hz
    obtain ⟨rfl, rfl⟩ := some2 e
    have sl := G.slot (posOf_get N.pos).1
    rw [hz] at sl
    obtain ⟨a, o, es, n, _, hm, ho, hE, hd, hes, hnd, hle, hsm⟩ := sl
    have hg := (G.1.own _ _ _ ho).1
    have hlt := Heap.lt_size hg
    refine meth_form hp (by rfl) (by simp) (name_any O G N hm (getMethod_D hg hE F.slot_dict_items F.type_dict_items ?_))
    refine method_meetsIn F.slot_dict_items F.entry_dict_items rfl (PySem.evalArgs_none ?_)
    have hD : RawD s.heap a es.toArray n := ⟨o, hg, hE, hd⟩
    refine ⟨rfl, hD.typeIs, F.args_dict_items_1 _, _, meets_items_raw C.prog C.w (by simpa using hsm), ⟨_, _, hD⟩, ?_⟩
    refine e13 (G.1.freeze ho) fun S1 le1 I1 hS1 => ?_
    have G1 : Good C m (st.put i .un) (fun j => if j = i then none else ow j) S1 s.heap := G.put O (posOf_get N.pos).1 le1 I1 (fun j hj => by simp [hj]) trivial
    have G2 := G1.pushO { cls := .type "dict_items", data := .fields #[.ref a] }
    generalize hh2 : s.heap.push { cls := .type "dict_items", data := .fields #[.ref a] } = h2 at G2
    have hv : h2.IsItemsView s.heap.objs.size a := ⟨_, by rw [← hh2]; exact Heap.get?_push_size _ rfl, rfl, rfl⟩
    have hg2 : h2.get? a = some o := by rw [← hh2]; exact Heap.get?_push_of_some _ hg
    refine iter_items_raw (s := { s with heap := h2 }) hv ⟨o, hg2, hE, hd⟩ ?_
    have hI : (h2.push { cls := .type "dict_itemiterator", data := .fields #[.none, .bool false, .ref a, .int 0 0, .int es.toArray.size 0, .int n 0, .none, .none] }).get? h2.objs.size = some { cls := .type "dict_itemiterator", data := .fields #[.none, .bool false, .ref a, .int 0 0, .int es.toArray.size 0, .int n 0, .none, .none] } := Heap.get?_push_size _ rfl
    refine and2 (G2.hold1 (h' := h2.push { cls := .type "dict_itemiterator", data := .fields #[.none, .bool false, .ref a, .int 0 0, .int es.toArray.size 0, .int n 0, .none, .none] }) (fun b x e => Heap.get?_push_of_some _ e) (fresh_size h2) hI) fun G3 ov => ?_
    refine e31 (isPair_some ht) fun elts kk tp eq0 => ?_; subst eq0
    exact P _ _ _ _ _ _ _ s.toks _ S1 _ le1 (items_src (elts := elts) (k := kk) (tp := tp) (j := j) (l := k) (ep := n) (Nat.ne_of_lt (Heap.lt_size hg2)) (by rw [hS1]; rfl) (hes.keeps le1)) G3 ov ⟨⟨_, _, hI⟩, o, Heap.get?_push_of_some _ hg2, hE, hd⟩
  · exact noS e
theorem s_for (O : C.Ok) {target iter : Expr} {tgt : Tgt} {body : List Stmt} {pos : Pos} {B : St → Ans (Option PyData)} {ds : List PyData} {o : Option PyData} (hs : ∀ x, foldedSetIterable iter C.env x = pure x) (ht : tgtOf C.env.scope.names target = some tgt)
    (src : SrcP C target tgt iter st ds st1) (hb : ∀ ex st o st1, B st = some (o, st1) → EvS (C.hold ex) (PySem.execs body C.env) st o st1) (e : forL B tgt ds st1 = some (o, st2)) : EvS C (PySem.exec (.For target iter body [] pos) C.env) st o st2 := fun E s m ow S Q G P =>
  wpAny_For (src _ _ _ _ _ _ G fun I fp wr P' Md It h' tk ow' S' ex le sr g ov st0 =>
    for_core (s := { s with heap := h', toks := tk }) (R := fun r s' => match r with | .ok f => Q f s' | .error e => cameBackBy (model C.prog C.w) C.A C.env E e s') O (sr.turns C.A O.hnd) ht hb sr.live sr.fps rfl sr.item (StaysIn.refl S') g ov st0 e
      fun f m2 h2 t2 ow2 S2 le2 G2 r2 => P f m2 h2 t2 ow2 S2 (tr le le2) G2 r2) hs
theorem seqK_some {o : Ans (Option PyData)} {g : St → Ans (Option PyData)} {r : Option PyData} {st2 : St} (h : seqK o g = some (r, st2)) : (∃ st1, o = some (none, st1) ∧ g st1 = some (r, st2)) ∨ ∃ d, r = some d ∧ o = some (some d, st2) := by
  cases o with
  | none => exact noS h
  | some p =>
    obtain ⟨x, s1⟩ := p
    cases x with
    | none => exact .inl ⟨s1, rfl, h⟩
    | some d => obtain ⟨rfl, rfl⟩ := some2 h; exact .inr ⟨d, rfl, rfl⟩
theorem while_turns {prog : Program} {w : World} {A : Around} {R : Result → Shared → Prop} {test : Expr} {body : List Stmt} {env : Env} (I : Nat → Shared → Prop)
    (turn : ∀ n s, I n s → ∀ (Q5 : Shared → Prop) (Qf : Flow → Shared → Prop) (X : Value → Shared → Prop), (∀ m s, m < n → I m s → Q5 s) → (∀ f s, R (.ok f) s → Qf f s) → wpAny (model prog w) A (isTrue test env (eval test env)) (fun b s₂ =>
      if b then wpAny (model prog w) A (PySem.execs body env) (fun f s₃ => match f with
          | .next | .cont => Q5 s₃
          | .brk => Qf .next s₃
          | .ret v => Qf (.ret v) s₃) X s₂
      else Qf .next s₂) X s)
    {s : Shared} (n : Nat) (h : I n s) : codeAny (model prog w) A (.whileLoop test body [] env) R s := by
  refine codeAny_whileLoop I (fun n s hI => ?_) n h
  refine wpAny_mono (turn n s hI (fun s => ∃ m, m < n ∧ I m s) (fun f s => R (.ok f) s) (notedBy (model prog w) A env fun e s' => R (.error e) s') (fun m s h1 h2 => ⟨m, h1, h2⟩) fun _ _ h => h) (fun b s₁ h₁ => ?_) fun _ _ z => z
  cases b with
  | true => exact h₁
  | false => exact wpAny_execs_nil h₁
inductive WhileInv (C : Cx) (s : Shared) (S : Heap) (rest : Nat → St → Prop) : Nat → Shared → Prop where
  | mk {k : Nat} (h' : Heap) (tk : Nat) (m' : Str → Option Value) (ow' : Nat → Option (Addr × Obj)) (S' : Heap) (st1 : St) (le : S.StaysIn S') (G : Good C m' st1 ow' S' h') (e : rest k st1) : WhileInv C s S rest k { s with heap := h', toks := tk }
theorem s_whl (O : C.Ok) {t : Expr} {body : List Stmt} {pos : Pos} {T : St → Ans PyData} {B : St → Ans (Option PyData)} (ht : ∀ st c st1, T st = some (.bool c, st1) → EvT C t st c st1) (hb : ∀ st o st1, B st = some (o, st1) → EvS C (PySem.execs body C.env) st o st1)
    {n : Nat} {o : Option PyData} (e : whileN T B n st = some (o, st2)) : EvS C (PySem.exec (.While t body [] pos) C.env) st o st2 := by
  intro E s m ow S Q G P
  refine wpAny_While (while_turns (WhileInv C s S fun k st1 => whileN T B k st1 = some (o, st2)) ?_ n (.mk s.heap s.toks m ow S st (StaysIn.refl S) G e))
  rintro k s' ⟨h1, t1, m1, ow1, S1, st1, le1, G1, e1⟩ Q5 Qf X f5 ff
  cases k with
  | zero => exact noS e1
  | succ k =>
    have e2 : (match T st1 with
      | some (.bool false, st) => some (none, st)
      | some (.bool true, st) => seqK (B st) (whileN T B k)
      | _ => none) = some (o, st2) := e1
    clear e1
    cases hT : T st1 with
    | none => rw [hT] at e2; exact noS e2
    | some p =>
      obtain ⟨d, st3⟩ := p
      rw [hT] at e2
      cases d with
      | bool b =>
        refine ht _ _ _ hT _ { s with heap := h1, toks := t1 } _ _ _ _ G1 fun v h2 t2 ow2 S2 le2 G2 rv => ?_
        subst rv
        cases v with
        | false =>
          obtain ⟨rfl, rfl⟩ := some2 e2
          exact ff _ _ (P _ m1 h2 t2 ow2 S2 (tr le1 le2) G2 rfl)
        | true => rcases seqK_some e2 with ⟨st4, hB, e3⟩ | ⟨d, rfl, hB⟩
                  · refine hb _ _ _ hB _ { s with heap := h2, toks := t2 } _ _ _ _ G2 fun f m3 h3 t3 ow3 S3 le3 G3 r3 => ?_
                    cases r3
                    exact f5 k _ (Nat.lt_succ_self k) (.mk h3 t3 m3 ow3 S3 st4 (tr le1 (tr le2 le3)) G3 e3)
                  · refine hb _ _ _ hB _ { s with heap := h2, toks := t2 } _ _ _ _ G2 fun f m3 h3 t3 ow3 S3 le3 G3 r3 => ?_
                    have r3' := r3
                    obtain ⟨v, rfl, rv⟩ := r3
                    exact ff _ _ (P _ m3 h3 t3 ow3 S3 (tr le1 (tr le2 le3)) G3 r3')
      | _ => exact noS e2
end
theorem Inv.adoptW {h₀ h h' : Heap} {L : Addr} {m : Str → Option Value} {own : Nat → Option (Addr × Obj)} {ex ex0 ex' : Addr → Option Obj} {S S' : Heap} {wr : List Addr} (I : Inv h₀ L m own ex S h) (o : Over ex0 wr ex) (le : S.StaysIn S') (st : S'.StaysIn h')
    (hk : ∀ b x, b ∉ wr → h.get? b = some x → h'.get? b = some x) (no : ∀ b o o', h.get? b = some o → S'.get? b = some o' → (S.get? b).isSome = true) (he : ∀ a x, ex' a = some x → (a ∈ wr ∧ h'.get? a = some x) ∨ (a ∉ wr ∧ ex0 a = some x)) : Inv h₀ L m own ex' S' h' := by
  have off : ∀ {a : Addr} {o : Obj}, h.get? a = some o → S.get? a = none → S'.get? a = none := fun {a o} e1 e2 => by
    cases q : S'.get? a with
    | none => rfl
    | some x => have := no a o x e1 q; rw [e2] at this; exact fTr this
  have inw : ∀ {a : Addr}, a ∈ wr → (∃ x, h.get? a = some x) ∧ a ≠ L ∧ S.get? a = none := fun {a} ha => by
    refine e11 (Option.isSome_iff_exists.mp (o.all a ha)) fun x hx => ?_
    exact ⟨⟨x, (I.ext a x hx).1⟩, (I.ext a x hx).2⟩
  have hL : L ∉ wr := fun z => (inw z).2.1 rfl
  obtain ⟨oL, es, ep, hL1, hL2⟩ := id I.ns
  refine ⟨⟨oL, es, ep, hk _ _ hL hL1, hL2⟩, StaysIn.trans I.base le, st, off hL1 I.offL, fun j b x q => ?_, I.inj, fun b x q => ?_, I.top⟩
  · have q' := I.own j b x q
    have hb : b ∉ wr := fun z => by have := o.all b z; rw [q'.2.2.2] at this; exact fTr this
    refine ⟨hk b x hb q'.1, q'.2.1, off q'.1 q'.2.2.1, ?_⟩
    cases e : ex' b with
    | none => rfl
    | some y =>
      rcases he b y e with z | z
      · exact absurd z.1 hb
      · rw [← o.off b hb, q'.2.2.2] at z; exact noS z.2
  · rcases he b x q with z | z
    · obtain ⟨⟨y, hy⟩, h1, h2⟩ := inw z.1
      exact ⟨z.2, h1, off hy h2⟩
    · rw [← o.off b z.1] at z
      have := I.ext b x z.2
      exact ⟨hk b x z.1 this.1, this.2.1, off this.1 this.2.2⟩
theorem Inv.see1 {h₀ h : Heap} {L : Addr} {m : Str → Option Value} {own : Nat → Option (Addr × Obj)} {ex : Addr → Option Obj} {S : Heap} (I : Inv h₀ L m own ex S h) {a : Addr} {o : Obj} (e : h.get? a = some o) (hL : a ≠ L) (ho : ∀ i x, own i ≠ some (a, x)) (hx : ex a = none) :
    ∃ S', S.StaysIn S' ∧ Inv h₀ L m own ex S' h ∧ S'.get? a = some o := by
  refine ⟨keepOnly h fun b => (S.get? b).isSome = true ∨ b = a, fun b o e => keepOnly_some (.inl (by rw [e]; rfl)) (I.stay _ _ e), ?_, keepOnly_some (.inr rfl) e⟩
  have off : ∀ {b : Addr}, b ≠ a → S.get? b = none → (keepOnly h fun b => (S.get? b).isSome = true ∨ b = a).get? b = none := fun {b} e1 e2 =>
    keepOnly_none fun q => q.elim (fun q => by rw [e2] at q; exact fTr q) e1
  refine ⟨I.ns, StaysIn.trans I.base fun b o e => keepOnly_some (.inl (by rw [e]; rfl)) (I.stay _ _ e), fun b o e => (of_keepOnly e).2, off (Ne.symm hL) I.offL, fun j b x q => ?_, I.inj, fun b x q => ?_, I.top⟩
  · have q' := I.own j b x q
    exact ⟨q'.1, q'.2.1, off (fun z => ho j x (z ▸ q)) q'.2.2.1, q'.2.2.2⟩
  · have q' := I.ext b x q
    exact ⟨q'.1, q'.2.1, off (fun z => by rw [z, hx] at q; exact noS q) q'.2.2⟩
theorem relabel_names {scope : Scope} {env : Env} (hk : env.scope.kind = .function) : (relabel scope env).names = relab env.scope.names scope.names := by
  unfold relabel relab Env.kindOf
  simp only [hk]
  apply List.map_congr_left
  intro p _
  obtain ⟨n, k⟩ := p
  simp
noncomputable def clOf (env : Env) : List (Str × NameKind) → List (Str × Addr) → List (Str × Addr)
  | [], cs => cs
  | (x, .free) :: r, cs => clOf env r ((x, (env.cells.lookup x).getD 0) :: cs)
  | _ :: r, cs => clOf env r cs
theorem closureFor_of {scope : Scope} {env : Env} (h : ∀ x, (x, NameKind.free) ∈ scope.names → ∃ c, env.cells.lookup x = some c) : closureFor scope env = pure (clOf env scope.names []) := by
  have gen : ∀ (l : List (Str × NameKind)) (cs : List (Str × Addr)), (∀ x, (x, NameKind.free) ∈ l → ∃ c, env.cells.lookup x = some c) →
      (forIn l cs fun p (cs : List (Str × Addr)) => (if (p.2 == NameKind.free) = true then (do let a ← cellOf env p.1; pure (ForInStep.yield ((p.1, a) :: cs))) else pure (ForInStep.yield cs) : Sem (ForInStep (List (Str × Addr))))) = pure (clOf env l cs) := by
    intro l
    induction l with
    | nil => intro cs _; rfl
    | cons p r ih =>
      intro cs hl
      obtain ⟨x, k⟩ := p
      rw [List.forIn_cons]
      by_cases hk : k = .free
      · subst hk
        refine e11 (hl x (.head _)) fun c hc => ?_
        have : cellOf env x = pure c := by unfold cellOf; rw [hc]
        simp only [beq_self_eq_true, if_true, this, pure_bind]
        rw [ih _ (fun y hy => hl y (.tail _ hy))]
        simp [clOf, hc]
      · have : (k == NameKind.free) = false := by simpa using hk
        simp only [this, Bool.false_eq_true, if_false, pure_bind]
        rw [ih _ (fun y hy => hl y (.tail _ hy))]
        cases k <;> first | rfl | exact absurd rfl hk
  have := gen scope.names [] h
  refine Eq.trans (congrArg (fun t => t >>= pure) ?_) (Eq.trans (congrArg (fun t => t >>= pure) this) (pure_bind _ _))
  congr 1
theorem clOf_lookup {env : Env} : ∀ {l : List (Str × NameKind)} {cs : List (Str × Addr)} {x : Str}, (∀ y c, (y, c) ∈ cs → env.cells.lookup y = some c) → (∀ y, (y, NameKind.free) ∈ l → ∃ c, env.cells.lookup y = some c) → ((x, NameKind.free) ∈ l ∨ ∃ c, (x, c) ∈ cs) → (clOf env l cs).lookup x = env.cells.lookup x
  | [], cs, x, h1, h2, h3 => by
    rw [clOf]
    rcases h3 with h3 | ⟨c, h3⟩
    · cases h3
    · rw [h1 x c h3]
      clear h2
      induction cs with
      | nil => cases h3
      | cons p r ih =>
        obtain ⟨y, b⟩ := p
        by_cases hy : x = y
        · subst hy
          simp only [List.lookup, beq_self_eq_true]
          rw [← h1 x b (.head _), h1 x c h3]
        · have : (x == y) = false := by simpa using hy
          simp only [List.lookup, this]
          rcases List.mem_cons.mp h3 with z | z
          · cases z; exact absurd rfl hy
          · exact ih (fun y c hc => h1 y c (.tail _ hc)) z
  | (y, k) :: r, cs, x, h1, h2, h3 => by
    by_cases hk : k = .free
    · subst hk
      refine e11 (h2 y (.head _)) fun c hc => ?_
      rw [clOf, hc]
      refine clOf_lookup (fun z b hb => ?_) (fun z hz => h2 z (.tail _ hz)) ?_
      · rcases List.mem_cons.mp hb with e | hb
        · cases e; exact hc
        · exact h1 z b hb
      · rcases h3 with h3 | ⟨b, h3⟩
        · rcases List.mem_cons.mp h3 with e | h3
          · cases e; exact .inr ⟨_, .head _⟩
          · exact .inl h3
        · exact .inr ⟨b, .tail _ h3⟩
    · have e : clOf env ((y, k) :: r) cs = clOf env r cs := by cases k <;> first | rfl | exact absurd rfl hk
      rw [e]
      refine clOf_lookup h1 (fun z hz => h2 z (.tail _ hz)) ?_
      rcases h3 with h3 | h3
      · rcases List.mem_cons.mp h3 with e | h3
        · cases e; exact absurd rfl hk
        · exact .inl h3
      · exact .inr h3
theorem lookup_mem {l : List (Str × NameKind)} {x : Str} {k : NameKind} (h : l.lookup x = some k) : (x, k) ∈ l := by
  induction l with
  | nil => exact noS h
  | cons p r ih =>
    obtain ⟨y, q⟩ := p
    by_cases e : x = y
    · subst e; simp [List.lookup] at h; subst h; exact .head _
    · have : (x == y) = false := by simpa using e
      simp only [List.lookup, this] at h
      exact .tail _ (ih h)
theorem mem_lookup {l : List (Str × NameKind)} (hn : nodupS l = true) {x : Str} {k : NameKind} (h : (x, k) ∈ l) : l.lookup x = some k := by
  induction l with
  | nil => cases h
  | cons p r ih =>
    obtain ⟨y, q⟩ := p
    simp only [nodupS, Bool.and_eq_true, Bool.not_eq_true'] at hn
    rcases List.mem_cons.mp h with e | hm
    · cases e; simp [List.lookup]
    · have e : x ≠ y := fun z => by
        subst z
        have : r.any (fun z => z.1 == x) = true := List.any_eq_true.mpr ⟨(x, k), hm, by simp⟩
        rw [hn.1] at this; exact fTr this
      have : (x == y) = false := by simpa using e
      simp only [List.lookup, this]
      exact ih hn.2 hm
theorem initOf_at {ns : List (Str × NameKind)} : ∀ {l : List (Str × NameKind)} {init : List (Option Nat)}, initOf ns l = some init → init.length = l.length ∧ ∀ (k : Nat) (x : Str) (kd : NameKind), l[k]? = some (x, kd) → (kd = .cell ∧ ∃ i, init[k]? = some (some i) ∧ posOf x ns 0 = some (i, .cell)) ∨ ((kd = .local ∨ kd = .globalImplicit) ∧ init[k]? = some none)
  | [], init, h => by obtain rfl := Option.some.inj h; exact ⟨rfl, fun k x kd e => by simp at e⟩
  | (x, kd) :: r, init, h => by
    have step : ∀ {a : Option Nat} {t : List (Option Nat)}, init = a :: t → initOf ns r = some t → ((kd = .cell ∧ ∃ i, a = some i ∧ posOf x ns 0 = some (i, .cell)) ∨ ((kd = .local ∨ kd = .globalImplicit) ∧ a = none)) →
        init.length = ((x, kd) :: r).length ∧ ∀ (k : Nat) (y : Str) (kd' : NameKind), ((x, kd) :: r)[k]? = some (y, kd') → (kd' = .cell ∧ ∃ i, init[k]? = some (some i) ∧ posOf y ns 0 = some (i, .cell)) ∨ ((kd' = .local ∨ kd' = .globalImplicit) ∧ init[k]? = some none) := by
      intro a t e ht hh
      subst e
      refine and2 (initOf_at ht) fun h1 h2 => ?_
      refine ⟨by simp [h1], fun k y kd' e => ?_⟩
      cases k with
      | zero =>
        simp only [List.getElem?_cons_zero, Option.some.injEq, Prod.mk.injEq] at e
        refine and2 e fun eq1 eq2 => ?_; subst eq1; subst eq2
        rcases hh with ⟨h3, i, rfl, h4⟩ | ⟨h3, rfl⟩
        · exact .inl ⟨h3, i, rfl, h4⟩
        · exact .inr ⟨h3, rfl⟩
      | succ k => exact h2 k y kd' e
    cases kd with
    | cell =>
      refine bindE h fun p h1 h2 => and2 (if_some h2) fun hk h3 => mapE h3 fun t ht eq1 => ?_; subst eq1
      obtain ⟨i, k⟩ := p
      obtain rfl : k = .cell := eq_of_beq hk
      exact step rfl ht (.inl ⟨rfl, i, rfl, h1⟩)
    | «local» =>
      refine mapE h fun t ht eq1 => ?_; subst eq1
      exact step rfl ht (.inr ⟨.inl rfl, rfl⟩)
    | globalImplicit =>
      refine mapE h fun t ht eq1 => ?_; subst eq1
      exact step rfl ht (.inr ⟨.inr rfl, rfl⟩)
    | free => exact noS h
    | globalExplicit => exact noS h
theorem initSt_at {init : List (Option Nat)} {st : St} {k : Nat} : (initSt init st).at k = match init[k]? with
    | some (some i) => st.at i
    | _ => .un := by
  unfold initSt St.at
  rw [List.getD_eq_getElem?_getD, List.getElem?_map]
  cases init[k]? with
  | none => rfl
  | some o => cases o <;> rfl
structure CompNames (C : Cx) (scope : Scope) (init : List (Option Nat)) : Prop where
  kind : scope.kind = .function
  nocell : ∀ y ∈ scope.names, y.2 ≠ .cell
  nod : nodupS scope.names = true
  nod2 : nodupS (relab C.env.scope.names scope.names) = true
  init : initOf C.env.scope.names (relab C.env.scope.names scope.names) = some init
theorem scopeOk_names {C : Cx} {scope : Scope} {init : List (Option Nat)} (h : scopeOk C.env.scope.names scope = true) (hi : initOf C.env.scope.names (relab C.env.scope.names scope.names) = some init) : CompNames C scope init := by
  simp only [scopeOk, Bool.and_eq_true, Bool.not_eq_true'] at h
  obtain ⟨⟨⟨h1, h2⟩, h3⟩, h4⟩ := h
  have hk : scope.kind = .function := by
    cases hk : scope.kind <;> rw [hk] at h1 <;> first | rfl | exact fTr h1
  refine ⟨hk, fun y hy z => ?_, h3, h4, hi⟩
  have := List.any_eq_false.mp h2 y hy
  simp [z] at this
section
variable {C : Cx} {scope : Scope} {init : List (Option Nat)}
theorem CompNames.free (N : CompNames C scope init) (O : C.Ok) {x : Str} (h : (x, NameKind.free) ∈ scope.names) : ∃ c, C.env.cells.lookup x = some c := by
  refine O.cel x ?_
  have hm : (if ((NameKind.free == .free && C.env.scope.names.lookup x == some .cell) = true) then (x, NameKind.cell) else (x, NameKind.free)) ∈ relab C.env.scope.names scope.names := List.mem_map.mpr ⟨_, h, rfl⟩
  split at hm
  · rename_i hc
    simpa using hc
  · refine e11 (List.getElem?_of_mem hm) fun k hk => ?_
    rcases (initOf_at N.init).2 k x .free hk with z | z
    · cases z.1
    · rcases z.1 with z | z <;> cases z
theorem CompNames.cell (N : CompNames C scope init) {x : Str} (h : (x, NameKind.cell) ∈ relab C.env.scope.names scope.names) : (x, NameKind.free) ∈ scope.names := by
  refine e12 (List.mem_map.mp h) fun p hp e => ?_
  obtain ⟨y, k⟩ := p
  refine if_or e (fun hc e => ?_) (fun _ e => ?_)
  · cases e
    simp only [Bool.and_eq_true, beq_iff_eq] at hc
    rw [← hc.1]
    exact hp
  · cases e
    exact absurd rfl (N.nocell _ hp)
noncomputable def innerC (C : Cx) (scope : Scope) (L : Addr) (S : Heap) (ex : Addr → Option Obj) : Cx := { C with env := compEnvC scope (clOf C.env scope.names []) L C.env, h₀ := S, ex := ex }
theorem innerC.ok (N : CompNames C scope init) (O : C.Ok) {L : Addr} {S : Heap} {ex : Addr → Option Obj} (hS : C.h₀.StaysIn S) : (innerC C scope L S ex).Ok where
  kind := N.kind
  glob := O.glob
  blt := O.blt
  hnd := O.hnd
  dep := O.dep
  unt := O.unt
  gl := O.gl.keeps hS
  nod := by show nodupS (relabel scope C.env).names = true; rw [relabel_names O.kind]; exact N.nod2
  cel := fun x hx => by
    have hx' : (relab C.env.scope.names scope.names).lookup x = some .cell := by
      have : (relabel scope C.env).names.lookup x = some .cell := hx
      rw [relabel_names O.kind] at this; exact this
    have hf := N.cell (lookup_mem hx')
    show ∃ c, (clOf C.env scope.names []).lookup x = some c
    rw [clOf_lookup (fun y c h => by cases h) (fun y hy => N.free O hy) (.inl hf)]
    exact N.free O hf
theorem inner_st (N : CompNames C scope init) (O : C.Ok) {m : Str → Option Value} {st : St} {ow : Nat → Option (Addr × Obj)} {S : Heap} (G : StOK C.w.params S C.env m ow st) {L : Addr} {ex : Addr → Option Obj} :
    StOK C.w.params S (innerC C scope L S ex).env (fun _ => none) (fun _ => none) (initSt init st) := by
  have hn : (innerC C scope L S ex).env.scope.names = relab C.env.scope.names scope.names := relabel_names O.kind
  refine and2 (initOf_at N.init) fun h1 h2 => ?_
  refine ⟨by rw [hn, ← h1]; simp [initSt], fun k x kd hk => ?_⟩
  rw [hn] at hk
  rw [initSt_at]
  rcases h2 k x kd hk with ⟨rfl, i, e1, e2⟩ | ⟨_, e1⟩
  · rw [e1]
    have sl := G.2 i x _ (posOf_get e2).1
    have hf := N.cell (List.mem_of_getElem? hk)
    have hc : (innerC C scope L S ex).env.cells.lookup x = C.env.cells.lookup x := clOf_lookup (fun y c h => by cases h) (fun y hy => N.free O hy) (.inl hf)
    show SlotOK _ _ _ _ _ _ _ (st.at i)
    cases hs : st.at i with
    | un => exact trivial
    | d d =>
      rw [hs] at sl
      obtain ⟨v, ⟨c, hv1, hv2⟩, hr⟩ := sl
      exact ⟨v, ⟨c, hc.trans hv1, hv2⟩, hr⟩
    | ol xs => rw [hs] at sl; obtain ⟨a, vs, n, z, _⟩ := sl; cases z
    | od xs => rw [hs] at sl; obtain ⟨a, vs, es, n, z, _⟩ := sl; cases z
    | os xs => rw [hs] at sl; obtain ⟨a, vs, es, n, z, _⟩ := sl; cases z
  · rw [e1]; trivial
end
abbrev testsOf (ifs : List Expr) (env : Env) (b : Bool) : Sem Bool := forIn ifs b fun c r => if r = true then do let ok ← isTrue c env (eval c env); pure (ForInStep.yield ok) else pure (ForInStep.yield r)
abbrev EvAll (C : Cx) (ifs : List Expr) (st : St) (b : Bool) (st' : St) : Prop := EvP C (testsOf ifs C.env true) st st' fun _ v => v = b
theorem tests_false {prog : Program} {w : World} {A : Around} {env : Env} {E : Value → Shared → Prop} : ∀ {ifs : List Expr} {s : Shared} {Q : Bool → Shared → Prop}, Q false s → wpAny (model prog w) A (testsOf ifs env false) Q E s
  | [], s, Q, h => wpAny_pure h
  | c :: r, s, Q, h => by
    show wpAny _ _ (forIn (c :: r) false _) Q E s
    rw [List.forIn_cons]
    exact wpAny_bind (wpAny_pure (tests_false (ifs := r) h))
section
variable {C : Cx} {st st1 st2 : St}
theorem a_nil : EvAll C [] st true st := fun E s m ow S Q G P => wpAny_pure (P true s.heap s.toks ow S (StaysIn.refl S) G rfl)
theorem a_cons {c : Expr} {r : List Expr} {b d : Bool} (h : EvT C c st b st1) (k : if b then EvAll C r st1 d st2 else d = false ∧ st2 = st1) : EvAll C (c :: r) st d st2 := by
  intro E s m ow S Q G P
  show wpAny _ _ (forIn (c :: r) true _) Q E s
  rw [List.forIn_cons]
  refine wpAny_bind (wpAny_bind (h _ _ _ _ _ _ G fun v h1 t1 ow1 S1 le1 G1 rv => wpAny_pure ?_))
  subst rv
  cases v with
  | true => exact k _ _ _ _ _ _ G1 fun v h2 t2 ow2 S2 le2 G2 r2 => P v h2 t2 ow2 S2 (tr le1 le2) G2 r2
  | false => obtain ⟨rfl, rfl⟩ := k; exact tests_false (P _ h1 t1 ow1 S1 le1 G1 rfl)
noncomputable def ItemOk (C : Cx) (ifs : List Expr) (elt : Expr) (st : St) (o : Option PyData) (st' : St) : Prop :=
  ∃ (b : Bool) (st1 : St), EvAll C ifs st b st1 ∧ ((b = true ∧ ∃ d, o = some d ∧ EvE C elt st1 d st') ∨ (b = false ∧ o = none ∧ st' = st1))
theorem compL_some {f : St → Ans (Option PyData)} {tgt : Tgt} {d : PyData} {r : List PyData} {st : St} {l : List PyData} {st' : St} (h : compL f tgt (d :: r) st = some (l, st')) :
    ∃ st1 o st2 l2, bindT tgt d st = some st1 ∧ f st1 = some (o, st2) ∧ compL f tgt r st2 = some (l2, st') ∧ l = o.toList ++ l2 := by
  refine e43 (bd2_some h) fun o st2 l2 st3 h1 h2 h3 => ?_
  refine e12 (step_some h1) fun st1 h4 h5 => ?_
  obtain ⟨rfl, rfl⟩ := some2 h3
  exact ⟨st1, o, st2, l2, h4, h5, h2, rfl⟩
structure Left0 (C : Cx) (wr : List Addr) (S h : Heap) (D L : Addr) (S' h' : Heap) : Prop where
  le : S.StaysIn S'
  st : S'.StaysIn h'
  ns : ∃ m, h'.Ns L m
  ne : D ≠ L
  newD : h.get? D = none
  newL : h.get? L = none
  big : h.objs.size ≤ D
  offD : S'.get? D = none
  offL : S'.get? L = none
  keep : ∀ b x, b ∉ wr → h.get? b = some x → h'.get? b = some x
  no : ∀ b o o', h.get? b = some o → S'.get? b = some o' → (S.get? b).isSome = true
structure Left (C : Cx) (wr : List Addr) (S h : Heap) (D L : Addr) (out : List PyData) (S' h' : Heap) : Prop extends Left0 C wr S h D L S' h' where
  box : ∃ vs n, h'.get? D = some (boxO vs n) ∧ RDs S' vs out
end
theorem app_box {prog : Program} {w : World} {A : Around} {E : Value → Shared → Prop} {s : Shared} {D : Addr} {vs : List Value} {n : Nat} {x : Value} {Q : Value → Shared → Prop} (h : s.heap.get? D = some (boxO vs n)) (hs : vs.length ≤ 1048576)
    (q : ∀ h' n', h'.get? D = some (boxO (vs ++ [x]) n') → Heap.SameBut D s.heap h' → Q .none { s with heap := h' }) : wpAny (model prog w) A (call (.builtin "list.append") [.ref D, x]) Q E s := by
  have hsz : vs.toArray.size ≤ sizeLine := by rw [List.size_toArray, sizeLine_eq]; exact leE hs rfl
  refine call_meetsIn F.slot_list_append ⟨_, h, rfl⟩ F.entry_list_append (F.args_list_append_2 _ _) ((list_append D vs.toArray n x hsz).inModel prog w) ⟨h, ?_⟩
  refine e11 (mapSeq_list (fun xs => xs.push x) vs.toArray n) fun n' hn' => ?_
  have hn2 : Obj.mapSeq (fun xs => xs.push x) (boxO vs n) = boxO (vs ++ [x]) n' := by
    show Obj.mapSeq (fun xs => xs.push x) { cls := .type "list", data := .seq vs.toArray n } = _
    rw [hn']; simp [boxO]
  exact q _ n' (by rw [← hn2]; exact Heap.get?_update_self _ h (by rfl)) (Heap.SameBut.update ..)
section
variable {C : Cx} {st st1 st2 : St}
open Classical in
noncomputable def baseX (S h : Heap) (L : Addr) (wr : List Addr) : Addr → Option Obj := fun a => if a ∈ wr then none else if (S.get? a).isSome = true ∨ a = L then none else h.get? a
noncomputable def listL (f : St → Ans (List PyData)) (tgt : Tgt) : List PyData → St → Ans (List PyData)
  | [], st => some ([], st)
  | d :: r, st => bd2 (step tgt f d st) (listL f tgt r) app2
theorem listL_some {f : St → Ans (List PyData)} {tgt : Tgt} {d : PyData} {r : List PyData} {st : St} {l : List PyData} {st' : St} (h : listL f tgt (d :: r) st = some (l, st')) :
    ∃ st1 l1 st2 l2, bindT tgt d st = some st1 ∧ f st1 = some (l1, st2) ∧ listL f tgt r st2 = some (l2, st') ∧ l = l1 ++ l2 := by
  refine e43 (bd2_some h) fun l1 st2 l2 st3 h1 h2 h3 => ?_
  refine e12 (step_some h1) fun st1 h4 h5 => ?_
  obtain ⟨rfl, rfl⟩ := some2 h3
  exact ⟨st1, l1, st2, l2, h4, h5, h2, rfl⟩
noncomputable def TailOk (C : Cx) (D : Addr) (wr : List Addr) (t : Sem Unit) (st : St) (l : List PyData) (st' : St) : Prop :=
  ∀ (E : Value → Shared → Prop) (s : Shared) (m : Str → Option Value) (ow : Nat → Option (Addr × Obj)) (S : Heap) (ex : Addr → Option Obj) (vs : List Value) (n : Nat) (l1 : List PyData) (Q : Unit → Shared → Prop),
    Good (C.hold ex) m st ow S s.heap → Over C.ex (D :: wr) ex → s.heap.get? D = some (boxO vs n) → RDs S vs l1 → l1.length + l.length ≤ 1048576 →
    (∀ m' h' tk ow' S' ex' vs' n', S.StaysIn S' → Good (C.hold ex') m' st' ow' S' h' → Over C.ex (D :: wr) ex' → (∀ b ∈ wr, ex' b = ex b) → h'.get? D = some (boxO vs' n') → RDs S' vs' (l1 ++ l) → Q () { s with heap := h', toks := tk }) →
    wpAny (model C.prog C.w) C.A t Q E s
theorem comp_turns {prog : Program} {w : World} {A : Around} {R : Result → Shared → Prop} {s : Shared} {elt target : Expr} {gens : List Comprehension} {scope : Scope} {pos : Pos} {k : Nat} {pp : Pos} {it acc : Value} {env : Env} {tail : Sem Unit} (I : Nat → Shared → Prop)
    (ht : compTurn (.ListComp elt gens scope pos) k it acc env = (do
      standAt pp
      match ← pyNext it with
      | none => pure (.done .next)
      | some v => do letOwnedTupleGo target it v; assign target env v; tail; again (.compLoop (.ListComp elt gens scope pos) k it acc env)))
    (turn : ∀ n s, I n s → ∀ (Q5 Qn : Shared → Prop) (X : Value → Shared → Prop), (∀ m s, m < n → I m s → Q5 s) → (∀ s, R (.ok .next) s → Qn s) → wpAny (model prog w) A (pyNext it) (fun r s₁ => match r with
      | none => Qn s₁
      | some v => wpAny (model prog w) A (letOwnedTupleGo target it v) (fun _ s₀ => wpAny (model prog w) A (assign target env v) (fun _ s₂ =>
          wpAny (model prog w) A tail (fun _ s₅ => Q5 s₅) X s₂) X s₀) X s₁) X s)
    (n : Nat) (h : I n s) : codeAny (model prog w) A (.compLoop (.ListComp elt gens scope pos) k it acc env) R s := by
  refine codeAny_loop rfl I (fun n s hI => ?_) n h
  refine wpAny_noted (m := compTurn (.ListComp elt gens scope pos) k it acc env) ?_
  rw [ht]
  refine wpAny_bind (wpAny_standAt (wpAny_bind (wpAny_mono (turn n s hI (fun s => ∃ m, m < n ∧ I m s) (fun s => R (.ok .next) s) (notedBy (model prog w) A env fun e s' => R (.error e) s') (fun m s h1 h2 => ⟨m, h1, h2⟩) fun _ h => h) (fun r s₁ h₁ => ?_) fun _ _ z => z)))
  match r, h₁ with
  | none, h₁ => exact wpAny_pure h₁
  | some v, h₁ => exact wpAny_bind (wpAny_mono h₁ (fun _ s₀ h₀ => wpAny_bind (wpAny_mono h₀ (fun _ s₂ h₂ => wpAny_bind (wpAny_mono h₂ (fun _ s₃ h₃ => wpAny_pure ⟨rfl, h₃⟩) fun _ _ z => z)) fun _ _ z => z)) fun _ _ z => z)
inductive BoxInv (C : Cx) (wr : List Addr) (D : Addr) (s : Shared) (S : Heap) (It : Nat → Heap → Prop) (rest : Nat → St → List PyData → Prop) (all : List PyData) (n : Nat) : Nat → Shared → Prop where
  | mk (h' : Heap) (tk : Nat) (m' : Str → Option Value) (ow' : Nat → Option (Addr × Obj)) (S' : Heap) (st1 : St) (exi : Addr → Option Obj) (i : Nat) (vs : List Value) (n1 : Nat) (l1 l2 : List PyData) (hst : It i h') (le : S.StaysIn S') (G : Good (C.hold exi) m' st1 ow' S' h') (ov : Over C.ex (D :: wr) exi)
    (hl : rest i st1 l2) (ho : all = l1 ++ l2) (hb : h'.get? D = some (boxO vs n1)) (hr : RDs S' vs l1) (hi : i ≤ n) : BoxInv C wr D s S It rest all n (n + 1 - i) { s with heap := h', toks := tk }
theorem box_loop (O : C.Ok) {elt target : Expr} {gens : List Comprehension} {scope : Scope} {pos pp : Pos} {k : Nat} {tail : Sem Unit} {tgt : Tgt} {ds out l0 : List PyData} {Fn : St → Ans (List PyData)} {stE st : St}
    {I D : Addr} {fp wr : List Addr} {P Md : Nat → Value → Heap → Prop} {It : Nat → Heap → Prop} {s : Shared} {m : Str → Option Value} {ow : Nat → Option (Addr × Obj)} {S S₀ : Heap} {ex : Addr → Option Obj} {R : Result → Shared → Prop} {vs : List Value} {n : Nat}
    (G : Good (C.hold ex) m st ow S s.heap) (ov : Over C.ex (D :: wr) ex) (sr : Src C.prog C.w target tgt ds S₀ I fp wr P Md It) (le0 : S₀.StaysIn S) (h0 : It 0 s.heap) (hDw : D ∉ wr) (ht : tgtOf C.env.scope.names target = some tgt)
    (hT : compTurn (.ListComp elt gens scope pos) k (.ref I) (.ref D) C.env = (do
      standAt pp
      match ← pyNext (.ref I) with
      | none => pure (.done .next)
      | some v => do letOwnedTupleGo target (.ref I) v; assign target C.env v; tail; again (.compLoop (.ListComp elt gens scope pos) k (.ref I) (.ref D) C.env)))
    (hF : ∀ st l st1, Fn st = some (l, st1) → TailOk C D wr tail st l st1)
    (hc : listL Fn tgt ds st = some (out, stE)) (hb : s.heap.get? D = some (boxO vs n)) (hr : RDs S vs l0) (hlen : l0.length + out.length ≤ 1048576)
    (hR : ∀ m' h1 h' tk ow' S' ex' vs' n', S.StaysIn S' → Good (C.hold ex') m' stE ow' S' h1 → Over C.ex (D :: wr) ex' → h1.get? D = some (boxO vs' n') → RDs S' vs' (l0 ++ out) → (∀ b x, b ∉ wr → h1.get? b = some x → h'.get? b = some x) → R (.ok .next) { s with heap := h', toks := tk }) :
    codeAny (model C.prog C.w) C.A (.compLoop (.ListComp elt gens scope pos) k (.ref I) (.ref D) C.env) R s := by
  have fpD : ∀ b ∈ fp, b ∈ wr ∨ (S.get? b).isSome = true := fun b hb => by
    rcases sr.fps b hb with z | z
    · exact .inl z
    · refine e11 (Option.isSome_iff_exists.mp z) fun x hx => ?_
      exact .inr (by rw [le0 _ _ hx]; rfl)
  refine comp_turns
    (BoxInv C wr D s S It (fun i st1 l2 => listL Fn tgt (ds.drop i) st1 = some (l2, stE)) (l0 ++ out) ds.length) hT ?_ (ds.length + 1)
    (.mk s.heap s.toks m ow S st ex 0 vs n l0 out h0 (StaysIn.refl S) G ov hc rfl hb hr (Nat.zero_le _))
  rintro k' s' ⟨h', tk, m', ow', S', st1, exi, i, vs, n, l1, l2, hst', le1, G', ov', e', hout, hbox, hrd, hi⟩ Q5 Qn X f5 fn
  by_cases hlt : i < ds.length
  · refine (sr.turns C.A O.hnd).item i _ _ _ hlt hst' fun v h2 t2 hMd hk2 => ?_
    refine (sr.turns C.A O.hnd).go i v _ _ _ hMd fun h4 hP hst4 hk4 => ?_
    have hk : ∀ b x, b ∉ wr → h'.get? b = some x → h4.get? b = some x := fun b x hb z => hk4 b x hb (hk2 b x hb z)
    have hbox4 : h4.get? D = some (boxO vs n) := hk D _ hDw hbox
    have live4 : ∀ a ∈ D :: wr, (h4.get? a).isSome = true := fun a ha => by
      rcases List.mem_cons.mp ha with rfl | ha
      · rw [hbox4]; rfl
      · exact sr.live _ _ hst4 a ha
    have G4 := G'.kinds (G'.1.walk ov' (fun b x hb z => hk b x (fun y => hb (.tail _ y)) z) (exW_spec (h' := h4)))
    have ov4 := ov'.turn live4
    refine e12 (sr.item i v h4 S' hlt (tr le0 le1) hP) fun d hd hit => ?_
    have hdr : ds.drop i = d :: ds.drop (i + 1) := by
      obtain ⟨q1, q2⟩ := List.getElem?_eq_some_iff.mp hd
      rw [List.drop_eq_getElem_cons q1, q2]
    rw [hdr] at e'
    refine e44 (listL_some e') fun st2 lo st3 l3 hb1 hb2 hb3 eq1 => ?_; subst eq1
    have keep : ∀ {S5 h5 : Heap} {m5 ow5 st5 exi5}, S'.StaysIn S5 → Good (C.hold exi5) m5 st5 ow5 S5 h5 → (∀ b ∈ wr, ∀ x, h4.get? b = some x → exi5 b = some x) → It (i + 1) h5 := by
      intro S5 h5 m5 ow5 st5 exi5 le5 G5 hx5
      refine (sr.turns C.A O.hnd).frame _ _ _ hst4 fun b hb x hx => ?_
      rcases fpD b hb with z | z
      · exact (G5.1.ext b x (hx5 b z x hx)).1
      · refine e11 (Option.isSome_iff_exists.mp z) fun y hy => ?_
        have hy' := le1 _ _ hy
        have : y = x := Option.some.inj ((G4.1.stay _ _ hy').symm.trans hx)
        exact this ▸ G5.1.stay _ _ (le5 _ _ hy')
    refine (show wpAny (model C.prog C.w) C.A (assign target C.env v) _ _ { s with heap := h4, toks := t2 } from ?_)
    refine bind_tgt (C := C.hold (exW C.ex (D :: wr) h4)) (O.hold _) ht G4 hit hb1 fun m5 h5 t5 ow5 G5 => ?_
    have hb5 : h5.get? D = some (boxO vs n) := (G5.1.ext D (boxO vs n) (by show exW _ _ _ D = _; simp only [exW, List.mem_cons, true_or, if_true]; exact hbox4)).1
    refine hF _ _ _ hb2 _ { s with heap := h5, toks := t5 } m5 ow5 S' (exW C.ex (D :: wr) h4) vs n l1 _ G5 ov4 hb5 hrd (by have := congrArg List.length hout; simp only [List.length_append] at this; exact nle (fk (c5 l0.length out.length l1.length lo.length l3.length) [(1, .add (.var 0) (.var 1), .num 1048576), (1, .add (.var 2) (.add (.var 3) (.var 4)), .add (.var 0) (.var 1)), (1, .num 0, .var 4), (1, .add (.num 1048576) (.num 1), .add (.var 2) (.var 3))] rfl (nl hlen) (ne this.symm) (n0 l3.length))) fun m6 h6 t6 ow6 S6 ex6 vs6 n6 le6 G6 ov6 hw6 hb6 hr6 => ?_
    refine f5 (ds.length + 1 - (i + 1)) _ (by exact dec1 hi) (.mk h6 t6 m6 ow6 S6 st3 ex6 (i + 1) vs6 n6 (l1 ++ lo) l3 (keep le6 G6 (fun b hb x hx => ?_)) (tr le1 le6) G6 ov6 hb3 (by rw [hout]; simp) hb6 hr6 hlt)
    rw [hw6 b hb]
    simp only [exW, List.mem_cons, hb, or_true, if_true]; exact hx
  · have hin : i = ds.length := by exact Nat.le_antisymm (nle (fk (c2 i ds.length) [(1, .var 0, .var 1), (1, .add (.var 1) (.num 1), .var 0)] rfl (nl hi))) (nle (fk (c2 i ds.length) [(1, .var 1, .var 0), (1, .add (.var 0) (.num 1), .var 1)] rfl (nl (Nat.not_lt.mp hlt))))
    subst hin
    refine (sr.turns C.A O.hnd).done _ _ _ hst' fun h2 t2 hk2 => ?_
    rw [List.drop_length, listL] at e'
    obtain ⟨rfl, rfl⟩ := some2 e'
    rw [List.append_nil] at hout
    exact fn _ (hR m' h' h2 t2 ow' S' exi vs n le1 G' ov' hbox (hout ▸ hrd) hk2)
structure FrameOk (C : Cx) (scope : Scope) (D L : Addr) (wr : List Addr) (S h h₁ : Heap) (It : Nat → Heap → Prop) (st : St) : Prop where
  hDw : D ∉ wr
  ov : Over (baseX S h₁ L (D :: wr)) (D :: wr) (exW (baseX S h₁ L (D :: wr)) (D :: wr) h₁)
  good : Good ((innerC C scope L S (baseX S h₁ L (D :: wr))).hold (exW (baseX S h₁ L (D :: wr)) (D :: wr) h₁)) (fun _ => none) st (fun _ => none) S h₁
  it : It 0 h₁
  left : ∀ {S' h1 h' : Heap} {m' : Str → Option Value} {st' : St} {ow' : Nat → Option (Addr × Obj)} {exi : Addr → Option Obj}, S.StaysIn S' → Good ((innerC C scope L S (baseX S h₁ L (D :: wr))).hold exi) m' st' ow' S' h1 → Over (baseX S h₁ L (D :: wr)) (D :: wr) exi → (∀ b x, b ∉ wr → h1.get? b = some x → h'.get? b = some x) → Left0 C wr S h D L S' h'
theorem frame_ok (O : C.Ok) {scope : Scope} {init : List (Option Nat)} (N : CompNames C scope init) {target : Expr} {tgt : Tgt} {ds : List PyData}
    {I : Addr} {fp wr : List Addr} {P Md : Nat → Value → Heap → Prop} {It : Nat → Heap → Prop} {s : Shared} {m : Str → Option Value} {ow : Nat → Option (Addr × Obj)} {S : Heap} {ex : Addr → Option Obj} {st : St}
    (G : Good (C.hold ex) m st ow S s.heap) (ov : Over C.ex wr ex) (sr : Src C.prog C.w target tgt ds S I fp wr P Md It) (h0 : It 0 s.heap) {o0 : Obj} (hD3 : (s.heap.push o0).get? s.heap.objs.size = some o0) {h₁ : Heap}
    (hns₁ : h₁.Ns (s.heap.push o0).objs.size (fun x => ([] : List (Str × Value)).reverse.lookup x)) (hsb₁ : Heap.SameBut (s.heap.push o0).objs.size ((s.heap.push o0).push { cls := .type "dict", data := .dict #[] }) h₁) :
    h₁.get? s.heap.objs.size = some o0 ∧ FrameOk C scope s.heap.objs.size (s.heap.push o0).objs.size wr S s.heap h₁ It (initSt init st) := by
  have hz3 : (s.heap.push o0).objs.size = s.heap.objs.size + 1 := Heap.size_push ..
  have old3 : ∀ b x, s.heap.get? b = some x → (s.heap.push o0).get? b = some x := fun b x e => Heap.get?_push_of_some _ e
  generalize s.heap.push o0 = h3 at *
  have hne : s.heap.objs.size ≠ h3.objs.size := by rw [hz3]; exact Nat.ne_of_lt (Nat.lt_succ_self _)
  have newD : s.heap.get? s.heap.objs.size = none := fresh_size _
  have newL : s.heap.get? h3.objs.size = none := by
    cases q : s.heap.get? h3.objs.size with
    | none => rfl
    | some x => have := Heap.lt_size q; rw [hz3] at this; exact absurd this (Nat.not_lt.mpr (Nat.le_succ _))
  have hD1 : h₁.get? s.heap.objs.size = some o0 := hsb₁.extBut _ _ hne (Heap.get?_push_of_some _ hD3)
  have old : ∀ b x, s.heap.get? b = some x → h₁.get? b = some x := fun b x e => hsb₁.extBut b x (fun z => by rw [z, newL] at e; exact noS e) (Heap.get?_push_of_some _ (old3 b x e))
  have inw : ∀ {a : Addr}, a ∈ wr → (∃ x, s.heap.get? a = some x) ∧ S.get? a = none := fun {a} ha => by
    refine e11 (Option.isSome_iff_exists.mp (ov.all a ha)) fun x hx => ?_
    exact ⟨⟨x, (G.1.ext a x hx).1⟩, (G.1.ext a x hx).2.2⟩
  have hDw : s.heap.objs.size ∉ wr := fun z => by obtain ⟨⟨x, hx⟩, _⟩ := inw z; rw [newD] at hx; exact noS hx
  have hLw : h3.objs.size ∉ wr := fun z => by obtain ⟨⟨x, hx⟩, _⟩ := inw z; rw [newL] at hx; exact noS hx
  have SD : S.get? s.heap.objs.size = none := by
    cases q : S.get? s.heap.objs.size with
    | none => rfl
    | some x => have := G.1.stay _ _ q; rw [show s.heap.get? s.heap.objs.size = none from newD] at this; exact noS this
  have SL : S.get? h3.objs.size = none := by
    cases q : S.get? h3.objs.size with
    | none => rfl
    | some x => have := G.1.stay _ _ q; rw [show s.heap.get? h3.objs.size = none from newL] at this; exact noS this
  generalize hDd : s.heap.objs.size = D at *
  generalize hLd : h3.objs.size = L at *
  have live0 : ∀ a ∈ D :: wr, (h₁.get? a).isSome = true := fun a ha => by
    rcases List.mem_cons.mp ha with rfl | ha
    · rw [hD1]; rfl
    · obtain ⟨⟨x, hx⟩, _⟩ := inw ha; rw [old a x hx]; rfl
  have ovB : Over (baseX S h₁ L (D :: wr)) (D :: wr) (exW (baseX S h₁ L (D :: wr)) (D :: wr) h₁) :=
    ⟨fun a ha => by simp only [exW, ha, if_true]; exact live0 a ha, fun a ha => by simp [exW, ha], fun a ha => by simp [baseX, ha]⟩
  have hbase : C.h₀.StaysIn S := G.1.base
  have G0 : Good ((innerC C scope L S (baseX S h₁ L (D :: wr))).hold (exW (baseX S h₁ L (D :: wr)) (D :: wr) h₁)) (fun _ => none) (initSt init st) (fun _ => none) S h₁ := by
    refine ⟨⟨?_, StaysIn.refl S, fun b x e => old b x (G.1.stay b x e), SL, fun i a o e => (by exact noS e), fun i j a o o' e => (by exact noS e), fun a o e => ?_, ?_⟩, inner_st N O (C := C) G.2⟩
    · exact hns₁
    · rcases exW_spec a o e with ⟨z1, z2⟩ | ⟨z1, z2⟩
      · refine ⟨z2, fun z => ?_, ?_⟩
        · rcases List.mem_cons.mp z1 with y | y
          · exact hne (y.symm.trans z)
          · exact hLw ((show a = L from z) ▸ y)
        · rcases List.mem_cons.mp z1 with rfl | y
          · exact SD
          · exact (inw y).2
      · simp only [baseX, z1, if_false] at z2
        refine and2 (if_not z2) fun hh z2 => ?_
        · simp only [not_or] at hh
          refine ⟨z2, hh.2, ?_⟩
          cases q : S.get? a with
          | none => rfl
          | some x => rw [q] at hh; exact absurd rfl hh.1
    · have h1 : C.env.locals < D := by rw [← hDd]; exact Heap.Ns.lt G.1.ns
      have h2 : sysModules < C.env.locals := G.1.top
      show sysModules < L
      rw [hz3]
      exact Nat.lt_trans h2 (Nat.lt_succ_of_lt h1)
  have fpD : ∀ b ∈ fp, b ∈ wr ∨ ((S.get? b).isSome = true ∧ b ≠ D ∧ b ≠ L) := fun b hb => by
    rcases sr.fps b hb with z | z
    · exact .inl z
    · refine e11 (Option.isSome_iff_exists.mp z) fun x hx => ?_
      exact .inr ⟨z, fun y => (by rw [y, SD] at hx; exact noS hx), fun y => (by rw [y, SL] at hx; exact noS hx)⟩
  have It1 : It 0 h₁ := (sr.turns C.A O.hnd).frame _ _ _ h0 fun b _ x hx => old b x hx
  refine ⟨hD1, hDw, ovB, G0, It1, fun {S' h1 h' m' st' ow' exi} le1 G' ov' hk2 => ?_⟩
  have Gf := G'.1
  have extB : ∀ {b : Addr} {x : Obj}, b ∉ wr → s.heap.get? b = some x → S.get? b = none → exi b = some x := fun {b x} hb hx hS => by
    have hbD : b ≠ D := fun z => by rw [z, newD] at hx; exact noS hx
    have hbL : b ≠ L := fun z => by rw [z, newL] at hx; exact noS hx
    rw [ov'.off b (by simp [hbD, hb])]
    simp [baseX, hbD, hb, hS, hbL, old b x hx]
  have inwI : ∀ {b : Addr}, b ∈ D :: wr → S'.get? b = none := fun {b} hb => by
    refine e11 (Option.isSome_iff_exists.mp (ov'.all b hb)) fun x hx => ?_
    exact (Gf.ext b x hx).2.2
  refine ⟨le1, fun b x e => hk2 b x (fun z => by rw [inwI (.tail _ z)] at e; exact noS e) (Gf.stay _ _ e), ?_, hne, newD, newL, Nat.le_of_eq hDd, inwI (.head _), Gf.offL, fun b x hb hx => ?_, fun b x y hx hy => ?_⟩
  · obtain ⟨oL, es, ep, q1, q2⟩ := id Gf.ns
    exact ⟨m', oL, es, ep, hk2 L _ hLw q1, q2⟩
  · cases q : S.get? b with
    | some y =>
      have : y = x := Option.some.inj ((G.1.stay _ _ q).symm.trans hx)
      exact this ▸ hk2 b _ hb (Gf.stay _ _ (le1 _ _ q))
    | none => exact hk2 b _ hb (Gf.ext b x (extB hb hx q)).1
  · cases q : S.get? b with
    | some y => rfl
    | none =>
      by_cases hb : b ∈ wr
      · rw [inwI (.tail _ hb)] at hy; exact noS hy
      · rw [(Gf.ext b x (extB hb hx q)).2.2] at hy; exact noS hy
theorem comp_core (O : C.Ok) {scope : Scope} {init : List (Option Nat)} (N : CompNames C scope init) {elt target : Expr} {gens : List Comprehension} {pos : Pos} {pp : Pos} {tail : Value → Env → Sem Unit} {tgt : Tgt} {ds out : List PyData} {Fn : St → Ans (List PyData)} {stE : St}
    {I : Addr} {fp wr : List Addr} {P Md : Nat → Value → Heap → Prop} {It : Nat → Heap → Prop} {s : Shared} {m : Str → Option Value} {ow : Nat → Option (Addr × Obj)} {S : Heap} {ex : Addr → Option Obj} {st : St} {E : Value → Shared → Prop} {RR : Value → Addr → Result → Shared → Prop}
    (G : Good (C.hold ex) m st ow S s.heap) (ov : Over C.ex wr ex) (sr : Src C.prog C.w target tgt ds S I fp wr P Md It) (h0 : It 0 s.heap) (ht : tgtOf (relab C.env.scope.names scope.names) target = some tgt)
    (hT : ∀ it acc env, compTurn (.ListComp elt gens scope pos) 0 it acc env = (do
      standAt pp
      match ← pyNext it with
      | none => pure (.done .next)
      | some v => do letOwnedTupleGo target it v; assign target env v; tail acc env; again (.compLoop (.ListComp elt gens scope pos) 0 it acc env)))
    (hStart : ∀ it acc (A : Around) env (R : Result → Shared → Prop) s, codeAny (model C.prog C.w) A (.compLoop (.ListComp elt gens scope pos) 0 it acc env) R s → wpAny (model C.prog C.w) A (pyIter it) (fun it' s' => codeAny (model C.prog C.w) A (.compLoop (.ListComp elt gens scope pos) 0 it' acc env) R s') (notedBy (model C.prog C.w) A env fun x s' => R (.error x) s') s →
      codeAny (model C.prog C.w) A (.compStart (.ListComp elt gens scope pos) 0 it acc env) R s)
    (hF : ∀ D L ex' st l st1, D ∉ wr → Fn st = some (l, st1) → TailOk (innerC C scope L S ex') D wr (tail (.ref D) (innerC C scope L S ex').env) st l st1)
    (hc : listL Fn tgt ds (initSt init st) = some (out, stE)) (hlen : lenOk out = true)
    (hRR : ∀ D L h' tk S', Left C wr S s.heap D L out S' h' → RR (.ref D) L (.ok .next) { s with heap := h', toks := tk }) :
    wpAny (model C.prog C.w) C.A (newList []) (fun acc s₃ => wpAny (model C.prog C.w) C.A (newFunctionEnv scope C.env.globals (clOf C.env scope.names []) [] C.env.qual none .none (some C.env)) (fun cenv s₄ =>
      codeAny (model C.prog C.w) C.A (.compStart (.ListComp elt gens scope pos) 0 (.ref I) acc { cenv with scope := relabel scope C.env }) (RR acc cenv.locals) s₄) E s₃) E s := by
  refine wpAny_newObj_type (wpAny_newFunctionEnv N.nocell (by intro y hy; cases hy) (fun h₁ hns₁ hsb₁ => ?_) N.kind)
  refine and2 (frame_ok O N G ov sr h0 (Heap.get?_push_size _ rfl) hns₁ hsb₁) fun hD1 F => ?_
  have loop : ∀ tk : Nat, codeAny (model C.prog C.w) C.A (.compLoop (.ListComp elt gens scope pos) 0 (.ref I) (.ref s.heap.objs.size) (innerC C scope _ S (baseX S h₁ _ (s.heap.objs.size :: wr))).env) (RR (.ref s.heap.objs.size) _) { s with heap := h₁, toks := tk } := fun tk =>
    box_loop (C := innerC C scope _ S (baseX S h₁ _ (s.heap.objs.size :: wr))) (s := { s with heap := h₁, toks := tk }) (innerC.ok N O G.1.base) F.good F.ov sr (StaysIn.refl S) F.it F.hDw ((relabel_names O.kind).symm ▸ ht) (hT _ _ _) (fun st l st1 h => hF _ _ _ _ _ _ F.hDw h) hc (hD1 : _ = some (boxO [] 0)) .nil (by rw [List.length_nil, Nat.zero_add]; exact lenOk_le.mp hlen)
      fun m' h1 h' tk' ow' S' ex' vs' n' le G' ov' hb hr hk => hRR _ _ _ _ _ ⟨F.left le G' ov' hk, vs', n', hk _ _ F.hDw hb, hr⟩
  exact hStart _ _ _ _ _ _ (loop _) (sr.self C.A 0 _ _ _ F.it (loop _))
end
noncomputable def tail1 (ifs : List Expr) (elt : Expr) (acc : Value) (env : Env) : Sem Unit := do
  let ok ← testsOf ifs env true
  if ok = true then do
    let x ← eval elt env
    let _ ← call (.builtin "list.append") [acc, x]
    pure ()
  else pure ()
theorem turn1 {elt target iter : Expr} {ifs : List Expr} {scope : Scope} {pos : Pos} (it acc : Value) (env : Env) : compTurn (.ListComp elt [⟨target, iter, ifs, 0⟩] scope pos) 0 it acc env = (do
      standAt iter.pos
      match ← pyNext it with
      | none => pure (.done .next)
      | some v => do letOwnedTupleGo target it v; assign target env v; tail1 ifs elt acc env; again (.compLoop (.ListComp elt [⟨target, iter, ifs, 0⟩] scope pos) 0 it acc env)) := by
  rw [compTurn_list]
  congr 1; funext _
  congr 1; funext r
  cases r with
  | none => rfl
  | some v =>
    show (letOwnedTupleGo target it v >>= _) = (letOwnedTupleGo target it v >>= _)
    congr 1; funext _
    show (assign target env v >>= _) = (assign target env v >>= _)
    congr 1; funext _
    unfold tail1
    rw [bind_assoc]
    show (testsOf ifs env true >>= _) = (testsOf ifs env true >>= _)
    congr 1; funext ok
    cases ok with
    | true =>
      simp only [if_true, bind_assoc, pure_bind]
    | false =>
      simp only [Bool.false_eq_true, if_false, pure_bind]
theorem compL_listL {f : St → Ans (Option PyData)} {tgt : Tgt} : ∀ {ds : List PyData} {st st' : St} {l : List PyData}, compL f tgt ds st = some (l, st') → listL (fun st => bd (f st) fun o st => some (o.toList, st)) tgt ds st = some (l, st')
  | [], st, st', l, h => by exact h
  | d :: r, st, st', l, h => by
    refine e44 (compL_some h) fun st1 o st2 l2 h1 h2 h3 eq1 => ?_; subst eq1
    rw [listL, step, h1]
    show bd2 (bd (f st1) _) (listL _ tgt r) app2 = _
    rw [h2]
    show bd (listL _ tgt r st2) (app2 o.toList) = _
    rw [compL_listL h3]
    rfl
theorem tail_ok {C : Cx} {D : Addr} {wr : List Addr} {ifs : List Expr} {elt : Expr} {st st' : St} {o : Option PyData} (hD : D ∉ wr) (h : ∀ ex, ItemOk (C.hold ex) ifs elt st o st') : TailOk C D wr (tail1 ifs elt (.ref D) C.env) st o.toList st' := by
  intro E s m ow S ex vs n l1 Q G ov hb hr hlen K
  obtain ⟨b, st4, htest, hor⟩ := h ex
  refine wpAny_bind (htest _ s _ _ _ _ G fun bv h6 t6 ow6 S6 le6 G6 rbv => ?_)
  subst rbv
  have hD6 : ∀ {m6 st6 ow6 S6 h6}, Good (C.hold ex) m6 st6 ow6 S6 h6 → h6.get? D = some (boxO vs n) := fun {m6 st6 ow6 S6 h6} G6 => by
    refine e11 (Option.isSome_iff_exists.mp (ov.all D (.head _))) fun x hx => ?_
    have h1 := (G.1.ext D x hx).1
    have h2 := (G6.1.ext D x hx).1
    rw [hb] at h1
    obtain rfl := Option.some.inj h1
    exact h2
  rcases hor with ⟨rfl, d', rfl, helt⟩ | ⟨rfl, rfl, rfl⟩
  · refine wpAny_bind (helt _ { s with heap := h6, toks := t6 } _ _ _ _ G6 fun xv h7 t7 ow7 S7 le7 G7 rxv => wpAny_bind ?_)
    refine app_box (s := { s with heap := h7, toks := t7 }) (hD6 G7) (by rw [hr.length]; simp at hlen; exact leE hlen rfl) fun h8 n' hbox8 hs8 => wpAny_pure ?_
    have G8 := Good.kinds (C := C) (ex := ex) G7 (G7.1.walk ov (fun b x hb z => (hs8.2 b fun y => hb (by simp [y])).trans z) (exW_spec (h' := h8)))
    have live8 : ∀ a ∈ D :: wr, (h8.get? a).isSome = true := fun a ha => by
      by_cases hz : a = D
      · rw [hz, hbox8]; rfl
      · rw [hs8.2 a hz]
        refine e11 (Option.isSome_iff_exists.mp (ov.all a ha)) fun x hx => ?_
        rw [(G7.1.ext a x hx).1]; rfl
    refine K m h8 t7 ow7 S7 _ (vs ++ [xv]) n' (tr le6 le7) G8 (ov.turn live8) (fun b hb' => ?_) hbox8 ((hr.keeps (tr le6 le7)).snoc rxv)
    have hbD : b ≠ D := fun z => hD (z ▸ hb')
    simp only [exW, List.mem_cons, hb', or_true, if_true]
    rw [hs8.2 b hbD]
    refine e11 (Option.isSome_iff_exists.mp (ov.all b (.tail _ hb'))) fun x hx => ?_
    rw [hx]
    exact (G7.1.ext b x hx).1
  · refine wpAny_pure (K m h6 t6 ow6 S6 ex vs n le6 G6 ov (fun _ _ => rfl) (hD6 G6) ?_)
    simpa using hr.keeps le6
section
variable {C : Cx} {st st1 st2 : St}
theorem Left0.back {m : Str → Option Value} {ow : Nat → Option (Addr × Obj)} {S h : Heap} {ex : Addr → Option Obj} {wr : List Addr} {D L : Addr} {S' h' h'' : Heap} (G : Good (C.hold ex) m st ow S h) (ov : Over C.ex wr ex) (l : Left0 C wr S h D L S' h') (hs : Heap.SameBut L h' h'') : Good C m st ow S' h'' := by
  refine ⟨G.1.adoptW ov l.le (fun b x e => (hs.2 b fun z => ?_).trans (l.st b x e)) (fun b x hb e => (hs.2 b fun z => ?_).trans (l.keep b x hb e)) l.no (fun a x e => .inr ⟨fun z => ?_, e⟩), G.2.keeps l.le⟩
  · rw [z, l.offL] at e; exact noS e
  · rw [z, l.newL] at e; exact noS e
  · have := ov.no a z
    rw [e] at this; exact sNo this
theorem untracked {m : Str → Option Value} {ow : Nat → Option (Addr × Obj)} {S h : Heap} {ex : Addr → Option Obj} {wr : List Addr} (G : Good (C.hold ex) m st ow S h) (ov : Over C.ex wr ex) {a : Addr} (hn : h.get? a = none) : a ≠ C.env.locals ∧ (∀ i x, ow i ≠ some (a, x)) ∧ C.ex a = none := by
  refine ⟨fun z => ?_, fun i x e => ?_, ?_⟩
  · obtain ⟨oL, _, _, hL, _⟩ := id G.1.ns
    have hL' : h.get? C.env.locals = some oL := hL
    rw [z, hL'] at hn; exact sNo hn
  · rw [(G.1.own i a x e).1] at hn; exact sNo hn
  · cases q : C.ex a with
    | none => rfl
    | some x =>
      have ha : a ∉ wr := fun z => by have := ov.no a z; rw [q] at this; exact sNo this
      have := (G.1.ext a x (by show ex a = _; rw [ov.off a ha]; exact q)).1
      rw [hn] at this; exact noS this
set_option tactic.hygienic true in
theorem outK_some {st : St} {o : Ans (List PyData)} {d : PyData} {st' : St} (h : outK st o = some (d, st')) : ∃ l stE, o = some (l, stE) ∧ lenOk l = true ∧ d = .list l ∧ st' = st := by
  unfold outK at h
  split at h
  · split at h
    · rename_i l stE hl
      obtain ⟨rfl, rfl⟩ := some2 h
      exact ⟨l, stE, rfl, hl, rfl, rfl⟩
    · exact noS h
  · exact noS h
theorem CompNames.hnames {scope : Scope} {init : List (Option Nat)} (N : CompNames C scope init) : ∀ x ∈ scope.names, x.2 = .local → scope.names.lookup x.1 = some .local := fun x hx e => by
  obtain ⟨y, k⟩ := x
  simp only at e
  subst e
  exact mem_lookup N.nod hx
theorem Left.value {m : Str → Option Value} {ow : Nat → Option (Addr × Obj)} {S h : Heap} {ex : Addr → Option Obj} {wr : List Addr} {D L : Addr} {out : List PyData} {S' h' h'' : Heap} (G : Good (C.hold ex) m st ow S h) (ov : Over C.ex wr ex) (l : Left C wr S h D L out S' h') (hs : Heap.SameBut L h' h'') (hl : lenOk out = true) :
    ∃ S'', S'.StaysIn S'' ∧ Good C m st ow S'' h'' ∧ RD S'' (.ref D) (.list out) := by
  have G1 := l.toLeft0.back G ov hs
  refine and3 (untracked G ov l.newD) fun u1 u2 u3 => ?_
  refine e22 l.box fun vs n hb hr => ?_
  have hb' : h''.get? D = some (boxO vs n) := (hs.2 D l.ne).trans hb
  refine e13 (G1.1.see1 hb' u1 u2 u3) fun S'' le I hS => ?_
  exact ⟨S'', le, ⟨I, G1.2.keeps le⟩, .list ⟨_, hS, rfl, n, rfl⟩ (hr.keeps le) hl⟩
theorem Inv.holdIn {h₀ h : Heap} {L : Addr} {m : Str → Option Value} {own : Nat → Option (Addr × Obj)} {ex : Addr → Option Obj} {S : Heap} (I : Inv h₀ L m own ex S h) {a : Addr} {o : Obj} (e : h.get? a = some o) (hL : a ≠ L) (ho : ∀ i x, own i ≠ some (a, x)) (hS : S.get? a = none) :
    Inv h₀ L m own (add ex (some (a, o))) S h := by
  refine ⟨I.ns, I.base, I.stay, I.offL, fun j b x q => ?_, I.inj, fun b x q => ?_, I.top⟩
  · have q' := I.own j b x q
    have hb : b ≠ a := fun z => ho j x (z ▸ q)
    exact ⟨q'.1, q'.2.1, q'.2.2.1, by simp only [add, hb, if_false]; exact q'.2.2.2⟩
  · by_cases hb : b = a
    · subst hb
      simp only [add, if_true, Option.some.injEq] at q
      subst q
      exact ⟨e, hL, hS⟩
    · simp only [add, hb, if_false] at q
      exact I.ext b x q
end
section
variable {C : Cx} {st st1 st2 : St}
noncomputable def tail2 (e : Expr) (iter2 : Expr) (acc : Value) (env : Env) : Sem Unit := do
  let x ← eval iter2 env
  standAt iter2.pos
  let x ← foldedSetIterable iter2 env x
  let it ← holding [x] (pyIter x)
  let _ ← runOwn (.compStart e 1 it acc env) env
  pure ()
theorem turn2 {elt target iter target2 iter2 : Expr} {scope : Scope} {pos : Pos} (it acc : Value) (env : Env) : compTurn (.ListComp elt [⟨target, iter, [], 0⟩, ⟨target2, iter2, [], 0⟩] scope pos) 0 it acc env = (do
      standAt iter.pos
      match ← pyNext it with
      | none => pure (.done .next)
      | some v => do letOwnedTupleGo target it v; assign target env v; tail2 (.ListComp elt [⟨target, iter, [], 0⟩, ⟨target2, iter2, [], 0⟩] scope pos) iter2 acc env; again (.compLoop (.ListComp elt [⟨target, iter, [], 0⟩, ⟨target2, iter2, [], 0⟩] scope pos) 0 it acc env)) := by
  unfold compTurn tail2
  simp only [bind_assoc, pure_bind]
  rfl
theorem turn3 {elt target iter target2 iter2 : Expr} {scope : Scope} {pos : Pos} (it acc : Value) (env : Env) : compTurn (.ListComp elt [⟨target, iter, [], 0⟩, ⟨target2, iter2, [], 0⟩] scope pos) 1 it acc env = (do
      standAt iter2.pos
      match ← pyNext it with
      | none => pure (.done .next)
      | some v => do letOwnedTupleGo target2 it v; assign target2 env v; tail1 [] elt acc env; again (.compLoop (.ListComp elt [⟨target, iter, [], 0⟩, ⟨target2, iter2, [], 0⟩] scope pos) 1 it acc env)) := by
  have e : tail1 [] elt acc env = (do
      let x ← eval elt env
      let _ ← call (.builtin "list.append") [acc, x]
      pure ()) := rfl
  rfl
theorem start2 {prog : Program} {w : World} {A : Around} {R : Result → Shared → Prop} {s : Shared} {elt target iter target2 iter2 : Expr} {scope : Scope} {pos : Pos} {it acc : Value} {env : Env}
    (h0 : codeAny (model prog w) A (.compLoop (.ListComp elt [⟨target, iter, [], 0⟩, ⟨target2, iter2, [], 0⟩] scope pos) 1 it acc env) R s)
    (h : wpAny (model prog w) A (pyIter it) (fun it' s' => codeAny (model prog w) A (.compLoop (.ListComp elt [⟨target, iter, [], 0⟩, ⟨target2, iter2, [], 0⟩] scope pos) 1 it' acc env) R s') (notedBy (model prog w) A env fun x s' => R (.error x) s') s) :
    codeAny (model prog w) A (.compStart (.ListComp elt [⟨target, iter, [], 0⟩, ⟨target2, iter2, [], 0⟩] scope pos) 1 it acc env) R s := by
  refine codeAny_of_tree (wpAny_notedAt (m := compStart (.ListComp elt [⟨target, iter, [], 0⟩, ⟨target2, iter2, [], 0⟩] scope pos) 1 it acc env) ?_)
  refine wpAny_bind (m := ask) (wpAny_askSetting (wpAny_ite ?_))
  split
  · exact wpAny_pure (And.intro rfl h0)
  · exact wpAny_bind (wpAny_rule (wpAny_bind (m := standAt iter2.pos) (wpAny_standAt (wpAny_bind (wpAny_mono h (fun it' s' h' => wpAny_pure (And.intro rfl h')) fun _ _ x => x)))))
end
section
variable {C : Cx} {st st1 st2 : St}
open Classical in
noncomputable def lessD (ex : Addr → Option Obj) (D : Addr) : Addr → Option Obj := fun a => if a = D then none else ex a
theorem tail2_ok (O : C.Ok) {D : Addr} {wr : List Addr} (hD : D ∉ wr) {elt target iter target2 iter2 : Expr} {scope : Scope} {pos : Pos} {tgt2 : Tgt} {ds2 l : List PyData} {Fn : St → Ans (Option PyData)} (hs2 : ∀ x, foldedSetIterable iter2 C.env x = pure x)
    (src : ∀ ex, SrcP (C.hold ex) target2 tgt2 iter2 st ds2 st1) (ht2 : tgtOf C.env.scope.names target2 = some tgt2) (hF : ∀ ex st o st1, Fn st = some (o, st1) → ItemOk (C.hold ex) [] elt st o st1) (hc : compL Fn tgt2 ds2 st1 = some (l, st2)) :
    TailOk C D wr (tail2 (.ListComp elt [⟨target, iter, [], 0⟩, ⟨target2, iter2, [], 0⟩] scope pos) iter2 (.ref D) C.env) st l st2 := by
  intro E s m ow S ex vs n l1 Q G ov hb hr hlen K
  unfold tail2
  refine wpAny_bind (wpAny_mono (src ex E s m ow S (fun it s2 => wpAny (model C.prog C.w) C.A (runOwn (.compStart (.ListComp elt [⟨target, iter, [], 0⟩, ⟨target2, iter2, [], 0⟩] scope pos) 1 it (.ref D) C.env) C.env >>= fun _ => pure ()) Q E s2) G fun I fp wr2 P Md It h' tk ow' S' ex2 le sr g ov2 st0 => ?_)
    (fun x s1 hx => wpAny_bind (wpAny_standAt (wpAny_bind (wpAny_of_eq (hs2 x) (wpAny_bind (wpAny_holding (wpAny_mono hx (fun it s2 hq => hq) fun _ _ z => z))))))) fun _ _ z => z)
  have hexD : ∃ x, ex D = some x := Option.isSome_iff_exists.mp (ov.all D (.head _))
  refine e11 hexD fun xD hxD => ?_
  have hDw2 : D ∉ wr2 := fun z => by have : ex D = none := ov2.no D z; rw [hxD] at this; exact sNo this
  have hex2D : ex2 D = some xD := (ov2.off D hDw2).trans hxD
  have hbx : xD = boxO vs n := Option.some.inj ((G.1.ext D xD hxD).1.symm.trans hb)
  have hb' : h'.get? D = some (boxO vs n) := hbx ▸ (g.1.ext D xD hex2D).1
  have ov3 : Over (lessD ex D) (D :: wr2) ex2 := by
    refine ⟨fun a ha => ?_, fun a ha => ?_, fun a ha => ?_⟩
    · rcases List.mem_cons.mp ha with rfl | ha
      · rw [hex2D]; rfl
      · exact ov2.all a ha
    · have h1 : a ≠ D := fun z => ha (by simp [z])
      have h2 : a ∉ wr2 := fun z => ha (by simp [z])
      rw [ov2.off a h2]
      simp [lessD, h1, Cx.hold]
    · rcases List.mem_cons.mp ha with rfl | ha
      · simp [lessD]
      · have h1 : a ≠ D := fun z => hDw2 (z ▸ ha)
        simp only [lessD, h1, if_false]
        exact ov2.no a ha
  have loop : codeAny (model C.prog C.w) C.A (.compLoop (.ListComp elt [⟨target, iter, [], 0⟩, ⟨target2, iter2, [], 0⟩] scope pos) 1 (.ref I) (.ref D) C.env) (fun r s' => match r with
      | .ok f => wpAny (model C.prog C.w) C.A (pure ()) Q E s'
      | .error e => cameBackBy (model C.prog C.w) C.A C.env E e s') { s with heap := h', toks := tk } := by
    refine box_loop (C := C.hold (lessD ex D)) (O.hold _) (pp := iter2.pos) (tail := tail1 [] elt (.ref D) C.env) (S₀ := S') (Fn := fun st => bd (Fn st) fun o st => some (o.toList, st)) (s := { s with heap := h', toks := tk }) g ov3 sr (StaysIn.refl S') st0 hDw2 ht2 (turn3 _ _ _)
      (fun st l st1 hh => ?_) (compL_listL hc) hb' (hr.keeps le) hlen fun m6 h6 h7 t7 ow7 S7 ex7 vs7 n7 le7 G7 ov7 hb7 hr7 hk7 => ?_
    · refine e22 (bd_some hh) fun o st4 h3 h4 => ?_
      obtain ⟨rfl, rfl⟩ := some2 h4
      exact tail_ok hDw2 fun ex => hF ex _ _ _ h3
    · have old : ∀ a ∈ wr, ∃ y, ex a = some y ∧ h7.get? a = some y ∧ a ∉ D :: wr2 ∧ lessD ex D a = some y := fun a ha => by
        refine e11 (Option.isSome_iff_exists.mp (ov.all a (.tail _ ha))) fun y hy => ?_
        have h1 : a ≠ D := fun z => hD (z ▸ ha)
        have h2 : a ∉ wr2 := fun z => by have : ex a = none := ov2.no a z; rw [hy] at this; exact sNo this
        have h3 : a ∉ D :: wr2 := fun z => by
          rcases List.mem_cons.mp z with z | z
          · exact h1 z
          · exact h2 z
        have h4 : lessD ex D a = some y := by simp only [lessD, h1, if_false]; exact hy
        have h5 : ex7 a = some y := (ov7.off a h3).trans h4
        exact ⟨y, hy, hk7 a y h2 (G7.1.ext a y h5).1, h3, h4⟩
      have hbD : h7.get? D = some (boxO vs7 n7) := hk7 D _ hDw2 hb7
      have GF : Good (C.hold (exW C.ex (D :: wr) h7)) m6 st2 ow7 S7 h7 := by
        refine ⟨G7.1.walk ov7 (fun b x hb z => hk7 b x (fun y => hb (.tail _ y)) z) fun a x e => ?_, G7.2⟩
        rcases exW_spec a x e with ⟨z1, z2⟩ | ⟨z1, z2⟩
        · rcases List.mem_cons.mp z1 with rfl | z1
          · exact .inl ⟨.head _, z2⟩
          · refine e14 (old a z1) fun y q1 q2 q3 q4 => ?_
            rw [q2] at z2
            obtain rfl := Option.some.inj z2
            exact .inr ⟨q3, q4⟩
        · have h1 : a ≠ D := fun z => z1 (by simp [z])
          have h2 : ex a = some x := (ov.off a z1).trans z2
          have h3 : a ∉ wr2 := fun z => by have : ex a = none := ov2.no a z; rw [h2] at this; exact sNo this
          exact .inr ⟨fun z => by
            rcases List.mem_cons.mp z with z | z
            · exact h1 z
            · exact h3 z, by simp only [Cx.hold, lessD, h1, if_false]; exact h2⟩
      have liveF : ∀ a ∈ D :: wr, (h7.get? a).isSome = true := fun a ha => by
        rcases List.mem_cons.mp ha with rfl | ha
        · rw [hbD]; rfl
        · refine e13 (old a ha) fun y q1 q2 _ => ?_
          rw [q2]; rfl
      refine wpAny_pure (K m6 h7 t7 ow7 S7 _ vs7 n7 (tr le le7) GF (ov.turn liveF) (fun b hb' => ?_) hbD hr7)
      refine e13 (old b hb') fun y q1 q2 _ => ?_
      simp only [exW, List.mem_cons, hb', or_true, if_true]
      rw [q1, q2]
  exact wpAny_bind (wpAny_runOwn (start2 loop (sr.self C.A 0 _ _ _ st0 loop)))
theorem comp2L_some {g : St → Ans PyData} {f : St → Ans PyData} {t t2 : Nat} : ∀ {ds : List PyData} {st st' : St} {l : List PyData}, comp2L (comp2F g f t2) t ds st = some (l, st') → listL (comp2F g f t2) (.one t) ds st = some (l, st')
  | [], st, st', l, h => by exact h
  | d :: r, st, st', l, h => by
    refine e43 (bd2_some h) fun l1 st1 l2 st2 h1 h2 h3 => ?_
    show bd2 (step _ _ _ _) _ _ = _
    rw [h1]
    show bd (listL _ _ _ _) _ = _
    rw [comp2L_some h2]
    exact h3
theorem comp2F_some {g : St → Ans PyData} {f : St → Ans PyData} {t2 : Nat} {st st' : St} {l : List PyData} (h : comp2F g f t2 st = some (l, st')) : ∃ x st1 ds2, g st = some (x, st1) ∧ itemsOf x = some ds2 ∧ compL (oneF f) (.one t2) ds2 st1 = some (l, st') := by
  refine e22 (bd_some h) fun x st1 h1 h2 => ?_
  unfold innK at h2
  split at h2
  · exact ⟨x, st1, _, h1, by assumption, h2⟩
  · exact noS h2
theorem comp2_block (O : C.Ok) {scope : Scope} {init : List (Option Nat)} (N : CompNames C scope init) {target iter target2 iter2 elt : Expr} {pos : Pos} {t t2 : Nat} {ds out : List PyData} {g f : St → Ans PyData} {stE : St}
    {I : Addr} {fp wr : List Addr} {P Md : Nat → Value → Heap → Prop} {It : Nat → Heap → Prop} {s : Shared} {m : Str → Option Value} {ow : Nat → Option (Addr × Obj)} {S : Heap} {ex : Addr → Option Obj} {st : St} {E : Value → Shared → Prop} {RR : Value → Addr → Result → Shared → Prop}
    (G : Good (C.hold ex) m st ow S s.heap) (ov : Over C.ex wr ex) (sr : Src C.prog C.w target (.one t) ds S I fp wr P Md It) (h0 : It 0 s.heap) (ht : tgtOf (relab C.env.scope.names scope.names) target = some (.one t)) (ht2 : tgtOf (relab C.env.scope.names scope.names) target2 = some (.one t2)) (hn2 : isName target2 = true)
    (hs2 : ∀ (env : Env) x, foldedSetIterable iter2 env x = pure x)
    (hg : ∀ L S ex' st x st1, C.h₀.StaysIn S → g st = some (x, st1) → EvE (innerC C scope L S ex') iter2 st x st1) (hf : ∀ L S ex' st x st1, C.h₀.StaysIn S → f st = some (x, st1) → EvE (innerC C scope L S ex') elt st x st1)
    (hc : comp2L (comp2F g f t2) t ds (initSt init st) = some (out, stE)) (hlen : lenOk out = true)
    (hRR : ∀ D L h' tk S', Left C wr S s.heap D L out S' h' → RR (.ref D) L (.ok .next) { s with heap := h', toks := tk }) :
    wpAny (model C.prog C.w) C.A (newList []) (fun acc s₃ => wpAny (model C.prog C.w) C.A (newFunctionEnv scope C.env.globals (clOf C.env scope.names []) [] C.env.qual none .none (some C.env)) (fun cenv s₄ =>
      codeAny (model C.prog C.w) C.A (.compStart (.ListComp elt [⟨target, iter, [], 0⟩, ⟨target2, iter2, [], 0⟩] scope pos) 0 (.ref I) acc { cenv with scope := relabel scope C.env }) (RR acc cenv.locals) s₄) E s₃) E s := by
  have hbase : C.h₀.StaysIn S := G.1.base
  refine comp_core (pp := iter.pos) (tail := tail2 (.ListComp elt [⟨target, iter, [], 0⟩, ⟨target2, iter2, [], 0⟩] scope pos) iter2) O N G ov sr h0 ht (fun it acc env => turn2 it acc env) (fun it acc A env R s h0 h1 => codeAny_compStart_list h0 h1) (fun D L ex' st l st1 hD hh => ?_) (comp2L_some hc) hlen hRR
  refine e33 (comp2F_some hh) fun x st3 ds2 q1 q2 q3 => ?_
  have hnames : (innerC C scope L S ex').env.scope.names = relab C.env.scope.names scope.names := relabel_names O.kind
  refine tail2_ok (innerC.ok N O hbase) hD (tgt2 := .one t2) (Fn := oneF f) (hs2 _) (fun ex2 => src_it ((innerC.ok N O hbase).hold ex2) hn2 (hg L S ex2 _ _ _ hbase q1) q2) (hnames ▸ ht2) (fun ex2 st o st4 hh2 => ?_) q3
  refine e22 (bd_some hh2) fun d st5 q4 q5 => ?_
  obtain ⟨rfl, rfl⟩ := some2 q5
  exact ⟨true, st, a_nil, .inl ⟨rfl, d, rfl, hf L S ex2 _ _ _ hbase q4⟩⟩
end
section
variable {C : Cx} {st st1 st2 : St}
noncomputable def BlockOk (C : Cx) (scope : Scope) (elt : Expr) (gens : List Comprehension) (pos : Pos) (target : Expr) (tgt : Tgt) (ds : List PyData) (st : St) (out : List PyData) : Prop :=
  ∀ (I : Addr) (fp wr : List Addr) (P Md : Nat → Value → Heap → Prop) (It : Nat → Heap → Prop) (s : Shared) (m : Str → Option Value) (ow : Nat → Option (Addr × Obj)) (S : Heap) (ex : Addr → Option Obj) (E : Value → Shared → Prop) (RR : Value → Addr → Result → Shared → Prop),
    Good (C.hold ex) m st ow S s.heap → Over C.ex wr ex → Src C.prog C.w target tgt ds S I fp wr P Md It → It 0 s.heap →
    (∀ D L h' tk S', Left C wr S s.heap D L out S' h' → RR (.ref D) L (.ok .next) { s with heap := h', toks := tk }) →
    wpAny (model C.prog C.w) C.A (newList []) (fun acc s₃ => wpAny (model C.prog C.w) C.A (newFunctionEnv scope C.env.globals (clOf C.env scope.names []) [] C.env.qual none .none (some C.env)) (fun cenv s₄ =>
      codeAny (model C.prog C.w) C.A (.compStart (.ListComp elt gens scope pos) 0 (.ref I) acc { cenv with scope := relabel scope C.env }) (RR acc cenv.locals) s₄) E s₃) E s
theorem block1 (O : C.Ok) {scope : Scope} {init : List (Option Nat)} (N : CompNames C scope init) {target iter elt : Expr} {ifs : List Expr} {pos : Pos} {tgt : Tgt} {ds : List PyData} {Fn : St → Ans (Option PyData)} {d : PyData}
    (ht : tgtOf (relab C.env.scope.names scope.names) target = some tgt) (hF : ∀ L S ex' st o st1, C.h₀.StaysIn S → Fn st = some (o, st1) → ItemOk (innerC C scope L S ex') ifs elt st o st1) (e : compK init Fn tgt ds st = some (d, st1)) :
    ∃ out, d = .list out ∧ st1 = st ∧ lenOk out = true ∧ BlockOk C scope elt [⟨target, iter, ifs, 0⟩] pos target tgt ds st out := by
  refine e24 (outK_some e) fun out stE hc hlen eq1 eq2 => ?_; subst eq1; subst eq2
  refine ⟨out, rfl, rfl, hlen, fun I fp wr P' Md It s m ow S ex E RR g ov sr st0 K => ?_⟩
  exact comp_core (pp := iter.pos) (tail := tail1 ifs elt) (Fn := fun st => bd (Fn st) fun o st => some (o.toList, st)) O N g ov sr st0 ht (fun it acc env => turn1 it acc env) (fun it acc A env R s h0 h1 => codeAny_compStart_list h0 h1)
    (fun D L ex' st l st1 hD hh => (by refine e22 (bd_some hh) fun o st4 h3 h4 => ?_; cases h4; exact tail_ok hD fun ex => hF L S ex st o st1 g.1.base h3)) (compL_listL hc) hlen K
theorem block2 (O : C.Ok) {scope : Scope} {init : List (Option Nat)} (N : CompNames C scope init) {target iter target2 iter2 elt : Expr} {pos : Pos} {t t2 : Nat} {ds : List PyData} {g f : St → Ans PyData} {d : PyData}
    (ht : tgtOf (relab C.env.scope.names scope.names) target = some (.one t)) (ht2 : tgtOf (relab C.env.scope.names scope.names) target2 = some (.one t2)) (hn2 : isName target2 = true) (hs2 : ∀ (env : Env) x, foldedSetIterable iter2 env x = pure x)
    (hg : ∀ L S ex' st x st1, C.h₀.StaysIn S → g st = some (x, st1) → EvE (innerC C scope L S ex') iter2 st x st1) (hf : ∀ L S ex' st x st1, C.h₀.StaysIn S → f st = some (x, st1) → EvE (innerC C scope L S ex') elt st x st1)
    (e : comp2K init (comp2F g f t2) t ds st = some (d, st1)) : ∃ out, d = .list out ∧ st1 = st ∧ lenOk out = true ∧ BlockOk C scope elt [⟨target, iter, [], 0⟩, ⟨target2, iter2, [], 0⟩] pos target (.one t) ds st out := by
  refine e24 (outK_some e) fun out stE hc hlen eq1 eq2 => ?_; subst eq1; subst eq2
  exact ⟨out, rfl, rfl, hlen, fun I fp wr P' Md It s m ow S ex E RR G ov sr st0 K => comp2_block O N G ov sr st0 ht ht2 hn2 hs2 hg hf hc hlen K⟩
theorem r_comp (O : C.Ok) {scope : Scope} {init : List (Option Nat)} (N : CompNames C scope init) {target iter elt : Expr} {ifs : List Expr} {gs : List Comprehension} {pos : Pos} {tgt : Tgt} {ds out : List PyData} (hs : ∀ x, foldedSetIterable iter C.env x = pure x)
    (src : SrcP C target tgt iter st ds st1) (B : BlockOk C scope elt (⟨target, iter, ifs, 0⟩ :: gs) pos target tgt ds st1 out) (hlen : lenOk out = true) : EvE C (.ListComp elt (⟨target, iter, ifs, 0⟩ :: gs) scope pos) st (.list out) st1 := by
  intro E s m ow S Q G P
  refine wpAny_comprehension_free (use := none) rfl hs (closureFor_of fun x hx => N.free O hx) N.kind N.hnames (src _ _ _ _ _ _ G fun I fp wr P' Md It h' tk ow' S' ex le sr g ov st0 => ?_)
  refine B I fp wr P' Md It { s with heap := h', toks := tk } m ow' S' ex E (fun acc C' => compPost (model C.prog C.w) C.A E none Q acc C') g ov sr st0 fun D L h2 t2 S2 l => ?_
  refine e11 l.ns fun mL hL => ?_
  refine ⟨mL, hL, fun h3 hs3 => ?_⟩
  refine e13 (l.value g ov hs3 hlen) fun S3 le3 G3 r3 => ?_
  exact P _ h3 t2 ow' S3 (tr le (tr l.le le3)) G3 r3
theorem s_asgC (O : C.Ok) {scope : Scope} {init : List (Option Nat)} (N : CompNames C scope init) {target iter elt : Expr} {ifs : List Expr} {gs : List Comprehension} {pos p spos : Pos} {tgt : Tgt} {ds out : List PyData} {x : Str} {i : Nat} (hs : ∀ x, foldedSetIterable iter C.env x = pure x)
    (src : SrcP C target tgt iter st ds st1) (B : BlockOk C scope elt (⟨target, iter, ifs, 0⟩ :: gs) pos target tgt ds st1 out) (hlen : lenOk out = true) (X : NameOk C x i .local)
    (hsw : swapsWith (.ListComp elt (⟨target, iter, ifs, 0⟩ :: gs) scope pos) (some (.Name x p)) spos.line C.env = pure true) : EvS C (PySem.exec (.Assign [.Name x p] (.ListComp elt (⟨target, iter, ifs, 0⟩ :: gs) scope pos) spos) C.env) st none (st1.put i (.ol out)) := by
  intro E s m ow S Q G P
  rw [exec_Assign_Name_used _ _ _ _ hsw]
  refine wpAny_bind (wpAny_standAt (wpAny_bind ?_))
  refine wpAny_bind (wpAny_mono (wpAny_comprehension_free (use := some (assign (.Name x p) C.env)) (Q := fun _ s' => Q .next s') rfl hs (closureFor_of fun x hx => N.free O hx) N.kind N.hnames (src _ _ _ _ _ _ G fun I fp wr P' Md It h' tk ow' S' ex le sr g ov st0 => ?_))
    (fun _ s' hq => wpAny_pure (wpAny_pure hq)) fun _ _ e => e)
  refine B I fp wr P' Md It { s with heap := h', toks := tk } m ow' S' ex E (fun acc C' => compPost (model C.prog C.w) C.A E (some (assign (.Name x p) C.env)) (fun _ s' => Q .next s') acc C') g ov sr st0 fun D L h2 t2 S2 l => ?_
  obtain ⟨mL, oL, es, ep, hL1, hL2⟩ := l.ns
  have G1 := l.toLeft0.back g ov (Heap.SameBut.refl L h2)
  refine and3 (untracked g ov l.newD) fun u1 u2 u3 => ?_
  refine and3 (untracked g ov l.newL) fun w1 w2 w3 => ?_
  refine e22 l.box fun vs n hb hr => ?_
  have I1 := G1.1.holdIn hL1 w1 w2 l.offL
  have I2 := I1.holdIn hb u1 u2 l.offD
  have f2 : Fresh (C.hold (add C.ex (some (L, oL)))).ex (some (D, boxO vs n)) := by
    show add C.ex (some (L, oL)) D = none
    simp only [add, l.ne, if_false]; exact u3
  refine assign_Name (bindN (C := C.hold (add C.ex (some (L, oL)))) (s := { s with heap := h2, toks := t2 }) (O.hold _) (oo := some (D, boxO vs n)) (sl := .ol out) ⟨I2, G1.2⟩ ⟨X.pos, X.dbg, X.cls⟩ ⟨D, vs, n, rfl, rfl, hr, hlen⟩ f2 fun m3 h3 t3 ow3 G3 => ?_)
  have hL3 : h3.get? L = some oL := (G3.1.ext L oL (by simp [Cx.hold, add])).1
  refine ⟨mL, ⟨oL, es, ep, hL3, hL2⟩, fun h4 hs4 => ?_⟩
  have ov4 : Over C.ex [L] (add C.ex (some (L, oL))) := ⟨fun a ha => by rw [List.mem_singleton.mp ha]; simp [add], fun a ha => by
    have : a ≠ L := fun z => ha (by simp [z])
    simp [add, this], fun a ha => by rw [List.mem_singleton.mp ha]; exact w3⟩
  exact P _ m3 h4 t3 ow3 S2 (tr le l.le) ⟨G3.1.walk ov4 (fun b y hb' e => (hs4.2 b fun z => hb' (by simp [z])).trans e) (ex0_spec ov4), G3.2⟩ rfl
end
theorem perm_one {α : Type} {l vs : List α} (h : l.Perm vs) (hl : vs.length ≤ 1) : l = vs := by
  cases vs with
  | nil => exact List.perm_nil.mp h
  | cons v r => cases r with
    | nil => exact List.perm_singleton.mp h
    | cons => exact absurd (Nat.le_of_succ_le_succ hl) (Nat.not_succ_le_zero _)
theorem sorted_one {prog : Program} {w : World} {A : Around} {E : Value → Shared → Prop} {s : Shared} {d : Addr} {kvs : List (Str × Value)} {ep : Nat} {Q : Value → Shared → Prop} (hh : A.handled = none) (lo : (d == sysModules) = false) (hat : s.heap.DictAt (PySem.strKind prog w) d kvs ep) (h1 : kvs.length ≤ 1)
    (q : ∀ B h' tk vs n, s.heap.StaysIn h' → s.heap.get? B = none → h'.get? B = some (boxO vs n) → vs.length = kvs.length → (∀ (j : Nat) (v : Value), vs[j]? = some v → ∃ k x, kvs[j]? = some (k, x) ∧ (PySem.strKind prog w).is k v = true) → Q (.ref B) { s with heap := h', toks := tk }) :
    wpAny (model prog w) A (call (.builtin "sorted") [.ref d]) Q E s := by
  refine Calls.call_function_entry kind_sorted plain_sorted entry_sorted (args_sorted1 _) ?_
  unfold Builtin.«sorted»
  refine wpAny_bind (m := checkCount "sorted" 1 1 _) (wpAny_pure ?_)
  refine wpAny_bind (kdu_collect (A := A.in1) (kdl_dict (knd := PySem.strKind prog w) (kvs := kvs) (ep := ep) lo) hh hat (by rw [sizeLine_eq]; exact leE h1 rfl) fun h' tk acc hk hacc => ?_)
  have hlen : acc.toList.length = kvs.length := by exact hacc.1
  have hval : ∀ (j : Nat) (v : Value), acc.toList[j]? = some v → ∃ k x, kvs[j]? = some (k, x) ∧ (PySem.strKind prog w).is k v = true := fun j v e => hacc.2 j v (by rw [← Array.getElem?_toList]; exact e)
  generalize acc.toList = vs at *
  refine wpAny_bind (wpAny_newList ?_ (by rw [hlen, sizeLine_eq]; exact leE h1 rfl))
  have hoL : (h'.push { cls := .type "list", data := .seq vs.toArray }).get? h'.objs.size = some (seqObj "list" vs.toArray 0) := Heap.get?_push_size _ rfl
  have hkeys : KeysOf PyProof.Rows.strKind (pairsOf vs) := fun p hp => by
    rw [pairsOf_toList] at hp
    refine e11 (List.getElem?_of_mem hp) fun j hj => ?_
    rw [List.getElem?_zip_eq_some] at hj
    refine e22 (hval j p.1 hj.1) fun k x _ hkx => ?_
    refine e11 (Value.isStrOf_shape hkx) fun t ht => ?_
    rw [ht]
    exact ⟨_, rfl⟩
  refine wpAny_bind (wpAny_holding (wpAny_call_entry slot_list_sort ⟨_, hoL, rfl⟩ entry_list_sort (list_sort_treeK (κ := PyProof.Rows.strKind) strKind_oneLt (s := { s with heap := h'.push { cls := .type "list", data := .seq vs.toArray }, toks := tk }) hoL hkeys (fun v₁ v₂ rest e => ?_) (by exact nlt (fk (c2 kvs.length vs.length) [(1, .var 0, .num 1), (1, .var 1, .var 0), (1, .num 64, .var 1)] rfl (nl h1) (ne hlen))) fun st' a1 a2 => ⟨_, rfl, ?_⟩) (args_list_sort _)))
  · rw [e] at hlen
    simp at hlen
    exact (fk (c2 kvs.length rest.length) [(1, .var 0, .num 1), (1, .add (.add (.var 1) (.num 1)) (.num 1), .var 0), (1, .num 0, .var 1)] rfl (nl h1) (ne hlen) (n0 rest.length)).elim
  · refine wpAny_pure ⟨_, rfl, ?_⟩
    have hout : ((arrOf st').map (·.2)).toList = vs := by
      have hp := a1.toList
      rw [pairsOf_toList] at hp
      rw [Array.toList_map]
      have hq := hp.map (·.2)
      rw [List.map_snd_zip (Nat.le_refl _)] at hq
      exact perm_one hq (eqL hlen h1)
    have hnew : s.heap.get? h'.objs.size = none := by
      cases e : s.heap.get? h'.objs.size with
      | none => rfl
      | some o => exact absurd (Heap.lt_size (hk _ _ e)) (Nat.lt_irrefl _)
    obtain ⟨n', hn'⟩ : ∃ n', (sortedHeap (h'.push { cls := .type "list", data := .seq vs.toArray }) h'.objs.size vs ((arrOf st').map (·.2))).get? h'.objs.size = some (boxO vs n') := by
      refine e11 (sortedHeap_at (out := (arrOf st').map (·.2)) hoL) fun n' hn' => ?_
      have e : (arrOf st').map (·.2) = vs.toArray := Array.toList_inj.mp hout
      refine ⟨n', hn'.trans ?_⟩
      rw [e]; rfl
    refine q h'.objs.size _ _ vs n' (fun b o e => ?_) hnew hn' hlen hval
    have hb : b ≠ h'.objs.size := fun z => by rw [z, hnew] at e; exact noS e
    rw [sortedHeap_old hb (by rw [Heap.size_push]; exact Nat.lt_succ_of_lt (Heap.lt_size (hk _ _ e)))]
    exact Heap.get?_push_of_some _ (hk _ _ e)
noncomputable def DRep (prog : Program) (w : World) (o : Obj) (acc : PyData) : Prop := ∃ kvs : List (Str × Value), o.IsDictOf (PySem.strKind prog w) kvs ∧ acc = .list (kvs.map fun p => .str p.1) ∧ kvs.length ≤ 1 ∧ ∀ p ∈ kvs, PyData.strOk p.1 = true
theorem DRep.nil {prog : Program} {w : World} : DRep prog w { cls := .type "dict", data := .dict #[] } (.list []) := ⟨[], ⟨#[], 0, ⟨rfl, rfl, rfl⟩, rfl, (fun e he => by simp at he), .nil, List.nodup_nil⟩, rfl, by simp, fun p hp => by cases hp⟩
theorem stored_same {x : Str} {u v : Value} : stored [(x, u)] x v = [(x, v)] := by simp [stored]
theorem drep_set {prog : Program} {w : World} {A : Around} {E : Value → Shared → Prop} {s : Shared} {D : Addr} {o : Obj} {acc acc' : PyData} {x : Str} {t : Tok} {v : Value} {Q : Unit → Shared → Prop} (hg : s.heap.get? D = some o) (r : DRep prog w o acc) (hp : putKey acc (.str x) = some acc') (hx : PyData.strOk x = true)
    (q : ∀ h' o', h'.get? D = some o' → DRep prog w o' acc' → Heap.SameBut D s.heap h' → Q () { s with heap := h', toks := s.toks + 1 }) : wpAny (model prog w) A (dictSet D (.str x t) v) Q E s := by
  obtain ⟨kvs, hd, rfl, hl, hs⟩ := r
  refine wpAny_dictSet_pairs (knd := PySem.strKind prog w) (k := x) (strKind_is prog w x t) (Heap.dictOf_iff.mpr ⟨o, hg, hd⟩) fun h' hm hsb => ?_
  refine e12 (Heap.dictOf_iff.mp hm) fun o' ho' hd' => ?_
  refine q h' o' ho' ⟨_, hd', ?_, ?_, ?_⟩ hsb
  all_goals cases kvs with
    | nil =>
      obtain rfl := Option.some.inj hp
      first | rfl | exact Nat.le_refl _ | exact fun p h => by cases h with
        | head => exact hx
        | tail _ h => cases h
    | cons p r =>
      cases r with
      | cons => exact absurd (Nat.le_of_succ_le_succ hl) (Nat.not_succ_le_zero _)
      | nil =>
        refine and2 (if_some hp) fun eq1 eq2 => ?_; obtain rfl := Option.some.inj eq2; subst eq1
        first | (rw [stored_same]; rfl) | (rw [stored_same]; exact Nat.le_refl _) | (rw [stored_same]; exact fun q hq => by cases hq with
          | head => exact hs p (.head _)
          | tail _ h => cases h)
structure LeftD (C : Cx) (wr : List Addr) (S h : Heap) (D L : Addr) (acc : PyData) (S' h' : Heap) : Prop extends Left0 C wr S h D L S' h' where
  box : ∃ o, h'.get? D = some o ∧ DRep C.prog C.w o acc
noncomputable def tailD (key c : Expr) (kc : Nat) (cp : Pos) (D : Addr) (env : Env) : Sem Unit := do
  let ok ← testsOf [c] env true
  if ok = true then do
    let kv ← eval key env
    let vv ← holding [kv] (eval (.Constant (.bool true) kc cp) env)
    standAt { key.pos with endLine := (Expr.Constant (.bool true) kc cp).pos.endLine, endCol := (Expr.Constant (.bool true) kc cp).pos.endCol }
    holding [kv, vv] (dictSet D kv vv)
  else pure ()
theorem turnD {key c target iter : Expr} {kc : Nat} {cp : Pos} {scope : Scope} {pos : Pos} (it : Value) (D : Addr) (env : Env) : compTurn (.DictComp key (.Constant (.bool true) kc cp) [⟨target, iter, [c], 0⟩] scope pos) 0 it (.ref D) env = (do
      standAt iter.pos
      match ← pyNext it with
      | none => pure (.done .next)
      | some v => do letOwnedTupleGo target it v; assign target env v; tailD key c kc cp D env; again (.compLoop (.DictComp key (.Constant (.bool true) kc cp) [⟨target, iter, [c], 0⟩] scope pos) 0 it (.ref D) env)) := by
  rw [compTurn_dict]
  congr 1; funext _
  congr 1; funext r
  cases r with
  | none => rfl
  | some v =>
    show (letOwnedTupleGo target it v >>= _) = (letOwnedTupleGo target it v >>= _)
    congr 1; funext _
    show (assign target env v >>= _) = (assign target env v >>= _)
    congr 1; funext _
    unfold tailD
    rw [bind_assoc]
    show (testsOf [c] env true >>= _) = (testsOf [c] env true >>= _)
    congr 1; funext ok
    cases ok with
    | true => simp only [if_true, bind_assoc]
    | false => simp only [Bool.false_eq_true, if_false, pure_bind]
theorem comp_turnsD {prog : Program} {w : World} {A : Around} {R : Result → Shared → Prop} {s : Shared} {key c target iter : Expr} {kc : Nat} {cp : Pos} {scope : Scope} {pos : Pos} {it : Value} {D : Addr} {env : Env} (I : Nat → Shared → Prop)
    (turn : ∀ n s, I n s → ∀ (Q5 Qn : Shared → Prop) (X : Value → Shared → Prop), (∀ m s, m < n → I m s → Q5 s) → (∀ s, R (.ok .next) s → Qn s) → wpAny (model prog w) A (pyNext it) (fun r s₁ => match r with
      | none => Qn s₁
      | some v => wpAny (model prog w) A (letOwnedTupleGo target it v) (fun _ s₀ => wpAny (model prog w) A (assign target env v) (fun _ s₂ =>
          wpAny (model prog w) A (tailD key c kc cp D env) (fun _ s₅ => Q5 s₅) X s₂) X s₀) X s₁) X s)
    (n : Nat) (h : I n s) : codeAny (model prog w) A (.compLoop (.DictComp key (.Constant (.bool true) kc cp) [⟨target, iter, [c], 0⟩] scope pos) 0 it (.ref D) env) R s := by
  refine codeAny_loop rfl I (fun n s hI => ?_) n h
  refine wpAny_noted (m := compTurn (.DictComp key (.Constant (.bool true) kc cp) [⟨target, iter, [c], 0⟩] scope pos) 0 it (.ref D) env) ?_
  rw [turnD]
  refine wpAny_bind (wpAny_standAt (wpAny_bind (wpAny_mono (turn n s hI (fun s => ∃ m, m < n ∧ I m s) (fun s => R (.ok .next) s) (notedBy (model prog w) A env fun e s' => R (.error e) s') (fun m s h1 h2 => ⟨m, h1, h2⟩) fun _ h => h) (fun r s₁ h₁ => ?_) fun _ _ z => z)))
  match r, h₁ with
  | none, h₁ => exact wpAny_pure h₁
  | some v, h₁ => exact wpAny_bind (wpAny_mono h₁ (fun _ s₀ h₀ => wpAny_bind (wpAny_mono h₀ (fun _ s₂ h₂ => wpAny_bind (wpAny_mono h₂ (fun _ s₃ h₃ => wpAny_pure ⟨rfl, h₃⟩) fun _ _ z => z)) fun _ _ z => z)) fun _ _ z => z)
section
variable {C : Cx} {st st1 st2 : St}
inductive DictInv (C : Cx) (wr : List Addr) (D : Addr) (s : Shared) (S : Heap) (It : Nat → Heap → Prop) (rest : Nat → PyData → St → Prop) (n : Nat) : Nat → Shared → Prop where
  | mk (h' : Heap) (tk : Nat) (m' : Str → Option Value) (ow' : Nat → Option (Addr × Obj)) (S' : Heap) (st1 : St) (exi : Addr → Option Obj) (i : Nat) (o : Obj) (a1 : PyData) (hst : It i h') (le : S.StaysIn S') (G : Good (C.hold exi) m' st1 ow' S' h') (ov : Over C.ex (D :: wr) exi)
    (hl : rest i a1 st1) (hb : h'.get? D = some o) (hr : DRep C.prog C.w o a1) (hi : i ≤ n) : DictInv C wr D s S It rest n (n + 1 - i) { s with heap := h', toks := tk }
set_option tactic.hygienic true in
theorem dict_loop (O : C.Ok) {scope : Scope} {key iter target c : Expr} {kc : Nat} {cp pos : Pos} {i0 : Nat} {ds : List PyData} {a0 acc : PyData} {cF kF : St → Ans PyData}
    {I D : Addr} {fp wr : List Addr} {P Md : Nat → Value → Heap → Prop} {It : Nat → Heap → Prop} {s : Shared} {m : Str → Option Value} {ow : Nat → Option (Addr × Obj)} {S S₀ : Heap} {ex : Addr → Option Obj} {st : St} {R : Result → Shared → Prop} {o : Obj}
    (G : Good (C.hold ex) m st ow S s.heap) (ov : Over C.ex (D :: wr) ex) (sr : Src C.prog C.w target (.one i0) ds S₀ I fp wr P Md It) (le0 : S₀.StaysIn S) (h0 : It 0 s.heap) (hDw : D ∉ wr) (ht : tgtOf C.env.scope.names target = some (.one i0))
    (hcT : ∀ ex' st b st1, cF st = some (.bool b, st1) → EvT (C.hold ex') c st b st1) (hkE : ∀ ex' st x st1, kF st = some (x, st1) → EvE (C.hold ex') key st x st1)
    (hc : sdcL (sdcF cF kF) i0 ds a0 st = some acc) (hb : s.heap.get? D = some o) (hr : DRep C.prog C.w o a0)
    (hR : ∀ m' h1 h' tk ow' S' st' ex' o', S.StaysIn S' → Good (C.hold ex') m' st' ow' S' h1 → Over C.ex (D :: wr) ex' → h1.get? D = some o' → DRep C.prog C.w o' acc → (∀ b x, b ∉ wr → h1.get? b = some x → h'.get? b = some x) → R (.ok .next) { s with heap := h', toks := tk }) :
    codeAny (model C.prog C.w) C.A (.compLoop (.DictComp key (.Constant (.bool true) kc cp) [⟨target, iter, [c], 0⟩] scope pos) 0 (.ref I) (.ref D) C.env) R s := by
  have fpD : ∀ b ∈ fp, b ∈ wr ∨ (S.get? b).isSome = true := fun b hb => by
    rcases sr.fps b hb with z | z
    · exact .inl z
    · refine e11 (Option.isSome_iff_exists.mp z) fun x hx => ?_
      exact .inr (by rw [le0 _ _ hx]; rfl)
  refine comp_turnsD
    (DictInv C wr D s S It (fun i a1 st1 => sdcL (sdcF cF kF) i0 (ds.drop i) a1 st1 = some acc) ds.length) ?_ (ds.length + 1)
    (.mk s.heap s.toks m ow S st ex 0 o a0 h0 (StaysIn.refl S) G ov hc hb hr (Nat.zero_le _))
  rintro k s' ⟨h', tk, m', ow', S', st1, exi, i, o, a1, hst', le1, G', ov', e', hbox, hrd, hi⟩ Q5 Qn X f5 fn
  by_cases hlt : i < ds.length
  · refine (sr.turns C.A O.hnd).item i _ _ _ hlt hst' fun v h2 t2 hMd hk2 => ?_
    refine (sr.turns C.A O.hnd).go i v _ _ _ hMd fun h4 hP hst4 hk4 => ?_
    have hk : ∀ b x, b ∉ wr → h'.get? b = some x → h4.get? b = some x := fun b x hb z => hk4 b x hb (hk2 b x hb z)
    have hbox4 : h4.get? D = some o := hk D _ hDw hbox
    have live4 : ∀ a ∈ D :: wr, (h4.get? a).isSome = true := fun a ha => by
      rcases List.mem_cons.mp ha with rfl | ha
      · rw [hbox4]; rfl
      · exact sr.live _ _ hst4 a ha
    have G4 := G'.kinds (G'.1.walk ov' (fun b x hb z => hk b x (fun y => hb (.tail _ y)) z) (exW_spec (h' := h4)))
    have ov4 := ov'.turn live4
    refine e12 (sr.item i v h4 S' hlt (tr le0 le1) hP) fun d hd hit => ?_
    have hdr : ds.drop i = d :: ds.drop (i + 1) := by
      obtain ⟨q1, q2⟩ := List.getElem?_eq_some_iff.mp hd
      rw [List.drop_eq_getElem_cons q1, q2]
    rw [hdr] at e'
    rw [sdcL] at e'
    have keep : ∀ {S5 h5 : Heap} {m5 ow5 st5 exi5}, S'.StaysIn S5 → Good (C.hold exi5) m5 st5 ow5 S5 h5 → (∀ b ∈ wr, ∀ x, h4.get? b = some x → exi5 b = some x) → It (i + 1) h5 := by
      intro S5 h5 m5 ow5 st5 exi5 le5 G5 hx5
      refine (sr.turns C.A O.hnd).frame _ _ _ hst4 fun b hb x hx => ?_
      rcases fpD b hb with z | z
      · exact (G5.1.ext b x (hx5 b z x hx)).1
      · refine e11 (Option.isSome_iff_exists.mp z) fun y hy => ?_
        have hy' := le1 _ _ hy
        have : y = x := Option.some.inj ((G4.1.stay _ _ hy').symm.trans hx)
        exact this ▸ G5.1.stay _ _ (le5 _ _ hy')
    refine (show wpAny (model C.prog C.w) C.A (assign target C.env v) _ _ { s with heap := h4, toks := t2 } from ?_)
    refine bind_tgt (C := C.hold (exW C.ex (D :: wr) h4)) (O.hold _) ht G4 hit rfl fun m5 h5 t5 ow5 G5 => ?_
    have keepx : ∀ b ∈ wr, ∀ x, h4.get? b = some x → exW C.ex (D :: wr) h4 b = some x := fun b hb x hx => by
      simp only [exW, List.mem_cons, hb, or_true, if_true]; exact hx
    have boxx : ∀ {m6 st6 ow6 S6 h6}, Good (C.hold (exW C.ex (D :: wr) h4)) m6 st6 ow6 S6 h6 → h6.get? D = some o := fun {m6 st6 ow6 S6 h6} G6 =>
      (G6.1.ext D o (by show exW _ _ _ D = _; simp only [exW, List.mem_cons, true_or, if_true]; exact hbox4)).1
    unfold tailD
    unfold sdcF iteK at e'
    split at e'
    · exact noS e'
    · rename_i st3 hF
      split at hF
      · rename_i st4 hcv
        refine e22 (bd_some hF) fun d' st5 q1 q2 => ?_
        exact noP q2
      · rename_i st4 hcv
        cases hF
        refine wpAny_bind (a_cons (hcT (exW C.ex (D :: wr) h4) _ _ _ hcv) ⟨rfl, rfl⟩ _ { s with heap := h5, toks := t5 } _ _ _ _ G5 fun bv h6 t6 ow6 S6 le6 G6 rbv => ?_)
        subst rbv
        exact wpAny_ite_neg Bool.false_ne_true (wpAny_pure (f5 (ds.length + 1 - (i + 1)) _ (by exact dec1 hi) (.mk h6 t6 m5 ow6 S6 st3 _ (i + 1) o a1 (keep le6 G6 keepx) (tr le1 le6) G6 ov4 e' (boxx G6) hrd hlt)))
      · exact noS hF
    · rename_i k st3 hF
      split at hF
      · rename_i st4 hcv
        refine e22 (bd_some hF) fun d' st5 q1 q2 => ?_
        cases q2
        split at e'
        · exact noS e'
        · rename_i a2 hput
          refine wpAny_bind (a_cons (hcT (exW C.ex (D :: wr) h4) _ _ _ hcv) a_nil _ { s with heap := h5, toks := t5 } _ _ _ _ G5 fun bv h6 t6 ow6 S6 le6 G6 rbv => ?_)
          subst rbv
          refine wpAny_ite_pos rfl (wpAny_bind (hkE (exW C.ex (D :: wr) h4) _ _ _ q1 _ { s with heap := h6, toks := t6 } _ _ _ _ G6 fun kv h7 t7 ow7 S7 le7 G7 rk => ?_))
          obtain ⟨x, rfl⟩ : ∃ x, k = .str x := by
            unfold putKey at hput
            split at hput <;> first | exact ⟨_, rfl⟩ | exact noS hput
          obtain ⟨⟨tk', rfl⟩, hxok⟩ := rk.str_inv
          refine wpAny_bind (wpAny_holding (wpAny_Constant_bool (wpAny_bind (wpAny_standAt (wpAny_holding ?_)))))
          refine drep_set (s := { s with heap := h7, toks := t7 }) (boxx G7) hrd hput hxok fun h8 o8 hbox8 hrd8 hs8 => ?_
          have G8 := Good.kinds (C := C) (ex := exW C.ex (D :: wr) h4) G7 (G7.1.walk ov4 (fun b x hb z => (hs8.2 b fun y => hb (by simp [y])).trans z) (exW_spec (h' := h8)))
          have live8 : ∀ a ∈ D :: wr, (h8.get? a).isSome = true := fun a ha => by
            by_cases hz : a = D
            · rw [hz, hbox8]; rfl
            · rw [hs8.2 a hz]
              refine e11 (Option.isSome_iff_exists.mp (ov4.all a ha)) fun x hx => ?_
              rw [(G7.1.ext a x hx).1]; rfl
          refine f5 (ds.length + 1 - (i + 1)) _ (by exact dec1 hi) (.mk h8 _ m5 ow7 S7 st3 _ (i + 1) o8 a2 (keep (tr le6 le7) G8 (fun b hb x hx => ?_)) (tr le1 (tr le6 le7)) G8 (ov4.turn live8) e' hbox8 hrd8 hlt)
          have hbD : b ≠ D := fun z => hDw (z ▸ hb)
          simp only [exW, List.mem_cons, hb, or_true, if_true]
          rw [hs8.2 b hbD]
          exact (G7.1.ext b x (keepx b hb x hx)).1
      · exact nPo hF
      · exact noS hF
  · have hin : i = ds.length := by exact Nat.le_antisymm (nle (fk (c2 i ds.length) [(1, .var 0, .var 1), (1, .add (.var 1) (.num 1), .var 0)] rfl (nl hi))) (nle (fk (c2 i ds.length) [(1, .var 1, .var 0), (1, .add (.var 0) (.num 1), .var 1)] rfl (nl (Nat.not_lt.mp hlt))))
    subst hin
    refine (sr.turns C.A O.hnd).done _ _ _ hst' fun h2 t2 hk2 => ?_
    rw [List.drop_length, sdcL] at e'
    obtain rfl := Option.some.inj e'
    exact fn _ (hR m' h' h2 t2 ow' S' st1 exi o le1 G' ov' hbox hrd hk2)
theorem comp_coreD (O : C.Ok) {scope : Scope} {init : List (Option Nat)} (N : CompNames C scope init) {key iter target c : Expr} {kc : Nat} {cp pos : Pos} {i0 : Nat} {ds : List PyData} {acc : PyData} {cF kF : St → Ans PyData} 
    {I : Addr} {fp wr : List Addr} {P Md : Nat → Value → Heap → Prop} {It : Nat → Heap → Prop} {s : Shared} {m : Str → Option Value} {ow : Nat → Option (Addr × Obj)} {S : Heap} {ex : Addr → Option Obj} {st : St} {E : Value → Shared → Prop} {RR : Value → Addr → Result → Shared → Prop}
    (G : Good (C.hold ex) m st ow S s.heap) (ov : Over C.ex wr ex) (sr : Src C.prog C.w target (.one i0) ds S I fp wr P Md It) (h0 : It 0 s.heap) (ht : tgtOf (relab C.env.scope.names scope.names) target = some (.one i0)) (hn : isName target = true)
    (hcT : ∀ L ex' st b st1, cF st = some (.bool b, st1) → EvT (innerC C scope L S ex') c st b st1) (hkE : ∀ L ex' st x st1, kF st = some (x, st1) → EvE (innerC C scope L S ex') key st x st1)
    (hc : sdcL (sdcF cF kF) i0 ds (.list []) (initSt init st) = some acc)
    (hRR : ∀ D L h' tk S', LeftD C wr S s.heap D L acc S' h' → RR (.ref D) L (.ok .next) { s with heap := h', toks := tk }) :
    wpAny (model C.prog C.w) C.A (newDict) (fun acc' s₃ => wpAny (model C.prog C.w) C.A (newFunctionEnv scope C.env.globals (clOf C.env scope.names []) [] C.env.qual none .none (some C.env)) (fun cenv s₄ =>
      codeAny (model C.prog C.w) C.A (.compStart (.DictComp key (.Constant (.bool true) kc cp) [⟨target, iter, [c], 0⟩] scope pos) 0 (.ref I) acc' { cenv with scope := relabel scope C.env }) (RR acc' cenv.locals) s₄) E s₃) E s := by
  refine wpAny_newObj_type (wpAny_newFunctionEnv N.nocell (by intro y hy; cases hy) (fun h₁ hns₁ hsb₁ => ?_) N.kind)
  refine and2 (frame_ok O N G ov sr h0 (Heap.get?_push_size _ rfl) hns₁ hsb₁) fun hD1 F => ?_
  have loop : ∀ tk : Nat, codeAny (model C.prog C.w) C.A (.compLoop (.DictComp key (.Constant (.bool true) kc cp) [⟨target, iter, [c], 0⟩] scope pos) 0 (.ref I) (.ref s.heap.objs.size) (innerC C scope _ S (baseX S h₁ _ (s.heap.objs.size :: wr))).env) (RR (.ref s.heap.objs.size) _) { s with heap := h₁, toks := tk } := fun tk =>
    dict_loop (C := innerC C scope _ S (baseX S h₁ _ (s.heap.objs.size :: wr))) (s := { s with heap := h₁, toks := tk }) (innerC.ok N O G.1.base) F.good F.ov sr (StaysIn.refl S) F.it F.hDw ((relabel_names O.kind).symm ▸ ht) (fun ex' => hcT _ ex') (fun ex' => hkE _ ex') hc hD1 DRep.nil
      fun m' h1 h' tk' ow' S' st' ex' o' le G' ov' hb hr hk => hRR _ _ _ _ _ ⟨F.left le G' ov' hk, o', hk _ _ F.hDw hb, hr⟩
  exact codeAny_compStart_dict (loop _) (sr.self C.A 0 _ _ _ F.it (loop _))
end
theorem strs_rd {prog : Program} {w : World} {S : Heap} : ∀ {kvs : List (Str × Value)} {vs : List Value}, vs.length = kvs.length → (∀ (j : Nat) (v : Value), vs[j]? = some v → ∃ k x, kvs[j]? = some (k, x) ∧ (PySem.strKind prog w).is k v = true) → (∀ p ∈ kvs, PyData.strOk p.1 = true) → RDs S vs (kvs.map fun p => .str p.1)
  | [], vs, hl, _, _ => by
    cases vs with
    | nil => exact .nil
    | cons => simp at hl
  | (x, y) :: r, vs, hl, h, hs => by
    cases vs with
    | nil => simp at hl
    | cons v vs =>
      refine e22 (h 0 v rfl) fun k z h1 h2 => ?_
      simp only [List.getElem?_cons_zero, Option.some.injEq, Prod.mk.injEq] at h1
      refine and2 h1 fun eq1 eq2 => ?_; subst eq1; subst eq2
      refine e11 (Value.isStrOf_shape h2) fun t eq1 => ?_; subst eq1
      exact .cons (.str t (hs _ (.head _))) (strs_rd (by simpa using hl) (fun j v e => h (j + 1) v e) fun p hp => hs p (.tail _ hp))
section
variable {C : Cx} {st st1 st2 : St} {fa : FN → Addr} {gt : Str → Option GV}
theorem r_sdc (O : C.Ok) (T : PK C.w C.K fa gt) {scope : Scope} {init : List (Option Nat)} (N : CompNames C scope init) {x : Str} {p pos cpos cp : Pos} {kc i0 : Nat} {key iter target c : Expr} {ds : List PyData} {acc : PyData} {cF kF : St → Ans PyData}
    (hx : globOf gt C.env.scope.names x = some (.bf .sorted)) (hs : ∀ x, foldedSetIterable iter C.env x = pure x) (src : SrcP C target (.one i0) iter st ds st1) (ht : tgtOf (relab C.env.scope.names scope.names) target = some (.one i0)) (hn : isName target = true)
    (hcT : ∀ L S ex' st b st1, C.h₀.StaysIn S → cF st = some (.bool b, st1) → EvT (innerC C scope L S ex') c st b st1) (hkE : ∀ L S ex' st x st1, C.h₀.StaysIn S → kF st = some (x, st1) → EvE (innerC C scope L S ex') key st x st1)
    (hc : sdcL (sdcF cF kF) i0 ds (.list []) (initSt init st1) = some acc) :
    EvE C (.Call (.Name x p) [.DictComp key (.Constant (.bool true) kc cp) [⟨target, iter, [c], 0⟩] scope cpos] [] pos) st acc st1 := by
  intro E s m ow S Q G P
  refine e14 (globOf_some hx) fun i h1 h2 h3 h4 => ?_
  refine and2 (T.bf x _ h4) fun k1 k2 => ?_
  refine wpAny_Call_NameR (name_built O G h1 h2 (by simpa using h3) k1 k2 (callV .sorted rfl (spliced_more ?_ rfl)))
  refine wpAny_comprehension_free (use := none) rfl hs (closureFor_of fun x hx => N.free O hx) N.kind N.hnames (src _ _ _ _ _ _ G fun I fp wr P' Md It h' tk ow' S' ex le sr g ov st0 => ?_)
  refine comp_coreD (s := { s with heap := h', toks := tk }) O N g ov sr st0 ht hn (fun L ex' st b st1 hh => hcT L S' ex' st b st1 g.1.base hh) (fun L ex' st b st1 hh => hkE L S' ex' st b st1 g.1.base hh) hc (RR := fun acc C' => compPost (model C.prog C.w) C.A E none _ acc C') fun D L h2 t2 S2 l => ?_
  refine e11 l.ns fun mL hL => ?_
  refine ⟨mL, hL, fun h3 hs3 => Calls.spliced_nil ?_⟩
  have G3 := l.toLeft0.back g ov hs3
  obtain ⟨o, hb, kvs, ⟨es, ep, q1, q2, q3, q4, q5⟩, rfl, hl, hso⟩ := l.box
  have hb3 : h3.get? D = some o := (hs3.2 D l.ne).trans hb
  have hlo : (D == sysModules) = false := by
    have h5 := g.big
    cases e : (D == sysModules) with
    | false => rfl
    | true =>
      have e' : D = sysModules := by simpa using e
      exact absurd (Nat.lt_of_lt_of_le (show sysModules < h'.objs.size from h5) l.big) (by rw [e']; exact Nat.lt_irrefl _)
  refine sorted_one (s := { s with heap := h3, toks := t2 }) O.hnd hlo ⟨o, es, hb3, q1, q2, q3, q4, q5⟩ hl fun B h5 t5 vs n k5 hn5 hB hlen hv => ?_
  refine e13 (G3.seeAll k5) fun S6 le6 G6 hS6 => ?_
  refine P _ h5 t5 ow' S6 (tr le (tr l.le le6)) G6 (.list ⟨_, hS6 _ _ hn5 hB, rfl, n, rfl⟩ (strs_rd hlen hv hso) ?_)
  exact lenOk_le.mpr (by rw [List.length_map]; exact leE hl rfl)
end
theorem keyStr_some {o : Option Expr} {x : Str} (h : keyStr o = some x) : ∃ k p, o = some (.Constant (.str x) k p) ∧ PyData.strOk x = true := by
  refine bindE h fun e he h2 => ?_
  subst he
  cases e with
  | Constant c k p => cases c with
    | str s => exact and2 (if_some h2) fun hs h3 => Option.some.inj h3 ▸ ⟨k, p, rfl, hs⟩
    | _ => exact noS h2
  | _ => exact noS h2
noncomputable def plainE : Expr → Bool
  | .Starred .. => false
  | .Slice .. => false
  | .Set .. => false
  | _ => true
theorem plain_all {e : Expr} (h : plainE e = true) : isStarE e = false ∧ notSlice e = true ∧ (∀ op, behindInMarks op e = false) ∧ ∀ env x, foldedSetIterable e env x = pure x := by
  cases e <;> first | exact ⟨rfl, rfl, fun _ => rfl, fun _ _ => rfl⟩ | exact fTr h
theorem plain_star {e : Expr} {r : List Expr} (h : plainE e = true) : starOk (e :: r) = starOk r := by
  show (!isStarE e && starOk r) = starOk r
  rw [(plain_all h).1]
  rfl
theorem plain_slice {e : Expr} (h : plainE e = true) : notSlice e = true := (plain_all h).2.1
theorem plain_marks {e : Expr} (h : plainE e = true) (op : CmpOp) : behindInMarks op e = false := (plain_all h).2.2.1 op
theorem plain_fold {e : Expr} (h : plainE e = true) (env : Env) (x : Value) : foldedSetIterable e env x = pure x := (plain_all h).2.2.2 env x
structure Wld (C : Cx) (K : Or) (fa : FN → Addr) (gt : Str → Option GV) : Prop where
  ok : C.Ok
  T : PK C.w C.K fa gt
  calls : CallsOk C.prog C.w C.K fa C.n K
  take : TakeOk C.prog C.w C.K C.n (fa 492) K
section
variable {C : Cx} {K : Or} {fa : FN → Addr} {gt : Str → Option GV} {st st1 st2 : St}
theorem Wld.hold (W : Wld C K fa gt) (ex : Addr → Option Obj) : Wld (C.hold ex) K fa gt := ⟨W.ok.hold ex, W.T, W.calls, W.take⟩
theorem Wld.inner (W : Wld C K fa gt) {scope : Scope} {init : List (Option Nat)} (N : CompNames C scope init) {L : Addr} {S : Heap} {ex : Addr → Option Obj} (hS : C.h₀.StaysIn S) : Wld (innerC C scope L S ex) K fa gt := ⟨innerC.ok N W.ok hS, W.T, W.calls, W.take⟩
theorem inner_names (O : C.Ok) {scope : Scope} {L : Addr} {S : Heap} {ex : Addr → Option Obj} : (innerC C scope L S ex).env.scope.names = relab C.env.scope.names scope.names := relabel_names O.kind
theorem t_isN {e : Expr} {k : Nat} {p pos : Pos} {d : PyData} {b : Bool} (h : EvE C e st d st1) (hd : isNK d st1 = some (.bool b, st2)) : EvT C (.Compare e [.Is] [.Constant .none k p] pos) st b st2 := by
  intro E s m ow S Q G P
  refine wpAny_isTrue_Compare1 (h _ _ _ _ _ _ G fun a h1 t1 ow1 S1 le1 G1 ra => wpAny_Constant_none ?_) rfl
  unfold isNK at hd
  split at hd
  · cases hd
    rw [ra.none_inv]
    exact wpAny_pure (wpAny_truthy_bool (P _ h1 t1 ow1 S1 le1 G1 rfl))
  · cases hd
    obtain ⟨a, vs, rfl, -⟩ := ra.tuple_inv
    exact wpAny_pure (wpAny_truthy_bool (P _ h1 t1 ow1 S1 le1 G1 rfl))
  · exact noS hd
end
section
open Classical
variable {C : Cx} {st st1 st2 : St}
set_option tactic.hygienic true in
theorem t_inv (O : C.Ok) {x : Str} {i : Nat} {k : NameKind} {p pos : Pos} (N : NameOk C x i k) {a : Expr} {y : PyData} {c : Bool} (hb : EvE C a st y st1) (e : inK i y st1 = some (.bool c, st2)) :
    EvT C (.Compare a [.In] [.Name x p] pos) st c st2 := by
  intro E s m ow S Q G P
  refine wpAny_isTrue_Compare1 (hb _ _ _ _ _ _ G fun u h2 t2 ow2 S2 le2 G2 rb => ?_) rfl
  unfold inK at e
  split at e
  · rename_i kvs hz
    refine and2 (if_some e) fun hk e => ?_
    · cases e
      obtain ⟨a, o, xs, n, rfl, hm, ho, hg, hE, hd, D, hnd, hle, hlen, hsm, hkv⟩ := G2.dict N hz
      refine name_any O G2 N hm ?_
      obtain ⟨b, rfl, hk1, hk2, as, hra⟩ := keyRD rb hk
      have hm := D.ofH G2.1.stay hg hE hd hnd
      have hu : (dk C.prog C.w).room C.A.in1 := by show C.A.units + 1 + 128 < cLine; have := O.unt; exact nlt (fk (c3 C.A.units C.n cLine) [(1, .add (.add (.add (.var 0) (.mulL 8 (.var 1))) (.num 256)) (.num 1), .var 2), (8, .num 0, .var 1), (1, .var 2, .add (.add (.var 0) (.num 1)) (.num 128))] rfl (nt this) (n0 C.n))
      refine wpAny_in_heap (k := (⟨y, hk1, hk2⟩ : DK)) hu ⟨as, Reads.keeps G2.1.stay hra⟩ (by simpa using hsm) hm ?_
      rw [← look_isSome (k := ⟨y, hk1, hk2⟩) D]
      exact wpAny_truthy_bool (P _ h2 _ ow2 S2 le2 G2 rfl)
  · rename_i z hz
    have sl := G2.slot (posOf_get N.pos).1
    rw [hz] at sl
    obtain ⟨v', hv', r⟩ := sl
    unfold cmpK boolK at e
    split at e
    · rename_i c' hc
      cases e
      exact name_any O G2 N hv' (op_cmp C O G2 rb r hc fun v h3 t3 ow3 S3 le3 G3 r3 => by rw [r3]; exact wpAny_truthy_bool (P _ h3 t3 ow3 S3 (tr le2 le3) G3 rfl))
    · exact noS e
  · exact noS e
end
section
variable (K : Or) (fa : FN → Addr) (gt : Str → Option GV) (f : Nat)
noncomputable def SE : Prop := ∀ (C : Cx), Wld C K fa gt → ∀ e ce, strip gt f C.env.scope.names e = some ce →
  plainE e = true ∧ (∀ st d st1, ev K ce st = some (d, st1) → EvE C e st d st1) ∧ (∀ st b st1, ev K ce st = some (.bool b, st1) → EvT C e st b st1)
structure SLs (C : Cx) (es : List Expr) (ces : List CE) : Prop where
  star : starOk es = true
  len : es.length = ces.length
  args : ∀ pos st ds st1, evs K ces st = some (ds, st1) → EvL C pos es st ds st1
  and1 : es ≠ [] → ∀ pos st d st1, evAnd K ces st = some (d, st1) → EvE C (.BoolOp .And es pos) st d st1
  and2 : ∀ pos st b st1, evAnd K ces st = some (.bool b, st1) → EvW C .And es pos st b st1
  or1 : es ≠ [] → ∀ pos st d st1, evOr K ces st = some (d, st1) → EvE C (.BoolOp .Or es pos) st d st1
  or2 : ∀ pos st b st1, evOr K ces st = some (.bool b, st1) → EvW C .Or es pos st b st1
  all : ∀ st b st1, evAll K ces st = some (b, st1) → EvAll C es st b st1
  dic : ∀ keys ks pos st ds st1, mapO keyStr keys = some ks → keys.length = es.length → evs K ces st = some (ds, st1) → EvD C keys pos es st ks ds st1
noncomputable def SL : Prop := ∀ (C : Cx), Wld C K fa gt → ∀ es ces, strips gt f C.env.scope.names es = some ces → SLs K C es ces
noncomputable def SS : Prop := ∀ (C : Cx), Wld C K fa gt → ∀ e sk ces, stripSrc gt f C.env.scope.names e = some (sk, ces) →
  plainE e = true ∧ ∀ ns target tgt, tgtOf ns target = some tgt → tgtFits tgt sk = true → ∀ st ds st1, evSrc K sk ces st = some (ds, st1) → SrcP C target tgt e st ds st1
end
theorem iteK_some {β : Type} {o : Ans PyData} {g h : St → Ans β} {r : β × St} (e : iteK o g h = some r) : ∃ b st, o = some (.bool b, st) ∧ (if b then g st = some r else h st = some r) := by
  unfold iteK at e
  split at e
  · exact ⟨true, _, rfl, e⟩
  · exact ⟨false, _, rfl, e⟩
  · exact noS e
theorem evs_len {K : Or} : ∀ {ces : List CE} {st : St} {ds : List PyData} {st1 : St}, evs K ces st = some (ds, st1) → ds.length = ces.length
  | [], st, ds, st1, h => by obtain ⟨rfl, rfl⟩ := some2 h; rfl
  | c :: r, st, ds, st1, h => by
    refine e43 (bd2_some h) fun a st2 b st3 h1 h2 h3 => ?_
    obtain ⟨rfl, rfl⟩ := some2 h3
    simp [evs_len h2]
theorem sl_nil {K : Or} {C : Cx} : SLs K C [] [] where
  star := rfl
  len := rfl
  args := fun pos st ds st1 h => by refine elim2 h ?_; exact l_nil
  and1 := fun h => absurd rfl h
  and2 := fun pos st b st1 h => by cases h; exact w_and_nil
  or1 := fun h => absurd rfl h
  or2 := fun pos st b st1 h => by cases h; exact w_or_nil
  all := fun st b st1 h => by refine elim2 h ?_; exact a_nil
  dic := fun keys ks pos st ds st1 hk hl h => by
    cases keys with
    | nil => refine elim2 h ?_; obtain rfl := Option.some.inj hk; exact d_nil
    | cons => simp at hl
theorem sl_cons {K : Or} {C : Cx} {e : Expr} {ce : CE} {es : List Expr} {ces : List CE} (hp : plainE e = true) (hv : ∀ st d st1, ev K ce st = some (d, st1) → EvE C e st d st1) (ht : ∀ st b st1, ev K ce st = some (.bool b, st1) → EvT C e st b st1) (h : SLs K C es ces) : SLs K C (e :: es) (ce :: ces) where
  star := by rw [plain_star hp]; exact h.star
  len := by simp [h.len]
  args := fun pos st ds st1 q => by
    refine e43 (bd2_some q) fun a st2 b st3 h1 h2 h3 => ?_
    obtain ⟨rfl, rfl⟩ := some2 h3
    exact l_cons (star_cons (by rw [plain_star hp]; exact h.star)).1 (hv _ _ _ h1) (h.args pos _ _ _ h2)
  and1 := fun _ pos st d st1 q => by
    refine e22 (iteK_some q) fun b st2 h1 h2 => ?_
    cases es with
    | nil =>
      have hl := h.len
      cases ces with
      | cons => simp at hl
      | nil =>
        cases b with
        | true => obtain ⟨rfl, rfl⟩ := some2 h2; exact r_one (hv _ _ _ h1)
        | false => obtain ⟨rfl, rfl⟩ := some2 h2; exact r_one (hv _ _ _ h1)
    | cons e2 r =>
      refine r_and (hv _ _ _ h1) ?_
      cases b with
      | true => exact h.and1 (by simp) pos _ _ _ h2
      | false => obtain ⟨rfl, rfl⟩ := some2 h2; exact ⟨rfl, rfl⟩
  and2 := fun pos st b st1 q => by
    refine e22 (iteK_some q) fun c st2 h1 h2 => ?_
    refine w_and (ht _ _ _ h1) ?_
    cases c with
    | true => exact h.and2 pos _ _ _ h2
    | false => cases h2; exact ⟨rfl, rfl⟩
  or1 := fun _ pos st d st1 q => by
    refine e22 (iteK_some q) fun b st2 h1 h2 => ?_
    cases es with
    | nil =>
      have hl := h.len
      cases ces with
      | cons => simp at hl
      | nil =>
        cases b with
        | false => obtain ⟨rfl, rfl⟩ := some2 h2; exact r_one (hv _ _ _ h1)
        | true => obtain ⟨rfl, rfl⟩ := some2 h2; exact r_one (hv _ _ _ h1)
    | cons e2 r =>
      refine r_or (hv _ _ _ h1) ?_
      cases b with
      | false => exact h.or1 (by simp) pos _ _ _ h2
      | true => obtain ⟨rfl, rfl⟩ := some2 h2; exact ⟨rfl, rfl⟩
  or2 := fun pos st b st1 q => by
    refine e22 (iteK_some q) fun c st2 h1 h2 => ?_
    refine w_or (ht _ _ _ h1) ?_
    cases c with
    | false => exact h.or2 pos _ _ _ h2
    | true => cases h2; exact ⟨rfl, rfl⟩
  all := fun st b st1 q => by
    refine e22 (iteK_some q) fun c st2 h1 h2 => ?_
    refine a_cons (ht _ _ _ h1) ?_
    cases c with
    | true => exact h.all _ _ _ h2
    | false => obtain ⟨rfl, rfl⟩ := some2 h2; exact ⟨rfl, rfl⟩
  dic := fun keys ks pos st ds st1 hk hl q => by
    refine e43 (bd2_some q) fun a st2 b st3 h1 h2 h3 => ?_
    obtain ⟨rfl, rfl⟩ := some2 h3
    cases keys with
    | nil => simp at hl
    | cons k keys =>
      refine bindE hk fun x hx hk2 => mapE hk2 fun l hm eq0 => ?_
      subst eq0
      refine e22 (keyStr_some hx) fun k' p' eq1 hs => ?_; subst eq1
      exact d_cons (hv _ _ _ h1) (h.dic keys l pos _ _ _ hm (by simpa using hl) h2)
theorem ev_idx {K : Or} {a b : CE} {st : St} (h : ∀ i, a ≠ .v i) : ev K (.idx a b) st = bd2 (ev K a st) (ev K b) idxK := by
  cases a with
  | v i => exact absurd rfl (h i)
  | _ => rfl
theorem ev_len {K : Or} {a : CE} {st : St} (h : ∀ i, a ≠ .v i) : ev K (.len a) st = bd (ev K a st) lenK := by
  cases a with
  | v i => exact absurd rfl (h i)
  | _ => rfl
theorem nov_some {o : Option CE} {c : CE} (h : nov o = some c) : o = some c ∧ isV c = false := by
  refine and2 (Option.filter_eq_some_iff.mp h) fun h1 h2 => ?_
  exact ⟨h1, by simpa using h2⟩
theorem both_some {r : Expr → Option CE} {f : CE → CE → CE} {a b : Expr} {c : CE} (h : both r f a b = some c) : ∃ x y, r a = some x ∧ r b = some y ∧ c = f x y := by
  refine bindE h fun x h1 h2 => ?_
  refine mapE h2 fun y h3 eq1 => ?_; subst eq1
  exact ⟨x, y, h1, h3, rfl⟩
theorem nameOf_some {e : Expr} {x : Str} (h : nameOf e = some x) : ∃ p, e = .Name x p := by
  cases e with
  | Name y p => obtain rfl := Option.some.inj h; exact ⟨p, rfl⟩
  | _ => exact noS h
theorem v_inj {i j : Nat} (h : CE.v i = CE.v j) : i = j := by cases h; rfl
theorem strip_v {gt : Str → Option GV} {f : Nat} {ns : List (Str × NameKind)} {e : Expr} {i : Nat} (h : strip gt f ns e = some (.v i)) : ∃ x p k, e = .Name x p ∧ posOf x ns 0 = some (i, k) ∧ (x == ("__debug__" : Str)) = false ∧ (k = .free → (x == ("__classdict__" : Str)) = false) := by
  cases f with
  | zero => rw [strip] at h; exact noS h
  | succ f =>
    rw [strip] at h
    cases hn : nameOf e with
    | none => rw [hn] at h; cases (nov_some h).2
    | some x =>
      refine e11 (nameOf_some hn) fun p eq1 => ?_; subst eq1
      rw [hn] at h
      refine and2 (if_not h) fun hd h2 => bindE h2 fun ⟨j, k⟩ hj h3 => ?_
      refine ⟨x, p, k, rfl, ?_⟩
      have fin : some (CE.v j) = some (CE.v i) → (k = .free → (x == ("__classdict__" : Str)) = false) → posOf x ns 0 = some (i, k) ∧ (x == ("__debug__" : Str)) = false ∧ (k = .free → (x == ("__classdict__" : Str)) = false) := fun e hc =>
        ⟨v_inj (Option.some.inj e) ▸ hj, Bool.eq_false_iff.mpr hd, hc⟩
      cases k with
      | «local» => exact fin h3 fun z => by cases z
      | cell => exact fin h3 fun z => by cases z
      | free => exact and2 (if_not h3) fun hc h4 => fin h4 fun _ => Bool.eq_false_iff.mpr hc
      | globalImplicit => exact mapE h3 fun d _ h4 => fTr (congrArg isV h4)
      | _ => exact noS h3
section
variable {C : Cx} {st st1 st2 : St} {fa : FN → Addr} {gt : Str → Option GV}
set_option tactic.hygienic true in
theorem r_lenN (O : C.Ok) (T : PK C.w C.K fa gt) {x y : Str} {p q pos : Pos} {i : Nat} {k : NameKind} {d : PyData} (hx : globOf gt C.env.scope.names x = some (.bf .len)) (N : NameOk C y i k) (e : bd (rdp st i) lenK = some (d, st1)) :
    EvE C (.Call (.Name x p) [.Name y q] [] pos) st d st1 := by
  intro E s m ow S Q G P
  refine e22 (bd_some e) fun z st2 e1 e2 => ?_
  refine and2 (lift_some e2) fun e3 eq1 => ?_; subst eq1
  refine e14 (globOf_some hx) fun j h1 h2 h3 h4 => ?_
  refine and2 (T.bf x _ h4) fun k1 k2 => ?_
  have sl := G.slot (posOf_get N.pos).1
  unfold rdp at e1
  split at e1
  · rename_i u hu
    obtain ⟨rfl, rfl⟩ := some2 e1
    rw [hu] at sl
    obtain ⟨v, hv, r⟩ := sl
    exact wpAny_Call_NameR (name_built O G h1 h2 (by simpa using h3) k1 k2 (callV .len rfl (spliced_more (name_any O G N hv (Calls.spliced_nil (ob_len e3 E s m st ow S Q [v] G (.cons r .nil) P))) rfl)))
  · rename_i xs hu
    obtain ⟨rfl, rfl⟩ := some2 e1
    rw [hu] at sl
    obtain ⟨a, vs, n, rfl, hm, ho, hr, hl⟩ := sl
    have hg := (G.1.own _ _ _ ho).1
    have hlen := lenOk_le.mp hl
    refine wpAny_Call_NameR (name_built O G h1 h2 (by simpa using h3) k1 k2 (callV .len rfl (spliced_more (name_any O G N (v := .ref a) hm (Calls.spliced_nil ?_)) rfl)))
    simp only [lenV, Option.some.injEq] at e3
    subst e3
    refine len_list (items := vs.toArray) ⟨_, hg, rfl, n, rfl⟩ (by rw [List.size_toArray, hr.length]; exact ilt (fk (c1 xs.length) [(1, .var 0, .num 1048576), (1, .num 9223372036854775808, .var 0)] rfl (nl hlen))) ?_
    rw [List.size_toArray, hr.length]
    exact P _ s.heap _ ow S (StaysIn.refl S) G (.int _ _)
  · exact noS e1
end
theorem pack {C : Cx} {K : Or} {e : Expr} {ce : CE} (hp : plainE e = true) (ht : isTrue e C.env (eval e C.env) = (do let v ← eval e C.env; standAt e.pos; holding [v] (truthy v))) (hv : ∀ st d st1, ev K ce st = some (d, st1) → EvE C e st d st1) :
    plainE e = true ∧ (∀ st d st1, ev K ce st = some (d, st1) → EvE C e st d st1) ∧ (∀ st b st1, ev K ce st = some (.bool b, st1) → EvT C e st b st1) :=
  ⟨hp, hv, fun st b st1 q => t_plain ht (hv _ _ _ q)⟩
set_option tactic.hygienic true in
theorem cmpK_some {op : CmpOp} {x y : PyData} {st : St} {d : PyData} {st1 : St} (h : cmpK op x y st = some (d, st1)) : ∃ c, cmpV op x y = some c ∧ d = .bool c ∧ st1 = st := by
  unfold cmpK boolK at h
  split at h
  · rename_i c hc; obtain ⟨rfl, rfl⟩ := some2 h; exact ⟨c, hc, rfl, rfl⟩
  · exact noS h
theorem opbif {C : Cx} (O : C.Ok) {f : Bf} {ds : List PyData} {d : PyData} (h : bifV f ds = some d) : OpB C (fun vs => call (bfVal f) vs) ds d := by
  have one : ∀ {g : PyData → Option PyData}, bifV f ds = oneL g ds → (∀ a, g a = some d → OpB C (fun vs => call (bfVal f) vs) [a] d) → OpB C (fun vs => call (bfVal f) vs) ds d := fun {g} q k => by
    refine e12 (oneL_some (q.symm.trans h)) fun a eq1 h2 => ?_; subst eq1
    exact k a h2
  have pr : ∀ {g : Two → Option PyData}, bifV f ds = twoL g ds → (∀ a b, g (two a b) = some d → OpB C (fun vs => call (bfVal f) vs) [a, b] d) → OpB C (fun vs => call (bfVal f) vs) ds d := fun {g} q k => by
    refine e22 (twoL_some (q.symm.trans h)) fun a b eq1 h2 => ?_; subst eq1
    exact k a b h2
  cases f with
  | abs =>
    refine one rfl fun a h => ?_
    cases a with
    | int i => refine elim1 h ?_; exact ob_abs
    | _ => exact noS h
  | max => exact pr rfl fun a b h => two_elim (M := fun x y t => maxW t = some d → OpB C (fun vs => call (bfVal .max) vs) [x, y] d) (fun a b h => elim1 h (ob_max O)) (fun _ _ h => noS h) (fun _ _ h => noS h) (fun _ _ h => noS h) (fun _ _ h => noS h) a b h
  | min => exact pr rfl fun a b h => two_elim (M := fun x y t => minW t = some d → OpB C (fun vs => call (bfVal .min) vs) [x, y] d) (fun a b h => elim1 h (ob_min O)) (fun _ _ h => noS h) (fun _ _ h => noS h) (fun _ _ h => noS h) (fun _ _ h => noS h) a b h
  | list =>
    refine one rfl fun a h => ?_
    cases a with
    | list l => refine elim1 h ?_; exact ob_listL
    | tuple l => refine elim1 h ?_; exact ob_listT
    | _ => exact noS h
  | tuple =>
    refine one rfl fun a h => ?_
    cases a with
    | list l => refine elim1 h ?_; exact ob_tup
    | _ => exact noS h
  | sum =>
    refine one rfl fun a h => ?_
    cases a with
    | list l => exact mapR h fun is hi => ob_sum O hi
    | _ => exact noS h
  | _ => exact noS h
theorem locOf_isName {ns : List (Str × NameKind)} {e : Expr} {i : Nat} (h : locOf ns e = some i) : isName e = true := by
  cases e with
  | Name x p => rfl
  | _ => exact noS h
theorem tgtOf_kind {ns : List (Str × NameKind)} {e : Expr} {t : Tgt} (h : tgtOf ns e = some t) : (∃ i, t = .one i ∧ isName e = true) ∨ (∃ i j, t = .two i j ∧ isPair e = true) := by
  have one : (locOf ns e).map .one = some t → (∃ i, t = .one i ∧ isName e = true) ∨ (∃ i j, t = .two i j ∧ isPair e = true) := fun h => mapE h fun i h1 eq1 => .inl ⟨i, eq1.symm, locOf_isName h1⟩
  cases e with
  | Tuple es k p => cases es with
    | nil => exact noS h
    | cons a r => cases r with
      | nil => exact noS h
      | cons b r => cases r with
        | cons => exact noS h
        | nil =>
          refine bindE h fun i h1 h => bindE h fun j h2 h => and2 (if_not h) fun _ h => ?_
          exact .inr ⟨i, j, (Option.some.inj h).symm, rfl⟩
  | _ => exact one h
theorem tgtOf_one {ns : List (Str × NameKind)} {e : Expr} {i : Nat} (h : locOf ns e = some i) : tgtOf ns e = some (.one i) ∧ isName e = true := by
  cases e with
  | Name x p => exact ⟨by show (locOf ns (.Name x p)).map Tgt.one = _; rw [h]; rfl, rfl⟩
  | _ => exact noS h
section
variable {K : Or} {fa : FN → Addr} {gt : Str → Option GV} {f : Nat} {C : Cx}
theorem loc_name {x : Str} {p : Pos} {i : Nat} (h : locOf C.env.scope.names (.Name x p) = some i) : NameOk C x i .local := by
  refine e22 (locOf_name h) fun y q e n => ?_
  cases e
  exact n
theorem isTrueE_some {e : Expr} (h : isTrueE e = true) : ∃ k p, e = .Constant (.bool true) k p := by
  cases e with
  | Constant c k p => cases c with
    | bool b => cases b with
      | true => exact ⟨k, p, rfl⟩
      | false => exact fTr h
    | _ => exact fTr h
  | _ => exact fTr h
section
variable (h1 : SE K fa gt f) (h2 : SL K fa gt f) (W : Wld C K fa gt) {x : Str} {p pos : Pos} {args : List Expr} {ce : CE} {st : St} {d : PyData} {st1 : St} (q : ev K ce st = some (d, st1))
include h1 h2 W q
theorem se_fn {g : FN} (hg : globOf gt C.env.scope.names x = some (.fn g)) (h : stFn (strip gt f C.env.scope.names) (strips gt f C.env.scope.names) C.env.scope.names g args = some ce) : EvE C (.Call (.Name x p) args [] pos) st d st1 := by
  unfold stFn at h
  refine if_or h (fun hf h => ?_) (fun _ h => ?_)
  · rw [eq_of_beq hf] at hg
    split at h
    · refine bindE h fun i hb h => ?_
      refine mapE h fun ce' he eq1 => ?_; subst eq1
      refine e22 (locOf_name hb) fun y qq eq1 n => ?_; subst eq1
      refine and3 (h1 C W _ _ he) fun pe ve _ => ?_
      refine and2 (gd_some q) fun g1 g2 => ?_
      refine e22 (bd_some g2) fun z st3 q1 q2 => ?_
      exact r_take W.ok W.T (Nat.le_refl _) W.take hg n (by rw [plain_star rfl, plain_star pe]; rfl) g1 (ve _ _ _ q1) q2
    · exact noS h
  · refine and2 (if_not h) fun hne h => ?_
    · refine mapE h fun ces hc eq1 => ?_; subst eq1
      have L := h2 C W _ _ hc
      refine e22 (bd_some q) fun ds st3 q1 q2 => ?_
      refine and2 (lift_some q2) fun q3 eq1 => ?_; subst eq1
      cases args with
      | nil => exact (hne rfl).elim
      | cons e r => exact r_call W.ok W.T (Nat.le_refl _) W.calls hg L.star (L.args pos _ _ _ q1) q3
theorem se_len {a : Expr} (hg : globOf gt C.env.scope.names x = some (.bf .len)) (h : (strip gt f C.env.scope.names a).map .len = some ce) : EvE C (.Call (.Name x p) [a] [] pos) st d st1 := by
  refine mapE h fun ca ha eq1 => ?_; subst eq1
  refine and3 (h1 C W _ _ ha) fun pa va _ => ?_
  by_cases hv : ∃ i, ca = .v i
  · refine e11 hv fun i eq1 => ?_; subst eq1
    refine e34 (strip_v ha) fun y qq k eq1 n1 n2 n3 => ?_; subst eq1
    exact r_lenN W.ok W.T hg ⟨n1, n2, n3⟩ q
  · rw [ev_len fun i z => hv ⟨i, z⟩] at q
    refine e22 (bd_some q) fun z st3 q1 q2 => ?_
    refine and2 (lift_some q2) fun q3 eq1 => ?_; subst eq1
    exact r_bt W.ok W.T (ds := [z]) hg (by rw [plain_star pa]; rfl) (l_cons (star_cons (by rw [plain_star pa]; rfl)).1 (va _ _ _ q1) l_nil) (ob_len q3)
theorem se_sd (hg : globOf gt C.env.scope.names x = some (.bf .sorted)) (h : stSd (strip gt f) C.env.scope.names args = some ce) : EvE C (.Call (.Name x p) args [] pos) st d st1 := by
  cases args with
  | nil => exact noS h
  | cons e r => cases r with
    | cons => exact noS h
    | nil => cases e with
      | DictComp key v gens scope dp =>
        refine and2 (if_some h) fun hv h => ?_
        refine e21 (isTrueE_some hv) fun kc cp eq1 => ?_; subst eq1
        cases gens with
        | nil => exact noS h
        | cons g r => cases r with
          | cons => exact noS h
          | nil =>
            obtain ⟨tgt, iter, ifs, ia⟩ := g
            refine and2 (if_some h) fun hso h => and2 (andB hso) fun hz hso => ?_
            obtain rfl : ia = 0 := eq_of_beq hz
            refine bindE h fun init hi h => bindE h fun i ht h => bindE h fun it hit h => bindE h fun cc hcc h => mapE h fun ck hck eq1 => ?_
            subst eq1
            cases ifs with
            | nil => exact noS hcc
            | cons c r => cases r with
              | cons => exact noS hcc
              | nil =>
                have N := scopeOk_names hso hi
                refine and3 (h1 C W _ _ hit) fun pit vit _ => and2 (tgtOf_one ht) fun tt tn => e22 (bd_some q) fun x0 st3 q1 q2 => ?_
                unfold sdcK at q2
                cases hds : itemsOf x0 with
                | none => rw [hds] at q2; exact noS q2
                | some ds =>
                  rw [hds] at q2
                  refine and2 (lift_some q2) fun q3 eq1 => ?_; subst eq1
                  exact r_sdc W.ok W.T N hg (fun x => plain_fold pit _ _) (src_it W.ok tn (vit _ _ _ q1) hds) tt tn
                    (fun L S ex' st b st1 hS hh => (h1 _ (W.inner N hS (L := L) (ex := ex')) _ _ (by rw [inner_names W.ok]; exact hcc)).2.2 _ _ _ hh)
                    (fun L S ex' st b st1 hS hh => (h1 _ (W.inner N hS (L := L) (ex := ex')) _ _ (by rw [inner_names W.ok]; exact hck)).2.1 _ _ _ hh) q3
      | _ => exact noS h
theorem se_bf {g : Bf} (hg : globOf gt C.env.scope.names x = some (.bf g)) (h : stBf (strip gt f) (strips gt f C.env.scope.names) C.env.scope.names g args = some ce) : EvE C (.Call (.Name x p) args [] pos) st d st1 := by
  unfold stBf at h
  refine if_or h (fun hf h => ?_) (fun _ h => ?_)
  · rw [eq_of_beq hf] at hg
    split at h
    · exact se_len h1 h2 W q hg h
    · exact noS h
  · refine if_or h (fun hf h => ?_) (fun _ h => ?_)
    · rw [eq_of_beq hf] at hg
      exact se_sd h1 h2 W q hg h
    · refine and2 (if_not h) fun hne h => ?_
      · refine mapE h fun ces hc eq1 => ?_; subst eq1
        have L := h2 C W _ _ hc
        refine e22 (bd_some q) fun ds st3 q1 q2 => ?_
        refine and2 (lift_some q2) fun q3 eq1 => ?_; subst eq1
        cases args with
        | nil => exact (hne (by rw [List.isEmpty_nil, Bool.or_true])).elim
        | cons e r => exact r_bt W.ok W.T hg L.star (L.args pos _ _ _ q1) (opbif W.ok q3)
theorem se_callN (h : stCall gt (strip gt f) (strips gt f C.env.scope.names) C.env.scope.names x args = some ce) : EvE C (.Call (.Name x p) args [] pos) st d st1 := by
  unfold stCall at h
  split at h
  · rename_i hg; exact se_fn h1 h2 W q hg h
  · rename_i hg; exact se_bf h1 h2 W q hg h
  · exact noS h
end
end
section
variable {K : Or} {fa : FN → Addr} {gt : Str → Option GV} {f : Nat}
theorem tupK_some {ds : List PyData} {st : St} {d : PyData} {st1 : St} (h : tupK ds st = some (d, st1)) : d = .tuple ds ∧ st1 = st := by obtain ⟨rfl, rfl⟩ := some2 h; exact ⟨rfl, rfl⟩
theorem lstK_some {ds : List PyData} {st : St} {d : PyData} {st1 : St} (h : lstK ds st = some (d, st1)) : d = .list ds ∧ st1 = st := by obtain ⟨rfl, rfl⟩ := some2 h; exact ⟨rfl, rfl⟩
theorem isNoneE_some {e : Expr} (h : isNoneE e = true) : ∃ k p, e = .Constant .none k p := by
  cases e with
  | Constant c k p => cases c with
    | none => exact ⟨k, p, rfl⟩
    | _ => exact fTr h
  | _ => exact fTr h
theorem isM1_some {e : Expr} (h : isM1 e = true) : ∃ k q p, e = .UnaryOp .USub (.Constant (.int 1) k q) p := by
  cases e with
  | UnaryOp op a p =>
    refine and2 (andB h) fun h1 h2 => ?_
    obtain rfl := eq_of_beq h1
    cases a with
    | Constant c k q => cases c with
      | int i => obtain rfl := of_decide_eq_true h2; exact ⟨k, q, p, rfl⟩
      | _ => exact fTr h2
    | _ => exact fTr h2
  | _ => exact fTr h
section
variable (h1 : SE K fa gt f) (h2 : SL K fa gt f) (h3 : SS K fa gt f) {C : Cx} (W : Wld C K fa gt)
noncomputable def Meant (C : Cx) (K : Or) (e : Expr) (ce : CE) : Prop := plainE e = true ∧ (∀ st d st1, ev K ce st = some (d, st1) → EvE C e st d st1) ∧ (∀ st b st1, ev K ce st = some (.bool b, st1) → EvT C e st b st1)
include W in
theorem se_name {x : Str} {p : Pos} {ce : CE} (h : stN gt C.env.scope.names x = some ce) : Meant C K (.Name x p) ce := by
  refine and2 (if_not h) fun hd h => ?_
  have hd' := Bool.eq_false_iff.mpr hd
  refine bindE h fun ⟨i, k⟩ hx h => ?_
  have own : ∀ {k}, posOf x C.env.scope.names 0 = some (i, k) → k = .local ∨ k = .cell ∨ k = .free → (k = .free → (x == ("__classdict__" : Str)) = false) → Meant C K (.Name x p) (.v i) := fun hx _ hc => pack rfl rfl fun st d st1 q => r_name W.ok hx hd' hc q
  cases k with
  | «local» => exact elim1 h (own hx (.inl rfl) fun z => by cases z)
  | cell => exact elim1 h (own hx (.inr (.inl rfl)) fun z => by cases z)
  | free => exact and2 (if_not h) fun hc h => elim1 h (own hx (.inr (.inr rfl)) fun _ => Bool.eq_false_iff.mpr hc)
  | globalImplicit =>
    refine mapR h fun d0 hg => ?_
    cases hq : globOf gt C.env.scope.names x with
    | none => rw [hq] at hg; exact noS hg
    | some g =>
      rw [hq] at hg
      cases g with
      | dat d1 =>
        obtain rfl := Option.some.inj hg
        refine e14 (globOf_some hq) fun j g1 g2 g3 g4 => ?_
        refine e12 (W.T.dat _ _ g4) fun v k1 k2 => ?_
        exact pack rfl rfl fun st d st1 q => by obtain ⟨rfl, rfl⟩ := some2 q; exact r_glob W.ok g1 g2 k1 k2
      | _ => exact noS hg
  | _ => exact noS h
theorem se_con {c : Const} {k : Nat} {p : Pos} {ce : CE} (h : (conOf c).map .k = some ce) : Meant C K (.Constant c k p) ce := by
  refine mapR h fun d hc => ?_
  have fin : ∀ {d0}, (∀ st, EvE C (.Constant c k p) st d0 st) → some d0 = some d → Meant C K (.Constant c k p) (.k d) := fun hr hq => pack rfl rfl fun st d st1 q => by
    obtain rfl := Option.some.inj hq
    obtain ⟨rfl, rfl⟩ := some2 q
    exact hr st
  cases c with
  | int i => exact fin (fun st => r_int) hc
  | str s => exact and2 (if_some hc) fun hs hc => fin (fun st => r_str hs) hc
  | bool b => exact fin (fun st => r_bool) hc
  | none => exact fin (fun st => r_none) hc
  | _ => exact noS hc
include h1 in
theorem se_both {f' : CE → CE → CE} {a b : Expr} {ce : CE} (h : both (strip gt f C.env.scope.names) f' a b = some ce) (W : Wld C K fa gt) : ∃ ca cb, Meant C K a ca ∧ Meant C K b cb ∧ ce = f' ca cb := by
  refine e23 (both_some h) fun ca cb ha hb eq1 => ?_; subst eq1
  exact ⟨ca, cb, h1 C W _ _ ha, h1 C W _ _ hb, rfl⟩
include W in
theorem se_cmp2 {op : CmpOp} {a b : Expr} {ca cb : CE} {p : Pos} (ma : Meant C K a ca) (mb : Meant C K b cb) : Meant C K (.Compare a [op] [b] p) (.cmp op ca cb) := by
  refine ⟨rfl, fun st d st1 q => ?_, fun st b st1 q => ?_⟩
  · refine e43 (bd2_some q) fun x s2 y s3 q1 q2 q3 => ?_
    refine e13 (cmpK_some q3) fun c q4 eq1 eq2 => ?_; subst eq1; subst eq2
    exact r_cmp W.ok (plain_marks mb.1 _) (ma.2.1 _ _ _ q1) (mb.2.1 _ _ _ q2) q4
  · refine e43 (bd2_some q) fun x s2 y s3 q1 q2 q3 => ?_
    refine e13 (cmpK_some q3) fun c q4 q5 eq1 => ?_; subst eq1
    cases q5
    exact t_cmp W.ok (plain_marks mb.1 _) (ma.2.1 _ _ _ q1) (mb.2.1 _ _ _ q2) q4
include h1 W in
theorem se_cmp {op : CmpOp} {a b : Expr} {ce : CE} {p : Pos} (h : stCmp (strip gt f C.env.scope.names) C.env.scope.names op a b = some ce) : Meant C K (.Compare a [op] [b] p) ce := by
  have two : both (strip gt f C.env.scope.names) (.cmp op) a b = some ce → Meant C K (.Compare a [op] [b] p) ce := fun h => by
    refine e23 (se_both h1 h W) fun ca cb ma mb eq1 => ?_; subst eq1
    exact se_cmp2 W ma mb
  refine if_or h (fun ho h => ?_) fun _ h => and2 (if_not h) fun _ h => if_or h (fun ho h => ?_) fun _ h => two h
  · obtain rfl := eq_of_beq ho
    refine and2 (if_some h) fun hb h => ?_
    refine e21 (isNoneE_some hb) fun k pb eq1 => ?_; subst eq1
    refine mapR h fun ca ha => ?_
    refine and3 (h1 C W _ _ ha) fun _ va _ => ?_
    exact ⟨rfl, fun st d st1 q => e22 (bd_some q) fun x s2 q1 q2 => r_isN (va _ _ _ q1) q2, fun st b st1 q => e22 (bd_some q) fun x s2 q1 q2 => t_isN (va _ _ _ q1) q2⟩
  · obtain rfl := eq_of_beq ho
    cases hi : locOf C.env.scope.names b with
    | none => rw [hi] at h; exact two h
    | some i =>
      rw [hi] at h
      refine e22 (locOf_name hi) fun y qq eq1 n => ?_; subst eq1
      refine mapR h fun ca ha => ?_
      refine and3 (h1 C W _ _ ha) fun _ va _ => ?_
      exact ⟨rfl, fun st d st1 q => e22 (bd_some q) fun x s2 q1 q2 => r_inv W.ok n (va _ _ _ q1) q2, fun st b st1 q => e22 (bd_some q) fun x s2 q1 q2 => t_inv W.ok n (va _ _ _ q1) q2⟩
include h1 W in
theorem se_cut {a : Expr} {x y z : Option Expr} {p p' : Pos} {ce : CE} (h : stCut (strip gt f C.env.scope.names) a x y z = some ce) : Meant C K (.Subscript a (.Slice x y z p) p') ce := by
  cases x with
  | none => cases y with
    | none => cases z with
      | none => exact noS h
      | some e =>
        refine and2 (if_some h) fun hm h => ?_
        refine e31 (isM1_some hm) fun _ _ _ eq1 => ?_; subst eq1
        refine mapR h fun ca ha => ?_
        refine and3 (h1 C W _ _ ha) fun _ va _ => ?_
        exact pack rfl rfl fun st d st1 q => by
          refine e22 (bd_some q) fun x s2 q1 q2 => ?_
          refine and2 (lift_some q2) fun q4 eq1 => ?_; subst eq1
          exact r_rev (va _ _ _ q1) q4
    | some b => cases z with
      | none =>
        refine e23 (se_both h1 h W) fun ca cb ma mb eq1 => ?_; subst eq1
        exact pack rfl rfl fun st d st1 q => by
          refine e43 (bd2_some q) fun x s2 y s3 q1 q2 q3 => ?_
          refine and2 (lift_some q3) fun q4 eq1 => ?_; subst eq1
          exact r_upto (ma.2.1 _ _ _ q1) (mb.2.1 _ _ _ q2) q4
      | some => exact noS h
  | some b => cases y with
    | none => cases z with
      | none =>
        refine e23 (se_both h1 h W) fun ca cb ma mb eq1 => ?_; subst eq1
        exact pack rfl rfl fun st d st1 q => by
          refine e43 (bd2_some q) fun x s2 y s3 q1 q2 q3 => ?_
          refine and2 (lift_some q3) fun q4 eq1 => ?_; subst eq1
          exact r_from (ma.2.1 _ _ _ q1) (mb.2.1 _ _ _ q2) q4
      | some => exact noS h
    | some => exact noS h
include h1 W in
set_option tactic.hygienic true in
theorem se_idx {a b : Expr} {p : Pos} {ce : CE} (h : stIdx gt (strip gt f C.env.scope.names) C.env.scope.names a b = some ce) : Meant C K (.Subscript a b p) ce := by
  unfold stIdx at h
  split at h
  · rename_i kvs hk
    refine bindE hk fun x hn hk2 => ?_
    clear hk
    refine e11 (nameOf_some hn) fun px eq1 => ?_; subst eq1
    unfold tabOf at hk2
    split at hk2
    · rename_i kvs' hg
      obtain rfl := Option.some.inj hk2
      refine mapR h fun cb hb => ?_
      refine and3 (h1 C W _ _ hb) fun pb vb _ => ?_
      exact pack rfl rfl fun st d st1 q => by
        refine e22 (bd_some q) fun x s2 q1 q2 => ?_
        exact r_gidx W.ok W.T hg (plain_slice pb) (vb _ _ _ q1) q2
    · exact noS hk2
  · refine e23 (both_some h) fun ca cb ha hb eq1 => ?_; subst eq1
    refine and3 (h1 C W _ _ ha) fun _ va _ => ?_
    refine and3 (h1 C W _ _ hb) fun pb vb _ => ?_
    by_cases hv : ∃ i, ca = .v i
    · refine e11 hv fun i eq1 => ?_; subst eq1
      refine e34 (strip_v ha) fun y qq k eq1 n1 n2 n3 => ?_; subst eq1
      exact pack rfl rfl fun st d st1 q => by
        refine and2 (gd_some q) fun g1 g2 => ?_
        refine e22 (bd_some g2) fun z s2 q1 q2 => ?_
        exact r_idxN W.ok ⟨n1, n2, n3⟩ (plain_slice pb) g1 (vb _ _ _ q1) q2
    · exact pack rfl rfl fun st d st1 q => by
        rw [ev_idx fun i z => hv ⟨i, z⟩] at q
        refine e43 (bd2_some q) fun x s2 y s3 q1 q2 q3 => ?_
        refine and2 (lift_some q3) fun q4 eq1 => ?_; subst eq1
        exact r_idx (plain_slice pb) (va _ _ _ q1) (vb _ _ _ q2) q4
include h1 W in
theorem se_meth {x m : Str} {p ap pos : Pos} {i : Nat} {args : List Expr} {ce : CE} (N : NameOk C x i .local) (hp : (ap.endLine == pos.line) = true) (h : stMeth (strip gt f C.env.scope.names) i m args = some ce) : Meant C K (.Call (.Attribute (.Name x p) m ap) args [] pos) ce := by
  cases args with
  | nil =>
    refine and2 (if_some h) fun hm h => elim1 h ?_
    obtain rfl := eq_of_beq hm
    exact pack rfl rfl fun st d st1 q => by exact r_pop W.ok N.pos N.dbg hp q
  | cons k0 r => cases r with
    | nil => exact noS h
    | cons d0 r => cases r with
      | cons => exact noS h
      | nil =>
        have two : ∀ {f' : CE → CE → CE}, both (strip gt f C.env.scope.names) f' k0 d0 = some ce → (∀ ck cd, starOk [k0, d0] = true → (∀ {st x st1 y st2}, ev K ck st = some (x, st1) → ev K cd st1 = some (y, st2) → EvL C pos [k0, d0] st [x, y] st2) → Meant C K (.Call (.Attribute (.Name x p) m ap) [k0, d0] [] pos) (f' ck cd)) → Meant C K (.Call (.Attribute (.Name x p) m ap) [k0, d0] [] pos) ce := fun h k => by
          refine e23 (se_both h1 h W) fun ck cd mk md eq1 => ?_; subst eq1
          have hs2 : starOk [d0] = true := by rw [plain_star md.1]; rfl
          have hs : starOk [k0, d0] = true := by rw [plain_star mk.1]; exact hs2
          exact k ck cd hs fun q1 q2 => l_cons (star_cons hs).1 (mk.2.1 _ _ _ q1) (l_cons (star_cons hs2).1 (md.2.1 _ _ _ q2) l_nil)
        refine if_or h (fun hm h => ?_) fun _ h => and2 (if_some h) fun hm h => ?_
        · obtain rfl := eq_of_beq hm
          exact two h fun ck cd hs L => pack rfl rfl fun st d st1 q => by
            refine and2 (gd_some q) fun g1 g2 => ?_
            refine e43 (bd2_some g2) fun x s2 y s3 q1 q2 q3 => ?_
            exact r_dpop W.ok N hp g1 hs (L q1 q2) q3
        · obtain rfl := eq_of_beq hm
          exact two h fun ck cd hs L => pack rfl rfl fun st d st1 q => by
            refine and2 (gd_some q) fun g1 g2 => ?_
            refine e43 (bd2_some g2) fun x s2 y s3 q1 q2 q3 => ?_
            exact r_dget W.ok N hp g1 hs (L q1 q2) q3
inductive CompRuns (C : Cx) (elt : Expr) (scope : Scope) (pos : Pos) (st : St) : List Comprehension → PyData → St → Prop where
  | mk {target iter : Expr} {ifs : List Expr} {gs : List Comprehension} {tgt : Tgt} {ds out : List PyData} {init : List (Option Nat)} {s2 : St} (N : CompNames C scope init) (hs : ∀ x, foldedSetIterable iter C.env x = pure x)
    (src : SrcP C target tgt iter st ds s2) (B : BlockOk C scope elt (⟨target, iter, ifs, 0⟩ :: gs) pos target tgt ds s2 out) (hlen : lenOk out = true) : CompRuns C elt scope pos st (⟨target, iter, ifs, 0⟩ :: gs) (.list out) s2
include h1 h2 h3 W in
theorem comp_runs {elt : Expr} {gens : List Comprehension} {scope : Scope} {p : Pos} {ce : CE} (h : stComp (strip gt f) (strips gt f) (stripSrc gt f C.env.scope.names) C.env.scope.names elt scope gens = some ce) {st : St} {d : PyData} {st1 : St} (q : ev K ce st = some (d, st1)) : CompRuns C elt scope p st gens d st1 := by
  cases gens with
  | nil => exact noS h
  | cons g r =>
    obtain ⟨tgt, iter, ifs, ia⟩ := g
    cases r with
    | nil =>
      refine and2 (if_some h) fun hso h => and2 (andB hso) fun hz hso => ?_
      obtain rfl : ia = 0 := eq_of_beq hz
      refine bindE h fun init hi h => bindE h fun t ht h => bindE h fun ⟨sk, es⟩ hsrc h => and2 (if_some h) fun hfit h => bindE h fun cs hcs h => mapE h fun ce' hce eq1 => ?_
      subst eq1
      have N := scopeOk_names hso hi
      refine and2 (h3 C W _ _ _ hsrc) fun pit vit => ?_
      refine e22 (bd_some q) fun ds s2 q1 q2 => ?_
      have B := block1 (pos := p) (elt := elt) (ifs := ifs) (iter := iter) W.ok N (Fn := compF (evAll K cs) (ev K ce')) ht (fun L S ex' st o st1 hS hh => by
        refine e22 (bd_some hh) fun b s4 w1 w2 => ?_
        have Wi := W.inner N hS (L := L) (ex := ex')
        have La := h2 _ Wi _ _ (by rw [inner_names W.ok]; exact hcs)
        have Ee := h1 _ Wi _ _ (by rw [inner_names W.ok]; exact hce)
        refine ⟨b, s4, La.all _ _ _ w1, ?_⟩
        cases b with
        | true =>
          refine e22 (bd_some w2) fun d' s5 w3 w4 => ?_
          obtain ⟨rfl, rfl⟩ := some2 w4
          exact .inl ⟨rfl, d', rfl, Ee.2.1 _ _ _ w3⟩
        | false => obtain ⟨rfl, rfl⟩ := some2 w2; exact .inr ⟨rfl, rfl, rfl⟩) q2
      refine e14 B fun out e1 e2 hlen BB => ?_
      subst e1; subst e2
      exact .mk N (fun x => plain_fold pit _ _) (vit _ _ _ ht hfit _ _ _ q1) BB hlen
    | cons g2 r =>
      obtain ⟨tgt2, iter2, ifs2, ia2⟩ := g2
      cases r with
      | cons => exact noS h
      | nil =>
        refine and2 (if_some h) fun hso h => and2 (andB hso) fun hso hsc => and2 (andB hso) fun hso z4 => and2 (andB hso) fun hso z3 => and2 (andB hso) fun z1 z2 => ?_
        obtain rfl : ia = 0 := eq_of_beq z1
        obtain rfl : ia2 = 0 := eq_of_beq z2
        obtain rfl : ifs = [] := List.isEmpty_iff.mp z3
        obtain rfl : ifs2 = [] := List.isEmpty_iff.mp z4
        refine bindE h fun init hi h => bindE h fun t ht h => bindE h fun ⟨sk, es⟩ hsrc h => and2 (if_some h) fun hfit h => bindE h fun t2 ht2 h => e23 (both_some h) fun e2 ce' he2 hce eq1 => ?_
        subst eq1
        have N := scopeOk_names hsc hi
        refine and2 (h3 C W _ _ _ hsrc) fun pit vit => ?_
        refine and2 (tgtOf_one ht) fun tt tn => and2 (tgtOf_one ht2) fun tt2 tn2 => ?_
        refine e22 (bd_some q) fun ds s2 q1 q2 => ?_
        have P2 := (h1 _ (W.inner N (StaysIn.refl C.h₀) (L := 0) (ex := fun _ => none)) _ _ (by rw [inner_names W.ok]; exact he2)).1
        have B := block2 (pos := p) (elt := elt) (iter := iter) W.ok N (g := ev K e2) (f := ev K ce') tt tt2 tn2 (fun env x => plain_fold P2 env x)
          (fun L S ex' st x st1 hS hh => (h1 _ (W.inner N hS (L := L) (ex := ex')) _ _ (by rw [inner_names W.ok]; exact he2)).2.1 _ _ _ hh)
          (fun L S ex' st x st1 hS hh => (h1 _ (W.inner N hS (L := L) (ex := ex')) _ _ (by rw [inner_names W.ok]; exact hce)).2.1 _ _ _ hh) q2
        refine e14 B fun out e1 e2 hlen BB => ?_
        subst e1; subst e2
        exact .mk N (fun x => plain_fold pit _ _) (vit _ _ _ tt hfit _ _ _ q1) BB hlen
include h1 h2 h3 W in
theorem se_comp {elt : Expr} {gens : List Comprehension} {scope : Scope} {p : Pos} {ce : CE} (h : stComp (strip gt f) (strips gt f) (stripSrc gt f C.env.scope.names) C.env.scope.names elt scope gens = some ce) : Meant C K (.ListComp elt gens scope p) ce :=
  pack rfl rfl fun st d st1 q => by
    cases comp_runs h1 h2 h3 W (p := p) h q with
    | mk N hs src B hlen => exact r_comp W.ok N hs src B hlen
include h1 W in
theorem se_un {op : UnaryOp} {a : Expr} {p : Pos} {ce : CE} (h : (if op == .USub then (strip gt f C.env.scope.names a).map .neg else if op == .Not then (strip gt f C.env.scope.names a).map .not else none) = some ce) : Meant C K (.UnaryOp op a p) ce := by
  refine if_or h (fun ho h => ?_) fun _ h => and2 (if_some h) fun ho h => ?_
  · obtain rfl := eq_of_beq ho
    refine mapR h fun ca ha => ?_
    refine and3 (h1 C W _ _ ha) fun _ va _ => ?_
    exact pack rfl rfl fun st d st1 q => by
      refine e22 (bd_some q) fun x s2 q1 q2 => ?_
      cases x with
      | int i => obtain ⟨rfl, rfl⟩ := some2 q2; exact r_neg (va _ _ _ q1)
      | _ => exact noS q2
  · obtain rfl := eq_of_beq ho
    refine mapR h fun ca ha => ?_
    refine and3 (h1 C W _ _ ha) fun _ va ta => ?_
    have nb : ∀ {x : PyData} {st d st1}, notK x st = some (d, st1) → ∃ b, x = .bool b ∧ d = .bool (!b) ∧ st1 = st := fun {x st d st1} q => by
      cases x with
      | bool b => obtain ⟨rfl, rfl⟩ := some2 q; exact ⟨b, rfl, rfl, rfl⟩
      | _ => exact noS q
    refine ⟨rfl, fun st d st1 q => e22 (bd_some q) fun x s2 q1 q2 => e13 (nb q2) fun b eq1 eq2 eq3 => ?_, fun st b st1 q => e22 (bd_some q) fun x s2 q1 q2 => e13 (nb q2) fun b' eq1 eq2 eq3 => ?_⟩
    · subst eq1; subst eq2; subst eq3; exact r_not (va _ _ _ q1)
    · subst eq1; subst eq3; obtain rfl := PyData.bool.inj eq2; exact t_not (ta _ _ _ q1)
include h2 W in
theorem se_bool {op : BoolOp} {es : List Expr} {p : Pos} {ce : CE} (h : (if es.isEmpty then none else (match op with
    | .And => (strips gt f C.env.scope.names es).map .and
    | .Or => (strips gt f C.env.scope.names es).map .or)) = some ce) : Meant C K (.BoolOp op es p) ce := by
  refine and2 (if_not h) fun hne h => ?_
  · cases op with
    | And =>
      refine mapR h fun ces hc => ?_
      have L := h2 C W _ _ hc
      exact ⟨rfl, fun st d st1 q => by exact L.and1 (fun z => hne (by rw [z]; rfl)) _ _ _ _ q, fun st b st1 q => by exact L.and2 _ _ _ _ q _⟩
    | Or =>
      refine mapR h fun ces hc => ?_
      have L := h2 C W _ _ hc
      exact ⟨rfl, fun st d st1 q => by exact L.or1 (fun z => hne (by rw [z]; rfl)) _ _ _ _ q, fun st b st1 q => by exact L.or2 _ _ _ _ q _⟩
include h1 W in
theorem se_ite {t a b : Expr} {p : Pos} {ce : CE} (h : ((strip gt f C.env.scope.names t).bind fun t => both (strip gt f C.env.scope.names) (.ite t) a b) = some ce) : Meant C K (.IfExp t a b p) ce := by
  refine bindE h fun ct ht h => ?_
  refine and3 (h1 C W _ _ ht) fun _ vt tt => ?_
  refine e23 (se_both h1 h W) fun ca cb ma mb eq1 => ?_; subst eq1
  refine ⟨rfl, fun st d st1 q => ?_, fun st b st1 q => ?_⟩
  · refine e22 (iteK_some q) fun c s2 q1 q2 => ?_
    refine r_ite (tt _ _ _ q1) ?_
    cases c with
    | true => exact ma.2.1 _ _ _ q2
    | false => exact mb.2.1 _ _ _ q2
  · refine e22 (iteK_some q) fun c s2 q1 q2 => ?_
    refine t_ite (tt _ _ _ q1) ?_
    cases c with
    | true => exact ma.2.2 _ _ _ q2
    | false => exact mb.2.2 _ _ _ q2
include h2 W in
theorem se_tup {es : List Expr} {k : Nat} {p : Pos} {ce : CE} (h : (if Nat.ble es.length 1000 then (strips gt f C.env.scope.names es).map .tup else none) = some ce) : Meant C K (.Tuple es k p) ce := by
  refine and2 (if_some h) fun hl h => ?_
  · refine mapR h fun ces hc => ?_
    have L := h2 C W _ _ hc
    exact pack rfl rfl fun st d st1 q => by
      refine e22 (bd_some q) fun ds s2 q1 q2 => ?_
      refine and2 (tupK_some q2) fun eq1 eq2 => ?_; subst eq1; subst eq2
      exact r_tup (L.args _ _ _ _ q1) (lenOk_le.mpr (by rw [evs_len q1, ← L.len]; exact Nat.le_trans (Nat.le_of_ble_eq_true hl) (by decide)))
include h2 W in
theorem se_lst {es : List Expr} {p : Pos} {ce : CE} (h : (if Nat.ble es.length 1000 then (strips gt f C.env.scope.names es).map .lst else none) = some ce) : Meant C K (.List es p) ce := by
  refine and2 (if_some h) fun hl h => ?_
  · refine mapR h fun ces hc => ?_
    have L := h2 C W _ _ hc
    exact pack rfl rfl fun st d st1 q => by
      refine e22 (bd_some q) fun ds s2 q1 q2 => ?_
      refine and2 (lstK_some q2) fun eq1 eq2 => ?_; subst eq1; subst eq2
      exact r_lst (L.args _ _ _ _ q1) (lenOk_le.mpr (by rw [evs_len q1, ← L.len]; exact Nat.le_trans (Nat.le_of_ble_eq_true hl) (by decide)))
include h1 W in
theorem se_bin {op : Operator} {a b : Expr} {p : Pos} {ce : CE} (h : both (strip gt f C.env.scope.names) (.bin op) a b = some ce) : Meant C K (.BinOp a op b p) ce := by
  refine e23 (se_both h1 h W) fun ca cb ma mb eq1 => ?_; subst eq1
  exact pack rfl rfl fun st d st1 q => by
    refine e43 (bd2_some q) fun x s2 y s3 q1 q2 q3 => ?_
    refine and2 (lift_some q3) fun q4 eq1 => ?_; subst eq1
    exact r_bin (ma.2.1 _ _ _ q1) (mb.2.1 _ _ _ q2) q4
include h1 h2 h3 in
theorem se_succ : SE K fa gt (f + 1) := by
  intro C W e ce h
  have k : nameOf e = none → stE gt (strip gt f) (strips gt f) (stripSrc gt f C.env.scope.names) C.env.scope.names e = some ce := fun hn => by
    rw [strip, hn] at h
    exact (nov_some h).1
  cases e with
  | Name x p => exact se_name W h
  | Constant c kk p => exact se_con (k rfl)
  | BoolOp op es p => exact se_bool h2 W (k rfl)
  | BinOp a op b p => exact se_bin h1 W (k rfl)
  | UnaryOp op a p => exact se_un h1 W (k rfl)
  | IfExp t a b p => exact se_ite h1 W (k rfl)
  | Compare a ops bs p =>
    have h := k rfl
    cases ops with
    | nil => exact noS h
    | cons op r => cases r with
      | cons => exact noS h
      | nil => cases bs with
        | nil => exact noS h
        | cons b r => cases r with
          | nil => exact se_cmp h1 W h
          | cons => exact noS h
  | Tuple es kk p => exact se_tup h2 W (k rfl)
  | List es p => exact se_lst h2 W (k rfl)
  | Subscript a b p =>
    have h := k rfl
    cases b with
    | Slice x y z q => exact se_cut h1 W h
    | _ => exact se_idx h1 W h
  | Call fn args kws pos =>
    refine and2 (if_some (k rfl)) fun hk h6 => ?_
    clear k h
    obtain rfl := List.isEmpty_iff.mp hk
    cases fn with
    | Name x p => exact pack rfl rfl fun st d st1 q => se_callN h1 h2 W q h6
    | Attribute o m ap =>
      refine and2 (if_some h6) fun hp h => bindE h fun i hi h5 => ?_
      refine e22 (locOf_name hi) fun y qq eq1 n => ?_; subst eq1
      exact se_meth h1 W n (andB hp).1 h5
    | _ => exact noS h6
  | ListComp elt gens scope p => exact se_comp h1 h2 h3 W (k rfl)
  | _ => exact noS (k rfl)
end
end
section
variable {K : Or} {fa : FN → Addr} {gt : Str → Option GV} {f : Nat}
theorem sl_succ (h1 : SE K fa gt f) (h2 : SL K fa gt f) : SL K fa gt (f + 1) := by
  intro C W es ces h
  cases es with
  | nil => refine elim1 h ?_; exact sl_nil
  | cons e r =>
    refine bindE h fun a ha h => ?_
    refine mapR h fun l hl => ?_
    refine and3 (h1 C W _ _ ha) fun p v t => ?_
    exact sl_cons p v t (h2 C W _ _ hl)
theorem src_of_it {C : Cx} (O : C.Ok) {e : Expr} {ce : CE} (pl : plainE e = true) (ve : ∀ st d st1, ev K ce st = some (d, st1) → EvE C e st d st1) :
    plainE e = true ∧ ∀ ns target tgt, tgtOf ns target = some tgt → tgtFits tgt .it = true → ∀ st ds st1, evSrc K .it [ce] st = some (ds, st1) → SrcP C target tgt e st ds st1 := by
  refine ⟨pl, fun ns target tgt ht hf st ds st1 q => ?_⟩
  refine e22 (bd_some q) fun x st3 q1 q2 => ?_
  refine and2 (lift_some q2) fun q3 eq1 => ?_; subst eq1
  refine e43 (bd2_some q1) fun a s2 b s3 q4 q5 q6 => ?_
  obtain ⟨rfl, rfl⟩ := some2 q5
  obtain ⟨rfl, rfl⟩ := some2 q6
  refine e12 (srcV_it q3) fun d e1 e2 => ?_
  cases e1
  rcases tgtOf_kind ht with ⟨i, rfl, hn⟩ | ⟨i, j, rfl, hn⟩
  · exact src_it O hn (ve _ _ _ q4) e2
  · exact fTr hf
theorem srcBf_some {ns : List (Str × NameKind)} {x : Str} {g : Bf} (h : srcBf gt ns x = some g) : globOf gt ns x = some (.bf g) := by
  unfold srcBf at h
  cases hq : globOf gt ns x with
  | none => rw [hq] at h; exact noS h
  | some v =>
    rw [hq] at h
    cases v with
    | bf f => exact and2 (if_some h) fun _ h => Option.some.inj h ▸ rfl
    | _ => exact noS h
noncomputable def SrcOf (C : Cx) (K : Or) (e : Expr) (sk : SK) (ces : List CE) : Prop := plainE e = true ∧ ∀ ns target tgt, tgtOf ns target = some tgt → tgtFits tgt sk = true → ∀ st ds st1, evSrc K sk ces st = some (ds, st1) → SrcP C target tgt e st ds st1
theorem ss_range (h1 : SE K fa gt f) {C : Cx} (W : Wld C K fa gt) {x : Str} {p pos : Pos} {args : List Expr} {sk : SK} {ces : List CE} (hg : globOf gt C.env.scope.names x = some (.bf .range)) (h : stSrcR (strip gt f C.env.scope.names) args = some (sk, ces)) : SrcOf C K (.Call (.Name x p) args [] pos) sk ces := by
  cases args with
  | nil => exact noS h
  | cons a r => cases r with
    | nil =>
      refine mapE h fun ca ha hh => ?_
      cases hh
      refine and3 (h1 C W _ _ ha) fun pa va ta => ?_
      refine ⟨rfl, fun ns target tgt ht hf st ds st1 q => e22 (bd_some q) fun y st3 q1 q2 => and2 (lift_some q2) fun q3 eq1 => ?_⟩
      subst eq1
      have hs : starOk [a] = true := by rw [plain_star pa]; rfl
      rcases tgtOf_kind ht with ⟨i, rfl, hn⟩ | ⟨i, j, rfl, hn⟩
      · exact src_range1 W.ok W.T hn hg hs ((sl_cons pa va ta sl_nil).args pos _ _ _ q1) q3
      · exact fTr hf
    | cons b r => cases r with
      | cons => exact noS h
      | nil =>
        refine bindE h fun ca ha h => mapE h fun cb hb hh => ?_
        cases hh
        refine and3 (h1 C W _ _ ha) fun pa va ta => and3 (h1 C W _ _ hb) fun pb vb tb => ?_
        refine ⟨rfl, fun ns target tgt ht hf st ds st1 q => e22 (bd_some q) fun y st3 q1 q2 => and2 (lift_some q2) fun q3 eq1 => ?_⟩
        subst eq1
        have hs : starOk [a, b] = true := by rw [plain_star pa, plain_star pb]; rfl
        rcases tgtOf_kind ht with ⟨i, rfl, hn⟩ | ⟨i, j, rfl, hn⟩
        · exact src_range2 W.ok W.T hn hg hs ((sl_cons pa va ta (sl_cons pb vb tb sl_nil)).args pos _ _ _ q1) q3
        · exact fTr hf
theorem ss_enum (h1 : SE K fa gt f) {C : Cx} (W : Wld C K fa gt) {x : Str} {p pos : Pos} {args : List Expr} {sk : SK} {ces : List CE} (hg : globOf gt C.env.scope.names x = some (.bf .enumerate)) (h : stSrcE (strip gt f C.env.scope.names) args = some (sk, ces)) : SrcOf C K (.Call (.Name x p) args [] pos) sk ces := by
  cases args with
  | nil => exact noS h
  | cons a r => cases r with
    | cons => exact noS h
    | nil =>
      refine mapE h fun ca ha hh => ?_
      cases hh
      refine and3 (h1 C W _ _ ha) fun pa va ta => ?_
      refine ⟨rfl, fun ns target tgt ht hf st ds st1 q => e22 (bd_some q) fun y st3 q1 q2 => and2 (lift_some q2) fun q3 eq1 => ?_⟩
      subst eq1
      have hs : starOk [a] = true := by rw [plain_star pa]; rfl
      rcases tgtOf_kind ht with ⟨i, rfl, hn⟩ | ⟨i, j, rfl, hn⟩
      · exact fTr hf
      · exact src_enum W.ok W.T hn hg hs ((sl_cons pa va ta sl_nil).args pos _ _ _ q1) q3
theorem ss_succ (h1 : SE K fa gt f) : SS K fa gt (f + 1) := by
  intro C W e sk ces h
  show SrcOf C K e sk ces
  have one : ∀ {e : Expr}, ((strip gt f C.env.scope.names e).map fun a => (SK.it, [a])) = some (sk, ces) → SrcOf C K e sk ces := fun h => by
    refine mapE h fun ca ha hh => ?_
    cases hh
    refine and3 (h1 C W _ _ ha) fun pa va _ => ?_
    exact src_of_it W.ok pa va
  replace h : stSrc gt (strip gt f C.env.scope.names) C.env.scope.names e = some (sk, ces) := h
  cases e with
  | Call fn args kws pos =>
    refine if_or h (fun hk h2 => ?_) fun _ h => one h
    clear h
    cases fn with
    | Name x p =>
      have h3 : stSrcN (strip gt f C.env.scope.names) (.Call (.Name x p) args kws pos) args (srcBf gt C.env.scope.names x) = some (sk, ces) := h2
      clear h2
      cases hs : srcBf gt C.env.scope.names x with
      | none => rw [hs] at h3; exact one h3
      | some g =>
        rw [hs] at h3
        have hg := srcBf_some hs
        obtain rfl := List.isEmpty_iff.mp hk
        cases g with
        | range => exact ss_range h1 W hg h3
        | enumerate => exact ss_enum h1 W hg h3
        | _ => exact noS h3
    | Attribute o m ap =>
      refine if_or h2 (fun ha h3 => ?_) fun _ h => one h
      clear h2
      refine and2 (if_some h3) fun hm h4 => mapE h4 fun i hi hh => ?_
      clear h3 h4
      cases hh
      obtain rfl := List.isEmpty_iff.mp hk
      obtain rfl := List.isEmpty_iff.mp ha
      refine e22 (locOf_name hi) fun y qq eq1 n => ?_; subst eq1
      refine and2 (andB hm) fun hm _ => and2 (andB hm) fun hm hp => ?_
      obtain rfl := eq_of_beq hm
      refine ⟨rfl, fun ns target tgt ht hf st ds st1 q => ?_⟩
      rcases tgtOf_kind ht with ⟨i, rfl, hn⟩ | ⟨i, j, rfl, hn⟩
      · exact fTr hf
      · exact src_items W.ok n hn hp q
    | _ => exact one h2
  | _ => exact one h
theorem s_all : ∀ f : Nat, SE K fa gt f ∧ SL K fa gt f ∧ SS K fa gt f
  | 0 => by
    refine ⟨fun C W e ce h => ?_, fun C W es ces h => ?_, fun C W e sk ces h => ?_⟩
    · exact noS h
    · cases es with
      | nil => refine elim1 h ?_; exact sl_nil
      | cons e r => exact noS h
    · exact noS h
  | f + 1 => by
    refine and3 (s_all f) fun h1 h2 h3 => ?_
    exact ⟨se_succ h1 h2 h3, sl_succ h1 h2, ss_succ h1⟩
end
section
variable {K : Or} {fa : FN → Addr} {gt : Str → Option GV}
theorem strip_list {f : Nat} {ns : List (Str × NameKind)} {elt : Expr} {gens : List Comprehension} {scope : Scope} {q : Pos} {c : CE} (h : strip gt (f + 1) ns (.ListComp elt gens scope q) = some c) : stComp (strip gt f) (strips gt f) (stripSrc gt f ns) ns elt scope gens = some c := by
  exact (nov_some h).1
theorem stComp_comp {r : List (Str × NameKind) → Expr → Option CE} {rs : List (Str × NameKind) → List Expr → Option (List CE)} {src : Expr → Option (SK × List CE)} {ns : List (Str × NameKind)} {elt : Expr} {scope : Scope} {gens : List Comprehension} {c : CE} (h : stComp r rs src ns elt scope gens = some c) : isComp c = true := by
  unfold stComp at h
  split at h
  · refine and2 (if_some h) fun _ h => ?_
    · refine bindE h fun _ _ h => ?_
      refine bindE h fun _ _ h => ?_
      refine bindE h fun _ _ h => ?_
      refine and2 (if_some h) fun _ h => ?_
      · refine bindE h fun _ _ h => ?_
        refine mapE h fun _ _ eq1 => ?_; subst eq1
        rfl
  · refine and2 (if_some h) fun _ h => ?_
    · refine bindE h fun _ _ h => ?_
      refine bindE h fun _ _ h => ?_
      refine bindE h fun _ _ h => ?_
      refine and2 (if_some h) fun _ h => ?_
      · refine bindE h fun _ _ h => ?_
        refine e23 (both_some h) fun _ _ _ _ eq1 => ?_; subst eq1
        rfl
  · exact noS h
theorem strip_comp {f : Nat} {ns : List (Str × NameKind)} {e : Expr} {c : CE} (h : strip gt f ns e = some c) (hc : isComp c = false) : notComp e = true := by
  cases f with
  | zero => exact noS h
  | succ f =>
    cases e with
    | ListComp => rw [stComp_comp (strip_list h)] at hc; exact tFa hc
    | SetComp => exact noS ((nov_some h).1)
    | DictComp => exact noS ((nov_some h).1)
    | _ => rfl
theorem mapO_len {α β : Type} {g : α → Option β} : ∀ {l : List α} {r : List β}, mapO g l = some r → l.length = r.length
  | [], r, h => by obtain rfl := Option.some.inj h; rfl
  | a :: l, r, h => bindE h fun b hb h2 => mapR (M := fun r => (a :: l).length = r.length) h2 fun m hm => congrArg (· + 1) (mapO_len hm)
theorem keys_all : ∀ {l : List (Option Expr)} {r : List Str}, mapO keyStr l = some r → l.all (·.isSome) = true
  | [], r, h => rfl
  | none :: l, r, h => noS h
  | some a :: l, r, h => bindE h fun b hb h2 => mapE h2 fun m hm _ => by rw [List.all_cons, keys_all hm]; rfl
theorem rh_all {f : Nat} {C : Cx} (W : Wld C K fa gt) {e : Expr} {r : RH} (h : stripRH gt f C.env.scope.names e = some r) :
    plainE e = true ∧ notComp e = true ∧ ∀ st sl st1, evRH K r st = some (sl, st1) → EvR C (eval e C.env) st sl st1 := by
  refine and3 (s_all (K := K) (fa := fa) (gt := gt) f) fun h1 h2 h3 => ?_
  have other : stRHe (strip gt f C.env.scope.names e) = some r → plainE e = true ∧ notComp e = true ∧ ∀ st sl st1, evRH K r st = some (sl, st1) → EvR C (eval e C.env) st sl st1 := fun h => by
    refine bindE h fun c hc h2 => and2 (if_not h2) fun hn h3 => ?_
    obtain rfl := Option.some.inj h3
    refine and3 (h1 C W _ _ hc) fun p v t => ?_
    refine ⟨p, strip_comp hc (Bool.eq_false_iff.mpr hn), fun st sl st1 q => e22 (bd_some q) fun d s2 q1 q2 => ?_⟩
    obtain ⟨rfl, rfl⟩ := some2 q2
    exact rh_e (v _ _ _ q1)
  cases e with
  | List es p =>
    refine and2 (if_some h) fun hl h4 => mapE h4 fun ces hc eq1 => ?_
    subst eq1
    have L := h2 C W _ _ hc
    refine ⟨rfl, rfl, fun st sl st1 q => e22 (bd_some q) fun ds s2 q1 q2 => ?_⟩
    obtain ⟨rfl, rfl⟩ := some2 q2
    exact rh_l (L.args _ _ _ _ q1) (lenOk_le.mpr (by rw [evs_len q1, ← L.len]; exact Nat.le_trans (Nat.le_of_ble_eq_true hl) (by decide)))
  | Dict keys vs pos =>
    refine if_or h (fun hz h4 => ?_) fun hne h4 => ?_
    · refine and2 (andB hz) fun z1 z2 => ?_
      obtain rfl := List.isEmpty_iff.mp z1
      obtain rfl := List.isEmpty_iff.mp z2
      obtain rfl := Option.some.inj h4
      refine ⟨rfl, rfl, fun st sl st1 q => ?_⟩
      obtain ⟨rfl, rfl⟩ := some2 q
      exact rh_d W.ok
    · refine bindE h4 fun ks hk h5 => bindE h5 fun ces hv h6 => and2 (if_some h6) fun hc h7 => ?_
      obtain rfl := Option.some.inj h7
      simp only [Bool.and_eq_true, beq_iff_eq, decide_eq_true_eq] at hc
      refine and2 hc fun hc c3 => and2 hc fun c1 c2 => ?_
      have hl := mapO_len hk
      have L := h2 C W _ _ hv
      have hlv : keys.length = vs.length := by rw [hl, c1, L.len]
      refine ⟨rfl, rfl, fun st sl st1 q => e22 (bd_some q) fun ds s2 q1 q2 => ?_⟩
      obtain ⟨rfl, rfl⟩ := some2 q2
      refine rh_ds (keys_all hk) hlv (fun z => ?_) (by rw [hl]; exact c2) c3 fun ex => (h2 (C.hold ex) (W.hold ex) _ _ hv).dic _ _ _ _ _ _ hk hlv q1
      subst z
      have : vs = [] := List.length_eq_zero_iff.mp hlv.symm
      exact hne (by rw [this]; rfl)
  | _ => exact other h
theorem rhs_all {f : Nat} : ∀ {es : List Expr} {rs : List RH} {C : Cx}, Wld C K fa gt → mapO (stripRH gt f C.env.scope.names) es = some rs →
    starOk es = true ∧ ∀ pos st sls st1, evRHs K rs st = some (sls, st1) → EvRs C pos es st sls st1 ∧ sls.length = es.length
  | [], rs, C, W, h => by
    obtain rfl := Option.some.inj h
    exact ⟨rfl, fun pos st sls st1 q => by obtain ⟨rfl, rfl⟩ := some2 q; exact ⟨rs_nil, rfl⟩⟩
  | e :: r, rs, C, W, h => by
    refine bindE h fun a ha h2 => mapE h2 fun l hl eq1 => ?_
    subst eq1
    refine and3 (rh_all W ha) fun p n v => and2 (rhs_all W hl) fun s0 g0 => ?_
    have hs : starOk (e :: r) = true := by rw [plain_star p]; exact s0
    refine ⟨hs, fun pos st sls st1 q => e43 (bd2_some q) fun a s2 b s3 q1 q2 q3 => ?_⟩
    obtain ⟨rfl, rfl⟩ := some2 q3
    exact ⟨rs_cons (star_cons hs).1 (v _ _ _ q1) fun ex => ((rhs_all (C := C.hold ex) (W.hold ex) hl).2 pos _ _ _ q2).1, congrArg (· + 1) (g0 pos _ _ _ q2).2⟩
theorem s_comp {f : Nat} {C : Cx} (W : Wld C K fa gt) {x : Str} {i : Nat} {p q spos : Pos} {elt : Expr} {gens : List Comprehension} {scope : Scope} {c : CE} (N : NameOk C x i .local) (hl : (p.line == q.line) = true)
    (hsc : (scope.names.any fun y => y.1 == x && (y.2 == .local || y.2 == .cell)) = false) (h : strip gt f C.env.scope.names (.ListComp elt gens scope q) = some c) {st st1 : St} {o : Option PyData}
    (e : bd (ev K c st) (ownK i) = some (o, st1)) : EvS C (PySem.exec (.Assign [.Name x p] (.ListComp elt gens scope q) spos) C.env) st o st1 := by
  have hsw : swapsWith (.ListComp elt gens scope q) (some (.Name x p)) spos.line C.env = pure true := by
    have hk : C.env.kindOf x = some .local := (posOf_get N.pos).2
    have hb := blockKind_fn W.ok
    have hp : (p.line == (Expr.ListComp elt gens scope q).pos.line) = true := hl
    unfold swapsWith
    simp only [hb, hk, hp, hsc]
    rfl
  cases f with
  | zero => exact noS h
  | succ f =>
    refine and3 (s_all (K := K) (fa := fa) (gt := gt) f) fun h1 h2 h3 => ?_
    refine e22 (bd_some e) fun d s1 e1 e2 => ?_
    cases comp_runs h1 h2 h3 W (p := q) (strip_list h) e1 with
    | mk Nn hs src B hlen =>
      obtain ⟨rfl, rfl⟩ := some2 e2
      exact s_asgC W.ok Nn hs src B hlen N hsw
end
theorem doneK_some {o : Option St} {r : Option PyData} {st : St} (h : doneK o = some (r, st)) : r = none ∧ o = some st := by
  cases o with
  | none => exact noS h
  | some s2 => obtain ⟨rfl, rfl⟩ := some2 h; exact ⟨rfl, rfl⟩
theorem doneK_none {o : Option St} {r : Option PyData} {st : St} (h : doneK o = some (r, st)) : r = none := (doneK_some h).1
theorem unpK_none {is : List Nat} {x : PyData} {st : St} {r : Option PyData} {st2 : St} (h : unpK is x st = some (r, st2)) : r = none := by
  cases x with
  | tuple ds => exact doneK_none h
  | _ => exact noS h
section
variable (K : Or) (fa : FN → Addr) (gt : Str → Option GV) (f : Nat)
noncomputable def SX : Prop := ∀ (C : Cx), Wld C K fa gt → ∀ s cs, stripS gt f C.env.scope.names s = some cs → ∀ st o st1, exec K cs st = some (o, st1) → EvS C (PySem.exec s C.env) st o st1
noncomputable def SXs : Prop := ∀ (C : Cx), Wld C K fa gt → ∀ s cs, stripSs gt f C.env.scope.names s = some cs → ∀ st o st1, execs K cs st = some (o, st1) → EvS C (PySem.execs s C.env) st o st1
end
section
variable {K : Or} {fa : FN → Addr} {gt : Str → Option GV} {f : Nat}
theorem sxs_succ (h1 : SX K fa gt f) (h2 : SXs K fa gt f) : SXs K fa gt (f + 1) := by
  intro C W s cs h st o st1 q
  cases s with
  | nil => obtain rfl := Option.some.inj h; refine elim2 q ?_; exact s_nil
  | cons a r =>
    refine bindE h fun ca ha h => ?_
    refine mapE h fun cr hr eq1 => ?_; subst eq1
    rcases seqK_some q with ⟨st2, q1, q2⟩ | ⟨d, rfl, q1⟩
    · exact s_cons (h1 C W _ _ ha _ _ _ q1) (h2 C W _ _ hr _ _ _ q2)
    · exact s_ret_cons (h1 C W _ _ ha _ _ _ q1)
theorem tupOf_some {e : Expr} {es : List Expr} (h : tupOf e = some es) : ∃ k p, e = .Tuple es k p := by
  cases e with
  | Tuple l k p => obtain rfl := Option.some.inj h; exact ⟨k, p, rfl⟩
  | _ => exact noS h
theorem compAt_some {e : Expr} {sc : Scope} {q : Pos} (h : compAt e = some (sc, q)) : ∃ elt gens, e = .ListComp elt gens sc q := by
  cases e with
  | ListComp elt gens s2 q2 => obtain ⟨rfl, rfl⟩ := some2 h; exact ⟨elt, gens, rfl⟩
  | _ => exact noS h
theorem appOf_some {e o a : Expr} {m : Str} (h : appOf e = some (o, m, a)) : ∃ ap pos, e = .Call (.Attribute o m ap) [a] [] pos ∧ (ap.endLine == pos.line) = true := by
  cases e with
  | Call f args kws pos =>
    refine and2 (if_some h) fun hk h2 => ?_
    obtain rfl := List.isEmpty_iff.mp hk
    cases f with
    | Attribute o2 m2 ap => cases args with
      | nil => exact noS h2
      | cons a2 r => cases r with
        | cons => exact noS h2
        | nil =>
          refine and2 (if_some h2) fun hp h3 => ?_
          refine and2 (some2 h3) fun e1 e2 => and2 (Prod.mk.inj e2) fun e2 e3 => ?_
          subst e1; subst e2; subst e3
          exact ⟨ap, pos, rfl, hp⟩
    | _ => exact noS h2
  | _ => exact noS h
noncomputable def SM (K : Or) (C : Cx) (s : Stmt) (cs : CS) : Prop := ∀ st o st1, exec K cs st = some (o, st1) → EvS C (PySem.exec s C.env) st o st1
theorem sx_pair {C : Cx} (W : Wld C K fa gt) {ts : List Expr} {v : Expr} {k : Nat} {tp pos : Pos} {cs : CS} (h : stPair gt f C.env.scope.names ts v = some cs) : SM K C (.Assign [.Tuple ts k tp] v pos) cs := by
  refine and3 (s_all (K := K) (fa := fa) (gt := gt) f) fun g1 g2 g3 => ?_
  intro st o st1 q
  cases hv : tupOf v with
  | some vs =>
    unfold stPair at h
    rw [hv] at h
    refine e21 (tupOf_some hv) fun _ vp eq1 => ?_; subst eq1
    refine and2 (if_some h) fun hc h2 => bindE h2 fun is hi h3 => mapE h3 fun rs hr eq1 => ?_
    subst eq1
    refine and2 (andB hc) fun hc c3 => and2 (andB hc) fun c1 c2 => ?_
    refine and2 (rhs_all W hr) fun s0 k0 => ?_
    refine e22 (bd_some q) fun sls s2 q1 q2 => ?_
    refine and2 (k0 vp _ _ _ q1) fun v1 v2 => ?_
    refine and2 (doneK_some q2) fun eq1 hp => ?_; subst eq1
    exact s_asgT W.ok hi ((Bool.or_eq_true _ _).mp c2 |>.imp eq_of_beq eq_of_beq) (eq_of_beq c1) c3 s0 v1 v2 hp
  | none =>
    unfold stPair at h
    rw [hv] at h
    refine bindE h fun is hi h2 => bindE h2 fun ce he h3 => and2 (if_not h3) fun hnc h4 => ?_
    obtain rfl := Option.some.inj h4
    refine e22 (bd_some q) fun x s2 q1 q2 => ?_
    cases unpK_none q2
    exact s_asgU W.ok hi (strip_comp he (Bool.eq_false_iff.mpr hnc)) (fun vs k p z => by subst z; exact sNo hv) ((g1 C W _ _ he).2.1 _ _ _ q1) q2
theorem sx_asg {C : Cx} (W : Wld C K fa gt) {t v : Expr} {pos : Pos} {cs : CS} (h : stAsg gt f C.env.scope.names t v = some cs) : SM K C (.Assign [t] v pos) cs := by
  refine and3 (s_all (K := K) (fa := fa) (gt := gt) f) fun g1 g2 g3 => ?_
  cases t with
  | Tuple ts k tp => exact sx_pair W h
  | Subscript ob k tp =>
    intro st o st1 q
    unfold stAsg at h
    refine bindE h fun i hi h => ?_
    refine bindE h fun ck hk h => ?_
    refine bindE h fun ce he h => ?_
    split at h
    · exact noS h
    · rename_i hnc
      obtain rfl := Option.some.inj h
      refine e22 (locOf_name hi) fun y qq eq1 n => ?_; subst eq1
      refine e43 (bd2_some q) fun z s2 y' s3 q1 q2 q3 => ?_
      refine and2 (gd_some q2) fun q4 q5 => ?_
      cases doneK_none q3
      exact s_set W.ok n (strip_comp he (Bool.eq_false_iff.mpr hnc)) q4 ((g1 C W _ _ he).2.1 _ _ _ q1) ((g1 C W _ _ hk).2.1 _ _ _ q5) q3
  | Name x p =>
    intro st o st1 q
    unfold stAsg at h
    refine bindE h fun i hi h => ?_
    have N := loc_name hi
    unfold stName at h
    split at h
    · rename_i hq
      refine e21 (compAt_some hq) fun _ _ eq1 => ?_; subst eq1
      split at h
      · rename_i hc
        refine mapE h fun ce hce eq1 => ?_; subst eq1
        simp only [Bool.and_eq_true, Bool.not_eq_true'] at hc
        exact s_comp W N hc.1 hc.2 hce q
      · exact noS h
    · refine mapE h fun rh hrh eq1 => ?_; subst eq1
      refine and3 (rh_all W hrh) fun p1 p2 p3 => ?_
      refine e22 (bd_some q) fun sl s2 q1 q2 => ?_
      obtain ⟨rfl, rfl⟩ := some2 q2
      exact s_asg W.ok N p2 (p3 _ _ _ q1)
  | _ => exact noS h
theorem sx_aug {C : Cx} (W : Wld C K fa gt) {t v : Expr} {op : Operator} {pos : Pos} {cs : CS} (h : (if op == .Add then (locOf C.env.scope.names t).bind fun i => (strip gt f C.env.scope.names v).map (.aug i op) else none) = some cs) : SM K C (.AugAssign t op v pos) cs := by
  intro st o st1 q
  split at h
  · rename_i hop
    cases beq_iff_eq.mp hop
    refine bindE h fun i hi h => ?_
    refine mapE h fun ce he eq1 => ?_; subst eq1
    refine e22 (locOf_name hi) fun x p eq1 N => ?_; subst eq1
    refine e43 (bd2_some q) fun y s2 z s3 q1 q2 q3 => ?_
    unfold rdd at q1
    split at q1
    · rename_i y' hy
      obtain ⟨rfl, rfl⟩ := some2 q1
      have hn : o = none := by
        unfold augK at q3
        split at q3
        · split at q3
          · obtain ⟨rfl, rfl⟩ := some2 q3; rfl
          · exact noS q3
        · exact noS q3
      subst hn
      exact s_aug (d := .none) W.ok N hy (((s_all f).1 C W _ _ he).2.1 _ _ _ q2) q3
    · exact noS q1
  · exact noS h
theorem sx_app {C : Cx} (W : Wld C K fa gt) {ob a : Expr} {m : Str} {ap pos spos : Pos} {cs : CS} (hp : (ap.endLine == pos.line) = true) (h : stApp gt f C.env.scope.names ob m a = some cs) : SM K C (.Expr (.Call (.Attribute ob m ap) [a] [] pos) spos) cs := by
  intro st o st1 q
  unfold stApp at h
  refine bindE h fun i hi h4 => ?_
  clear h
  refine bindE h4 fun ce he h => ?_
  clear h4
  refine e22 (locOf_name hi) fun x p eq1 N => ?_; subst eq1
  refine and3 ((s_all (K := K) (fa := fa) (gt := gt) f).1 C W _ _ he) fun pa va ta => ?_
  have hs : starOk [a] = true := by rw [plain_star pa]; rfl
  split at h
  · rename_i hm
    obtain rfl := Option.some.inj h
    cases beq_iff_eq.mp hm
    refine and2 (gd_some (p := Slot.isL) (i := i) (f := fun st => bd (ev K ce st) (appK i)) q) fun q1 q2 => ?_
    refine e22 (bd_some q2) fun y s2 q3 q4 => ?_
    have hn : o = none := by
      unfold appK at q4
      split at q4
      · split at q4
        · obtain ⟨rfl, rfl⟩ := some2 q4; rfl
        · exact noS q4
      · exact noS q4
    subst hn
    exact s_app W.ok N hp q1 hs (l_cons (star_cons hs).1 (va _ _ _ q3) l_nil) q4
  · split at h
    · rename_i hm
      obtain rfl := Option.some.inj h
      cases beq_iff_eq.mp hm
      refine and2 (gd_some (p := Slot.isL) (i := i) (f := fun st => bd (ev K ce st) (extK i)) q) fun q1 q2 => ?_
      refine e22 (bd_some q2) fun y s2 q3 q4 => ?_
      have hn : o = none := by
        unfold extK at q4
        split at q4
        · split at q4
          · split at q4
            · obtain ⟨rfl, rfl⟩ := some2 q4; rfl
            · exact noS q4
          · exact noS q4
        · exact noS q4
      subst hn
      exact s_ext W.ok N hp q1 hs (l_cons (star_cons hs).1 (va _ _ _ q3) l_nil) q4
    · exact noS h
theorem sx_succ (h1 : SX K fa gt f) (h2 : SXs K fa gt f) : SX K fa gt (f + 1) := by
  intro C W s cs h
  refine and3 (s_all (K := K) (fa := fa) (gt := gt) f) fun g1 g2 g3 => ?_
  replace g1 := g1 C W
  have hx := h2
  replace h2 := h2 C W
  cases s with
  | Assign ts v p =>
    cases ts with
    | nil => exact noS ((show none = some cs from h))
    | cons t ts =>
      cases ts with
      | nil => exact sx_asg W h
      | cons => exact noS ((show none = some cs from h))
  | AugAssign t op v p => exact sx_aug W h
  | Expr e p =>
    obtain ⟨⟨ob, m, a⟩, he, h5⟩ := Option.bind_eq_some_iff.mp h
    refine e22 (appOf_some he) fun _ _ eq1 hp => ?_; subst eq1
    exact sx_app W hp h5
  | If t a b p =>
    refine bindE h fun ct ht h => ?_
    refine bindE h fun ca ha h => ?_
    refine mapE h fun cb hb eq1 => ?_; subst eq1
    intro st o st1 q
    refine e22 (iteK_some q) fun c s2 q1 q2 => ?_
    refine s_if ((g1 _ _ ht).2.2 _ _ _ q1) ?_
    cases c with
    | true => exact h2 _ _ ha _ _ _ q2
    | false => exact h2 _ _ hb _ _ _ q2
  | While t b o p =>
    refine and2 (if_some h) fun ho h => ?_
    cases List.isEmpty_iff.mp ho
    refine bindE h fun ct ht h => ?_
    refine mapE h fun cb hb eq1 => ?_; subst eq1
    intro st o st1 q
    refine e11 (of_whileC q) fun n q1 => ?_
    exact s_whl W.ok (fun st c st1 e => (g1 _ _ ht).2.2 _ _ _ e) (fun st o st1 e => h2 _ _ hb _ _ _ e) q1
  | For t it b o p =>
    refine and2 (if_some h) fun ho h => ?_
    cases List.isEmpty_iff.mp ho
    refine bindE h fun tt ht h => ?_
    obtain ⟨⟨sk, es⟩, hs, h⟩ := Option.bind_eq_some_iff.mp h
    refine and2 (if_some h) fun hf h => ?_
    refine mapE h fun cb hb eq1 => ?_; subst eq1
    refine and2 (g3 C W _ _ _ hs) fun pit vit => ?_
    intro st o st1 q
    refine e22 (bd_some q) fun ds s2 q1 q2 => ?_
    exact s_for W.ok (fun x => plain_fold pit _ _) ht (vit _ _ _ ht hf _ _ _ q1) (fun ex st o st1 e => hx (C.hold ex) (W.hold ex) _ _ hb _ _ _ e) q2
  | Return v p =>
    refine bindE h fun e eq1 h => ?_; subst eq1
    refine mapE h fun ce hce eq1 => ?_; subst eq1
    intro st o st1 q
    refine e22 (bd_some q) fun d s2 q1 q2 => ?_
    obtain ⟨rfl, rfl⟩ := some2 q2
    exact s_ret ((g1 _ _ hce).2.1 _ _ _ q1)
  | Raise =>
    cases (show some CS.raise = some cs from h)
    intro st o st1 q
    exact noS q
  | _ => exact noS ((show none = some cs from h))
theorem x_all : ∀ f : Nat, SX K fa gt f ∧ SXs K fa gt f
  | 0 => by
    refine ⟨fun C W s cs h => ?_, fun C W s cs h st o st1 q => ?_⟩
    · exact noS h
    · cases s with
      | nil => obtain rfl := Option.some.inj h; refine elim2 q ?_; exact s_nil
      | cons a r => exact noS h
  | f + 1 => ⟨sx_succ (x_all f).1 (x_all f).2, sxs_succ (x_all f).1 (x_all f).2⟩
end
mutual
noncomputable def noBind : CS → Bool
  | .setv .. => true
  | .cond _ a b => noBinds a && noBinds b
  | .ret _ => true
  | _ => false
noncomputable def noBinds : List CS → Bool
  | [] => true
  | c :: r => noBind c && noBinds r
end
section
variable {C : Cx} {st st1 st2 : St}
theorem m_ret {e : Expr} {pos : Pos} {d : PyData} (h : EvE C e st d st1) : EvSm C (PySem.exec (.Return (some e) pos) C.env) st (some d) st1 := fun E s m ow S Q G P =>
  wpAny_Return_some (h _ _ _ _ _ _ G fun v h1 t1 ow1 S1 le1 G1 r1 => P _ h1 t1 ow1 S1 le1 G1 ⟨v, rfl, r1⟩)
theorem m_nil : EvSm C (PySem.execs [] C.env) st none st := fun E s m ow S Q G P => wpAny_execs_nil (P _ s.heap s.toks ow S (StaysIn.refl S) G rfl)
theorem m_ret_cons {a : Stmt} {r : List Stmt} {d : PyData} (h : EvSm C (PySem.exec a C.env) st (some d) st1) : EvSm C (PySem.execs (a :: r) C.env) st (some d) st1 := fun E s m ow S Q G P =>
  wpAny_execs_cons (h _ _ _ _ _ _ G fun f h1 t1 ow1 S1 le1 G1 r1 => by
    obtain ⟨v, rfl, rv⟩ := r1
    exact P _ h1 t1 ow1 S1 le1 G1 ⟨v, rfl, rv⟩)
theorem m_cons {a : Stmt} {r : List Stmt} {o : Option PyData} (h : EvSm C (PySem.exec a C.env) st none st1) (k : EvSm C (PySem.execs r C.env) st1 o st2) : EvSm C (PySem.execs (a :: r) C.env) st o st2 := fun E s m ow S Q G P =>
  wpAny_execs_cons (h _ _ _ _ _ _ G fun f h1 t1 ow1 S1 le1 G1 r1 => by
    cases r1
    exact k _ _ _ _ _ _ G1 fun f h2 t2 ow2 S2 le2 G2 r2 => P f h2 t2 ow2 S2 (tr le1 le2) G2 r2)
theorem m_if {t : Expr} {a b : List Stmt} {pos : Pos} {c : Bool} {o : Option PyData} (ht : EvT C t st c st1) (hc : if c then EvSm C (PySem.execs a C.env) st1 o st2 else EvSm C (PySem.execs b C.env) st1 o st2) : EvSm C (PySem.exec (.If t a b pos) C.env) st o st2 := fun E s m ow S Q G P =>
  wpAny_If (ht _ _ _ _ _ _ G fun v h1 t1 ow1 S1 le1 G1 rv => by
    subst rv
    cases v with
    | true => exact hc _ _ _ _ _ _ G1 fun f h2 t2 ow2 S2 le2 G2 r2 => P f h2 t2 ow2 S2 (tr le1 le2) G2 r2
    | false => exact hc _ _ _ _ _ _ G1 fun f h2 t2 ow2 S2 le2 G2 r2 => P f h2 t2 ow2 S2 (tr le1 le2) G2 r2)
end
section
variable {K : Or} {fa : FN → Addr} {gt : Str → Option GV}
theorem pair_nb {f : Nat} {ns : List (Str × NameKind)} {ts : List Expr} {v : Expr} {cs : CS} (h : stPair gt f ns ts v = some cs) : noBind cs = false := by
  unfold stPair at h
  split at h
  · refine and2 (if_some h) fun _ h => ?_
    · refine bindE h fun _ _ h => ?_
      refine mapE h fun _ _ eq1 => ?_; subst eq1
      rfl
  · refine bindE h fun _ _ h => ?_
    refine bindE h fun _ _ h => ?_
    refine and2 (if_not h) fun _ h => ?_
    · obtain rfl := Option.some.inj h; rfl
theorem name_nb {f : Nat} {ns : List (Str × NameKind)} {x : Str} {p : Pos} {i : Nat} {v : Expr} {cs : CS} (h : stName gt f ns x p i v = some cs) : noBind cs = false := by
  unfold stName at h
  split at h
  · refine and2 (if_some h) fun _ h => ?_
    · refine mapE h fun _ _ eq1 => ?_; subst eq1
      rfl
  · refine mapE h fun _ _ eq1 => ?_; subst eq1
    rfl
theorem app_nb {f : Nat} {ns : List (Str × NameKind)} {o a : Expr} {m : Str} {cs : CS} (h : stApp gt f ns o m a = some cs) : noBind cs = false := by
  refine bindE h fun _ _ h => ?_
  refine bindE h fun _ _ h => ?_
  refine if_or h (fun _ h => ?_) (fun _ h => ?_)
  · obtain rfl := Option.some.inj h; rfl
  · refine and2 (if_some h) fun _ h => ?_
    · obtain rfl := Option.some.inj h; rfl
noncomputable def MM (K : Or) (C : Cx) (s : Stmt) (cs : CS) : Prop := ∀ st o st1, exec K cs st = some (o, st1) → EvSm C (PySem.exec s C.env) st o st1
noncomputable def MX (K : Or) (fa : FN → Addr) (gt : Str → Option GV) (f : Nat) : Prop := ∀ (C : Cx), Wld C K fa gt → ∀ s cs, stripS gt f C.env.scope.names s = some cs → noBind cs = true → MM K C s cs
noncomputable def MXs (K : Or) (fa : FN → Addr) (gt : Str → Option GV) (f : Nat) : Prop := ∀ (C : Cx), Wld C K fa gt → ∀ s cs, stripSs gt f C.env.scope.names s = some cs → noBinds cs = true → ∀ st o st1, execs K cs st = some (o, st1) → EvSm C (PySem.execs s C.env) st o st1
theorem m_asg {f : Nat} {C : Cx} (W : Wld C K fa gt) {t v : Expr} {pos : Pos} {cs : CS} (h : stAsg gt f C.env.scope.names t v = some cs) (nb : noBind cs = true) : MM K C (.Assign [t] v pos) cs := by
  refine and3 (s_all (K := K) (fa := fa) (gt := gt) f) fun g1 g2 g3 => ?_
  cases t with
  | Tuple ts k tp => rw [pair_nb h] at nb; exact fTr nb
  | Subscript ob k tp =>
    intro st o st1 q
    refine bindE h fun i hi h => ?_
    refine bindE h fun ck hk h => ?_
    refine bindE h fun ce he h => ?_
    refine and2 (if_not h) fun hnc h => ?_
    · obtain rfl := Option.some.inj h
      refine e22 (locOf_name hi) fun y qq eq1 n => ?_; subst eq1
      refine e43 (bd2_some q) fun z s2 y' s3 q1 q2 q3 => ?_
      refine and2 (gd_some q2) fun q4 q5 => ?_
      cases doneK_none q3
      exact s_setM W.ok n (strip_comp he (Bool.eq_false_iff.mpr hnc)) q4 ((g1 C W _ _ he).2.1 _ _ _ q1) ((g1 C W _ _ hk).2.1 _ _ _ q5) q3
  | Name x p =>
    refine bindE h fun i hi h => ?_
    rw [name_nb h] at nb; exact fTr nb
  | _ => exact noS h
theorem mxs_succ {f : Nat} (k1 : MX K fa gt f) (k2 : MXs K fa gt f) : MXs K fa gt (f + 1) := by
  intro C W s cs h nb st o st1 q
  cases s with
  | nil => obtain rfl := Option.some.inj h; refine elim2 q ?_; exact m_nil
  | cons a r =>
    refine bindE h fun ca ha h => ?_
    refine mapE h fun cr hr eq1 => ?_; subst eq1
    rw [noBinds, Bool.and_eq_true] at nb
    rcases seqK_some q with ⟨st2, q1, q2⟩ | ⟨d, rfl, q1⟩
    · exact m_cons (k1 C W _ _ ha nb.1 _ _ _ q1) (k2 C W _ _ hr nb.2 _ _ _ q2)
    · exact m_ret_cons (k1 C W _ _ ha nb.1 _ _ _ q1)
theorem mx_succ {f : Nat} (k2 : MXs K fa gt f) : MX K fa gt (f + 1) := by
  intro C W s cs h nb
  refine and3 (s_all (K := K) (fa := fa) (gt := gt) f) fun g1 g2 g3 => ?_
  replace g1 := g1 C W
  replace k2 := k2 C W
  cases s with
  | Assign ts v p =>
    cases ts with
    | nil => exact noS ((show none = some cs from h))
    | cons t ts =>
      cases ts with
      | nil => exact m_asg W h nb
      | cons => exact noS ((show none = some cs from h))
  | AugAssign t op v p =>
    refine bindE (if_some h).2 fun i hi h => ?_
    refine mapE h fun ce he eq1 => ?_; subst eq1
    cases nb
  | Expr e p =>
    obtain ⟨⟨ob, m, a⟩, he, h⟩ := Option.bind_eq_some_iff.mp h
    rw [app_nb h] at nb; exact fTr nb
  | If t a b p =>
    refine bindE h fun ct ht h => ?_
    refine bindE h fun ca ha h => ?_
    refine mapE h fun cb hb eq1 => ?_; subst eq1
    intro st o st1 q
    rw [noBind, Bool.and_eq_true] at nb
    refine e22 (iteK_some q) fun c s2 q1 q2 => ?_
    refine m_if ((g1 _ _ ht).2.2 _ _ _ q1) ?_
    cases c with
    | true => exact k2 _ _ ha nb.1 _ _ _ q2
    | false => exact k2 _ _ hb nb.2 _ _ _ q2
  | While t b o p =>
    refine bindE (if_some h).2 fun ct ht h => ?_
    refine mapE h fun cb hb eq1 => ?_; subst eq1
    cases nb
  | For t it b o p =>
    refine bindE (if_some h).2 fun tt ht h => ?_
    obtain ⟨⟨sk, es⟩, hs, h⟩ := Option.bind_eq_some_iff.mp h
    refine mapE (if_some h).2 fun cb hb eq1 => ?_; subst eq1
    cases nb
  | Return v p =>
    refine bindE h fun e eq1 h => ?_; subst eq1
    refine mapR h fun ce hce => ?_
    intro st o st1 q
    refine e22 (bd_some q) fun d s2 q1 q2 => ?_
    obtain ⟨rfl, rfl⟩ := some2 q2
    exact m_ret ((g1 _ _ hce).2.1 _ _ _ q1)
  | Raise => cases (show some CS.raise = some cs from h); exact fTr nb
  | _ => exact noS ((show none = some cs from h))
theorem m_all : ∀ f : Nat, MX K fa gt f ∧ MXs K fa gt f
  | 0 => by
    refine ⟨fun C W s cs h => ?_, fun C W s cs h nb st o st1 q => ?_⟩
    · exact noS h
    · cases s with
      | nil => obtain rfl := Option.some.inj h; refine elim2 q ?_; exact m_nil
      | cons a r => exact noS h
  | f + 1 => ⟨mx_succ (m_all f).2, mxs_succ (m_all f).1 (m_all f).2⟩
end
structure PlainP (fd : FuncData) (xs : List Str) : Prop where
  pos : fd.params.posonlyargs = []
  args : fd.params.args.map (·.arg) = xs
  va : fd.params.vararg = none
  kwo : fd.params.kwonlyargs = []
  kwa : fd.params.kwarg = none
  dfl : fd.defaults = .none
theorem zip_lookup_isSome {x : Str} : ∀ {xs : List Str} {vs : List Value}, x ∈ xs → vs.length = xs.length → ((xs.zip vs).lookup x).isSome = true
  | [], vs, h, _ => by cases h
  | y :: r, [], h, l => by cases l
  | y :: r, v :: vs, h, l => by
    rw [List.zip_cons_cons, List.lookup_cons]
    by_cases e : x = y
    · subst e; simp
    · rw [beq_eq_false_iff_ne.mpr e]
      rcases List.mem_cons.mp h with q | q
      · exact absurd q e
      · exact zip_lookup_isSome q (by simpa using l)
theorem zip_filterMap : ∀ {xs : List Str} {vs : List Value} (f : Str → Option Value), vs.length = xs.length → xs.Nodup → (∀ x ∈ xs, f x = (xs.zip vs).lookup x) → xs.filterMap (fun n => (f n).map (n, ·)) = xs.zip vs
  | [], vs, f, l, n, h => by cases vs <;> rfl
  | y :: r, [], f, l, n, h => by cases l
  | y :: r, v :: vs, f, l, n, h => by
    have h0 := h y (.head _)
    rw [List.zip_cons_cons, List.lookup_cons, beq_self_eq_true] at h0
    rw [List.filterMap_cons, h0, List.zip_cons_cons]
    refine and2 (List.nodup_cons.mp n) fun n1 n2 => ?_
    show _ :: _ = _
    rw [zip_filterMap (vs := vs) f (by simpa using l) n2 fun x hx => by
      have ne : (x == y) = false := beq_eq_false_iff_ne.mpr fun e => n1 (by rw [← e]; exact hx)
      rw [h x (.tail _ hx), List.zip_cons_cons, List.lookup_cons, ne]]
theorem loop_nil {α β γ : Type} {l : List α} {b : β} {f : α → β → Sem (ForInStep β)} {k : β → Sem γ} (h : l = []) : (forIn l b f >>= k) = k b := by subst h; rfl
theorem binds_plain {fd : FuncData} {xs : List Str} {vs : List Value} (p : PlainP fd xs) (hn : xs.Nodup) (hl : vs.length = xs.length) : bindArgs fd ⟨vs, []⟩ = pure (xs.zip vs) := by
  obtain ⟨name, qn, ⟨po, ar, va, ko, kd, kw, df⟩, body, scope, globals, closure, dflt, kwd, doc, pm, ann, code, ct, bi⟩ := fd
  obtain ⟨p1, p2, p3, p4, p5, p6⟩ := p
  obtain rfl : po = [] := p1
  obtain rfl : va = none := p3
  obtain rfl : ko = [] := p4
  obtain rfl : kw = none := p5
  obtain rfl : dflt = .none := p6
  have p2 : ar.map (·.arg) = xs := p2
  have hm : (xs.take (xs.length - (List.drop (0 - xs.length) ([] : List Value)).length)).filter (fun n => ((xs.zip vs).lookup n).isNone) = [] := by
    rw [List.filter_eq_nil_iff]
    intro x hx z
    have := zip_lookup_isSome (List.mem_of_mem_take hx) hl
    rw [Option.isNone_iff_eq_none.mp z] at this
    exact fTr this
  have hb := zip_filterMap (vs := vs) (fun n => (xs.zip vs).lookup n) hl hn fun x _ => rfl
  have hg : (decide (vs.length > xs.length) && true) = false := by rw [hl]; simp
  subst p2
  refine (if_neg (c := (decide (vs.length > (ar.map (·.arg)).length) && true) = true) (by rw [hg]; exact Bool.false_ne_true)).trans ?_
  refine (if_neg (c := (!(((ar.map (·.arg)).take ((ar.map (·.arg)).length - (List.drop (0 - (ar.map (·.arg)).length) ([] : List Value)).length)).filter (fun n => (((ar.map (·.arg)).zip vs).lookup n).isNone)).isEmpty) = true) (by rw [hm]; exact Bool.false_ne_true)).trans ?_
  refine (loop_nil ((congrArg (List.zip _) (List.drop_nil (i := _))).trans List.zip_nil_right)).trans ?_
  exact congrArg (pure : List (Str × Value) → Sem (List (Str × Value))) ((congrArg (List.filterMap _) (List.append_nil _)).trans hb)
theorem cells_acc {x : Str} : ∀ (l : List (Str × NameKind)) (n : Nat) (acc : List (Str × Addr)), (acc.lookup x).isSome = true → ((cellsFrom n l acc).lookup x).isSome = true
  | [], n, acc, h => h
  | (y, k) :: r, n, acc, h => by
    rw [cellsFrom]
    split
    · refine cells_acc r _ _ ?_
      rw [List.lookup_cons]
      split
      · rfl
      · exact h
    · exact cells_acc r _ _ h
theorem cells_some {x : Str} : ∀ (l : List (Str × NameKind)) (n : Nat) (acc : List (Str × Addr)), l.lookup x = some .cell → ((cellsFrom n l acc).lookup x).isSome = true
  | [], n, acc, h => by exact noS h
  | (y, k) :: r, n, acc, h => by
    rw [List.lookup_cons] at h
    rw [cellsFrom]
    split at h
    · rename_i e
      obtain rfl := Option.some.inj h
      have e' : x = y := beq_iff_eq.mp e
      subst e'
      refine cells_acc r _ _ ?_
      rw [List.lookup_cons, beq_self_eq_true]; rfl
    · split
      · exact cells_some r _ _ h
      · exact cells_some r _ _ h
theorem bindL_other {kd : Str → Option NameKind} {x : Str} : ∀ {xs : List Str} {vs : List Value} (m : Str → Option Value), x ∉ xs → bindL kd (xs.zip vs) m x = m x
  | [], vs, m, h => by rfl
  | y :: r, [], m, h => by rfl
  | y :: r, v :: vs, m, h => by
    rw [List.zip_cons_cons, bindL, bindL_other _ fun q => h (.tail _ q)]
    split
    · exact if_neg fun e => h (by rw [e]; exact .head _)
    · rfl
theorem bindC_other {kd : Str → Option NameKind} {x : Str} : ∀ {xs : List Str} {vs : List Value} (m : Str → Option Value), x ∉ xs → bindC kd (xs.zip vs) m x = m x
  | [], vs, m, h => by rfl
  | y :: r, [], m, h => by rfl
  | y :: r, v :: vs, m, h => by
    rw [List.zip_cons_cons, bindC, bindC_other _ fun q => h (.tail _ q)]
    split
    · rfl
    · exact if_neg fun e => h (by rw [e]; exact .head _)
theorem bindL_at {kd : Str → Option NameKind} {x : Str} {v : Value} (hk : kd x = some .local) : ∀ {xs : List Str} {vs : List Value} (m : Str → Option Value) (i : Nat), xs.Nodup → xs[i]? = some x → vs[i]? = some v → bindL kd (xs.zip vs) m x = some v
  | [], vs, m, i, n, h, g => by exact noS h
  | y :: r, [], m, i, n, h, g => by exact noS g
  | y :: r, w :: vs, m, i, n, h, g => by
    refine and2 (List.nodup_cons.mp n) fun n1 n2 => ?_
    rw [List.zip_cons_cons, bindL]
    cases i with
    | zero =>
      obtain rfl := Option.some.inj h; obtain rfl := Option.some.inj g
      rw [bindL_other _ n1, if_pos hk, if_pos rfl]
    | succ i => exact bindL_at hk _ i n2 h g
theorem bindC_at {kd : Str → Option NameKind} {x : Str} {v : Value} (hk : kd x = some .cell) : ∀ {xs : List Str} {vs : List Value} (m : Str → Option Value) (i : Nat), xs.Nodup → xs[i]? = some x → vs[i]? = some v → bindC kd (xs.zip vs) m x = some v
  | [], vs, m, i, n, h, g => by exact noS h
  | y :: r, [], m, i, n, h, g => by exact noS g
  | y :: r, w :: vs, m, i, n, h, g => by
    refine and2 (List.nodup_cons.mp n) fun n1 n2 => ?_
    rw [List.zip_cons_cons, bindC]
    cases i with
    | zero =>
      obtain rfl := Option.some.inj h; obtain rfl := Option.some.inj g
      rw [bindC_other _ n1, if_neg (by rw [hk]; decide), if_pos rfl]
    | succ i => exact bindC_at hk _ i n2 h g
theorem nodup_lookup : ∀ {l : List (Str × NameKind)} {x : Str} {k : NameKind} {i : Nat}, nodupS l = true → l[i]? = some (x, k) → l.lookup x = some k
  | [], x, k, i, n, h => by exact noS h
  | (y, k') :: r, x, k, i, n, h => by
    rw [nodupS, Bool.and_eq_true] at n
    cases i with
    | zero => obtain ⟨rfl, rfl⟩ := some2 h; rw [List.lookup_cons, beq_self_eq_true]
    | succ i =>
      have h' : r[i]? = some (x, k) := h
      have hm := List.mem_of_getElem? h'
      have hne : (x == y) = false := by
        have q : ∀ a ∈ r, (a.1 == y) = false := by simpa using n.1
        exact q _ hm
      rw [List.lookup_cons, hne]
      exact nodup_lookup n.2 h'
theorem nodupS_nodup : ∀ {l : List (Str × NameKind)}, nodupS l = true → (l.map (·.1)).Nodup
  | [], _ => List.nodup_nil
  | (y, k) :: r, n => by
    rw [nodupS, Bool.and_eq_true] at n
    rw [List.map_cons, List.nodup_cons]
    refine ⟨fun h => ?_, nodupS_nodup n.2⟩
    refine e12 (List.mem_map.mp h) fun p hp e => ?_
    have q : ∀ a ∈ r, (a.1 == y) = false := by simpa using n.1
    have := q p hp
    rw [e] at this
    simp at this
structure FnAt (K : Frag) (gt : Str → Option GV) (a : Addr) (fc : FnC) (fd : FuncData) (body : List Stmt) : Prop where
  code : codeIn K fd.code fd.qualname = true
  bod : fd.body = .stmts body
  clo : fd.closure = []
  glob : fd.globals = mainGlobals
  blt : fd.builtins = builtinsNs
  kind : fd.scope.kind = .function
  co : fd.scope.isCoroutine = false
  gen : fd.scope.isGenerator = false
  par : PlainP fd ((fd.scope.names.take fc.np).map (·.1))
  pk : (fd.scope.names.take fc.np).all (fun p => p.2 == .local || p.2 == .cell) = true
  nod : nodupS fd.scope.names = true
  np : fc.np ≤ fc.nl
  nl : fd.scope.names.length = fc.nl
  strip : ∃ f, stripSs gt f fd.scope.names body = some fc.body
noncomputable def FnIn (K : Frag) (gt : Str → Option GV) (a : Addr) (fc : FnC) : Prop := ∃ oc od fd osl body, K.lookup a = some ⟨oc, od, .func fd, osl⟩ ∧ FnAt K gt a fc fd body
noncomputable def enterC (prog : Program) (w : World) (K : Frag) (fd : FuncData) (L a : Addr) (A : Around) (S : Heap) (ex : Addr → Option Obj) (n : Nat) : Cx := ⟨prog, w, K, callEnvC fd L a, A.deeper (callEnvC fd L a), S, ex, n⟩
theorem enter_ok {prog : Program} {w : World} {K : Frag} {fd : FuncData} {gt : Str → Option GV} {L a : Addr} {A : Around} {S : Heap} {ex : Addr → Option Obj} {n : Nat} {fc : FnC} {body : List Stmt} (F : FnAt K gt a fc fd body)
    (h1 : A.handled = none) (h2 : A.depth + (n + 1) < recursionLimit) (h3 : A.units + 8 * (n + 1) + 256 < cLine) (g : Gl K S) : (enterC prog w K fd L a A S ex n).Ok where
  kind := F.kind
  glob := F.glob
  blt := F.blt
  hnd := h1
  dep := by show A.depth + 1 + n < recursionLimit; exact leZ h2
  unt := by show A.units + 3 + 8 * n + 256 < cLine; exact nlt (fk (c3 A.units n cLine) [(1, .add (.add (.add (.var 0) (.mulL 8 (.add (.var 1) (.num 1)))) (.num 256)) (.num 1), .var 2), (1, .var 2, .add (.add (.add (.var 0) (.num 3)) (.mulL 8 (.var 1))) (.num 256))] rfl (nt h3))
  gl := g
  nod := F.nod
  cel := fun x hx => Option.isSome_iff_exists.mp (cells_some _ _ _ hx)
theorem enter_inv {S : Heap} {s s₁ : Shared} {L : Addr} {m cm : Str → Option Value} {cs : List (Str × Addr)} {ow : Nat → Option (Addr × Obj)} {ex : Addr → Option Obj} (x : InCallC s L m cs cm s₁) (st : S.StaysIn s.heap) (big : sysModules < s.heap.objs.size)
    (hown : ∀ i a o, ow i = some (a, o) → s.heap.get? a = some o ∧ S.get? a = none ∧ ex a = none) (inj : ∀ i j a o o', ow i = some (a, o) → ow j = some (a, o') → i = j) (hex : ∀ a o, ex a = some o → s.heap.get? a = some o ∧ S.get? a = none) :
    ∃ S1, S.StaysIn S1 ∧ Inv S L m ow ex S1 s₁.heap ∧ (∀ b o o', s.heap.get? b = some o → S1.get? b = some o' → (S.get? b).isSome = true) ∧ ∀ y c, cs.lookup y = some c → S1.IsCell c (cm y) := by
  have keep : s.heap.StaysIn s₁.heap := x.toInCall.keep
  have hL : s.heap.get? L = none := by
    cases q : s.heap.get? L with
    | none => rfl
    | some o => exact absurd (Heap.lt_size q) (Nat.not_lt.mpr x.toInCall.fresh)
  have hc : ∀ {y : Str} {c : Addr}, cs.lookup y = some c → s.heap.get? c = none ∧ c ≠ L := fun {y c} e => by
    have lt := x.above y c (mem_of_lookup e)
    refine ⟨?_, fun z => by rw [z] at lt; exact Nat.lt_irrefl _ lt⟩
    cases q : s.heap.get? c with
    | none => rfl
    | some o => exact absurd (Heap.lt_size q) (Nat.not_lt.mpr (Nat.le_trans x.toInCall.fresh (Nat.le_of_lt lt)))
  have no : ∀ {b : Addr} {o : Obj}, s.heap.get? b = some o → S.get? b = none → (keepOnly s₁.heap fun b => (S.get? b).isSome = true ∨ ∃ y, cs.lookup y = some b).get? b = none := fun {b o} e1 e2 =>
    keepOnly_none fun q => q.elim (fun q => by rw [e2] at q; exact fTr q) fun ⟨y, q⟩ => by rw [(hc q).1] at e1; exact noS e1
  have hS : ∀ {b : Addr}, s.heap.get? b = none → S.get? b = none := fun {b} e => by
    cases q : S.get? b with
    | none => rfl
    | some o => rw [st _ _ q] at e; exact sNo e
  refine ⟨keepOnly s₁.heap fun b => (S.get? b).isSome = true ∨ ∃ y, cs.lookup y = some b, fun b o e => keepOnly_some (.inl (by rw [e]; rfl)) (keep _ _ (st _ _ e)),
    ⟨x.toInCall.ns, fun b o e => keepOnly_some (.inl (by rw [e]; rfl)) (keep _ _ (st _ _ e)), fun b o e => (of_keepOnly e).2, ?_, fun i a o e => ?_, inj, fun a o e => ?_, Nat.lt_of_lt_of_le big x.toInCall.fresh⟩, fun b o o' e1 e2 => ?_, fun y c e => ?_⟩
  · exact keepOnly_none fun q => q.elim (fun q => by rw [hS hL] at q; exact fTr q) fun ⟨y, q⟩ => (hc q).2 rfl
  · refine and3 (hown i a o e) fun h1 h2 h3 => ?_
    exact ⟨keep _ _ h1, fun z => (by rw [z, hL] at h1; exact noS h1), no h1 h2, h3⟩
  · refine and2 (hex a o e) fun h1 h2 => ?_
    exact ⟨keep _ _ h1, fun z => (by rw [z, hL] at h1; exact noS h1), no h1 h2⟩
  · cases q : S.get? b with
    | some _ => rfl
    | none => rw [no e1 q] at e2; exact noS e2
  · obtain ⟨o, ho, hd⟩ := x.cell y c e
    exact ⟨o, keepOnly_some (.inr ⟨y, e⟩) ho, hd⟩
theorem at_append {a b : List Slot} {i : Nat} : St.at (a ++ b) i = if i < a.length then St.at a i else St.at b (i - a.length) := by
  unfold St.at
  rw [List.getD_eq_getElem?_getD, List.getElem?_append]
  split <;> simp
theorem at_un {n i : Nat} : St.at (List.replicate n Slot.un) i = .un := by
  unfold St.at
  rw [List.getD_eq_getElem?_getD, List.getElem?_replicate]
  split <;> rfl
theorem at_d {ds : List PyData} {i : Nat} {d : PyData} (h : ds[i]? = some d) : St.at (ds.map Slot.d) i = .d d := by
  unfold St.at
  simp [List.getD_eq_getElem?_getD, h]
section
variable {K : Frag} {fd : FuncData} {gt : Str → Option GV} {a : Addr} {fc : FnC} {body : List Stmt} {vs : List Value} {L : Addr}
theorem FnAt.xs (F : FnAt K gt a fc fd body) : ((fd.scope.names.take fc.np).map (·.1)).Nodup := by
  have := nodupS_nodup F.nod
  rw [List.map_take]
  exact this.sublist (List.take_sublist _ _)
theorem FnAt.len (F : FnAt K gt a fc fd body) : ((fd.scope.names.take fc.np).map (·.1)).length = fc.np := by
  rw [List.length_map, List.length_take, F.nl]
  exact Nat.min_eq_left F.np
theorem FnAt.kindAt (F : FnAt K gt a fc fd body) {i : Nat} {x : Str} {k : NameKind} (hi : i < fc.np) (e : fd.scope.names[i]? = some (x, k)) : (k = .local ∨ k = .cell) ∧ fd.scope.names.lookup x = some k ∧ ((fd.scope.names.take fc.np).map (·.1))[i]? = some x := by
  have ht : (fd.scope.names.take fc.np)[i]? = some (x, k) := by rw [List.getElem?_take, if_pos hi]; exact e
  refine ⟨?_, nodup_lookup F.nod e, by rw [List.getElem?_map, ht]; rfl⟩
  have := List.all_eq_true.mp F.pk _ (List.mem_of_getElem? ht)
  simpa using this
theorem FnAt.kinds (F : FnAt K gt a fc fd body) (n : Nat) : ∀ y ∈ ((fd.scope.names.take fc.np).map (·.1)).zip vs, fd.scope.names.lookup y.1 = some .local ∨ (fd.scope.names.lookup y.1 = some .cell ∧ ((cellsFrom n fd.scope.names []).lookup y.1).isSome = true) := by
  intro y hy
  refine e12 (List.mem_map.mp (List.of_mem_zip hy).1) fun p hp e => ?_
  refine e11 (List.getElem?_of_mem hp) fun i hi => ?_
  rw [List.getElem?_take] at hi
  refine and2 (if_some hi) fun hin hi => ?_
  · obtain ⟨h1, h2, -⟩ := F.kindAt (x := p.1) (k := p.2) hin hi
    rw [← e]
    rcases h1 with h1 | h1
    · exact .inl (by rw [h2, h1])
    · exact .inr ⟨by rw [h2, h1], cells_some _ _ _ (by rw [h2, h1])⟩
theorem FnAt.valAt (F : FnAt K gt a fc fd body) {S : Heap} {i : Nat} {x : Str} {k : NameKind} {v : Value} (hi : i < fc.np) (e : fd.scope.names[i]? = some (x, k)) (hv : vs[i]? = some v)
    (hc : ∀ y c, (callEnvC fd L a).cells.lookup y = some c → S.IsCell c (bindC (callEnvC fd L a).kindOf (((fd.scope.names.take fc.np).map (·.1)).zip vs) (fun _ => none) y)) :
    ValAt S (callEnvC fd L a) (bindL (callEnvC fd L a).kindOf (((fd.scope.names.take fc.np).map (·.1)).zip vs) fun _ => none) x k v := by
  refine and3 (F.kindAt hi e) fun h1 h2 h3 => ?_
  have hk : (callEnvC fd L a).kindOf x = some k := h2
  rcases h1 with h1 | h1
  · subst h1
    exact bindL_at hk _ i F.xs h3 hv
  · subst h1
    refine e11 (Option.isSome_iff_exists.mp (cells_some (x := x) fd.scope.names (L + 1) [] h2)) fun c hcc => ?_
    refine ⟨c, hcc, ?_⟩
    have := hc x c hcc
    rwa [bindC_at hk _ i F.xs h3 hv] at this
end
section
open Classical
variable {prog : Program} {w : World} {K : Frag} {fa : FN → Addr} {gt : Str → Option GV} {n : Nat}
noncomputable def restOf (S h : Heap) (P : Addr → Prop) (b : Addr) : Option Obj := if S.get? b = none ∧ ¬ P b then h.get? b else none
theorem restOf_some {S h : Heap} {P : Addr → Prop} {b : Addr} {o : Obj} (e : restOf S h P b = some o) : h.get? b = some o ∧ S.get? b = none := by
  unfold restOf at e
  refine and2 (if_some e) fun q e => ?_
  · exact ⟨e, q.1⟩
theorem restOf_at {S h : Heap} {P : Addr → Prop} {b : Addr} {o : Obj} (q : S.get? b = none) (p : ¬ P b) (e : h.get? b = some o) : restOf S h P b = some o := by
  unfold restOf
  rw [if_pos ⟨q, p⟩]
  exact e
set_option tactic.hygienic true in
theorem call_fn {K' : Or} (T : PK w K fa gt) (H : CallsOk prog w K fa n K') (HT : TakeOk prog w K n (fa 492) K') {a : Addr} {fc : FnC} (F : FnIn K gt a fc) {ds : List PyData} {d : PyData} (r : runF K' fc ds = some d) : CallOk prog w K (n + 1) a ds d := by
  intro A E s S Q vs h1 h2 h3 g st big rv k
  obtain ⟨oc, od, fd, osl, body, hl, F⟩ := F
  refine e11 F.strip fun f hstrip => ?_
  unfold runF at r
  refine and2 (if_some r) fun hlen r => ?_
  · have hvl : vs.length = ((fd.scope.names.take fc.np).map (·.1)).length := by rw [rv.length, hlen, F.len]
    refine wpAny_call (codeAny_call_cells (fd := fd) (by exact leW h2 rfl) ((g.keeps st).inK _ _ hl) rfl (g.lim.keeps st) (codeRec_of (g.keeps st).inK F.code) F.bod (binds_plain F.par F.xs hvl) F.clo (F.kinds _) (fun s₁ x => ?_) F.co F.gen F.kind)
    refine e14 (enter_inv (ow := fun _ => none) (ex := restOf S s.heap fun _ => False) x st big (fun i a o e => by cases e) (fun i j a o o' e => by cases e) (fun a o e => restOf_some e)) fun S1 le1 I no hc => ?_
    have O := enter_ok (prog := prog) (w := w) (L := s.heap.objs.size) (ex := restOf S s.heap fun _ => False) F h1 h2 h3 g
    have W : Wld (enterC prog w K fd s.heap.objs.size a A S (restOf S s.heap fun _ => False) n) K' fa gt := ⟨O, T, H, HT⟩
    have hst : (ds.map Slot.d ++ List.replicate (fc.nl - fc.np) Slot.un).length = fd.scope.names.length := by
      rw [List.length_append, List.length_map, List.length_replicate, hlen, F.nl]; exact Nat.add_sub_cancel' F.np
    have G : Good (enterC prog w K fd s.heap.objs.size a A S (restOf S s.heap fun _ => False) n) (bindL (callEnvC fd s.heap.objs.size a).kindOf (((fd.scope.names.take fc.np).map (·.1)).zip vs) fun _ => none) (ds.map Slot.d ++ List.replicate (fc.nl - fc.np) Slot.un) (fun _ => none) S1 s₁.heap := by
      refine ⟨I, hst, fun i x k e => ?_⟩
      rw [at_append]
      split
      · rename_i hi
        rw [List.length_map] at hi
        have hd : ds[i]? = some ds[i] := List.getElem?_eq_getElem hi
        rw [at_d hd]
        refine e12 (rv.get hd) fun v hv q => ?_
        exact ⟨v, F.valAt (by exact nlt (fk (c3 ds.length fc.np i) [(1, .var 0, .var 1), (1, .add (.var 2) (.num 1), .var 0), (1, .var 1, .var 2)] rfl (ne hlen) (nt hi))) e hv hc, q.keeps le1⟩
      · rw [at_un]; trivial
    have fin : ∀ {o : Option PyData} {st1 : St}, execs K' fc.body (ds.map Slot.d ++ List.replicate (fc.nl - fc.np) Slot.un) = some (o, st1) → (∀ S' fl, FlowIs S' o fl → RD S' (match fl with | .ret v => v | _ => .none) d) →
        wpAny (model prog w) (A.deeper (callEnvC fd s.heap.objs.size a)) (PySem.execs body (callEnvC fd s.heap.objs.size a)) (fun f s' => Q (match f with | .ret v => v | _ => .none) s')
          (fun e s' => wpAny (model prog w) (A.deeper (callEnvC fd s.heap.objs.size a)) (leaving (callEnvC fd s.heap.objs.size a) e) (fun _ s'' => E e s'') (fun e' s'' => E e' s'') s') s₁ := fun {o st1} q hR => by
      refine (x_all f).2 _ W body fc.body hstrip _ _ _ q _ s₁ _ _ _ _ G fun fl m' h' tk ow' S' le G' hf => ?_
      refine e21 x.toInCall.same fun hh tt eq1 => ?_; subst eq1
      have hk : s.heap.StaysIn h' := fun b o e => by
        cases q : S.get? b with
        | some o' =>
          have e2 := st _ _ q
          rw [e] at e2
          obtain rfl := Option.some.inj e2
          exact G'.1.stay _ _ (le _ _ (le1 _ _ q))
        | none => exact (G'.1.ext b o (restOf_at (P := fun _ => False) q id e)).1
      refine k _ h' tk S' (tr le1 le) G'.1.stay hk (fun b o o' e1 e2 => ?_) (hR _ _ hf)
      cases q : S.get? b with
      | some o' => rfl
      | none =>
        have := (G'.1.ext b o (restOf_at (P := fun _ => False) q id e1)).2.2
        rw [this] at e2; exact noS e2
    unfold retV at r
    split at r
    · rename_i d' st1 q
      obtain rfl := Option.some.inj r
      exact fin q fun S' fl h => by obtain ⟨v, rfl, q⟩ := h; exact q
    · rename_i st1 q
      obtain rfl := Option.some.inj r
      exact fin q fun S' fl h => by cases h; exact .none
    · exact noS r
set_option tactic.hygienic true in
theorem take_fn {K' : Or} (T : PK w K fa gt) (H : CallsOk prog w K fa n K') (HT : TakeOk prog w K n (fa 492) K') {fc : FnC} (F : FnIn K gt (fa 492) fc) (nb : noBinds fc.body = true) (np : fc.np = 2) (hloc : ∀ oc od fd osl, K.lookup (fa 492) = some ⟨oc, od, .func fd, osl⟩ → (fd.scope.names[0]?).map (·.2) = some .local)
    {K'' : Or} (hK : ∀ xs y, K''.take xs y = runT K' fc xs y) : TakeOk prog w K (n + 1) (fa 492) K'' := by
  intro xs xs' y d r A E s S Q b vs kk u h1 h2 h3 g st big hb hSb rv hlx ru k
  rw [hK] at r
  obtain ⟨oc, od, fd, osl, body, hl, F⟩ := F
  have hloc := hloc _ _ _ _ hl
  refine e11 F.strip fun f hstrip => ?_
  unfold runT at r
  have hvl : [Value.ref b, u].length = ((fd.scope.names.take fc.np).map (·.1)).length := by rw [F.len, np]; rfl
  refine wpAny_call (codeAny_call_cells (fd := fd) (by exact leW h2 rfl) ((g.keeps st).inK _ _ hl) rfl (g.lim.keeps st) (codeRec_of (g.keeps st).inK F.code) F.bod (binds_plain F.par F.xs hvl) F.clo (F.kinds _) (fun s₁ x => ?_) F.co F.gen F.kind)
  refine e14 (enter_inv (ow := fun i => if i = 0 then some (b, boxO vs kk) else none) (ex := restOf S s.heap fun c => c = b) x st big
    (fun i a o e => by
      refine if_or e (fun _ e => ?_) (fun _ e => ?_)
      · cases e; exact ⟨hb, hSb, by unfold restOf; rw [if_neg fun z => z.2 rfl]⟩
      · cases e)
    (fun i j a o o' e e' => by
      refine if_or e (fun _ e => ?_) (fun _ e => ?_)
      · refine if_or e' (fun _ e' => ?_) (fun _ e' => ?_)
        · omega
        · cases e'
      · cases e) (fun a o e => restOf_some e)) fun S1 le1 I no hc => ?_
  have O := enter_ok (prog := prog) (w := w) (L := s.heap.objs.size) (ex := restOf S s.heap fun c => c = b) F h1 h2 h3 g
  have W : Wld (enterC prog w K fd s.heap.objs.size (fa 492) A S (restOf S s.heap fun c => c = b) n) K' fa gt := ⟨O, T, H, HT⟩
  have hnl := F.np
  have hst : (Slot.ol xs :: Slot.d y :: List.replicate (fc.nl - 2) Slot.un).length = fd.scope.names.length := by
    simp only [List.length_cons, List.length_replicate]; rw [F.nl]; omega
  obtain ⟨x0, hx0, hm0⟩ : ∃ x0, fd.scope.names[0]? = some (x0, .local) ∧ bindL (callEnvC fd s.heap.objs.size (fa 492)).kindOf (((fd.scope.names.take fc.np).map (·.1)).zip [Value.ref b, u]) (fun _ => none) x0 = some (.ref b) := by
    cases q : fd.scope.names[0]? with
    | none => rw [q] at hloc; exact noS hloc
    | some p =>
      obtain ⟨x0, k0⟩ := p
      rw [q] at hloc
      obtain rfl := Option.some.inj hloc
      exact ⟨x0, rfl, F.valAt (S := S1) (L := s.heap.objs.size) (vs := [Value.ref b, u]) (v := .ref b) (by exact nlt (fk (c1 fc.np) [(1, .num 2, .var 0), (1, .var 0, .num 0)] rfl (ne np.symm))) q rfl hc⟩
  have G : Good (enterC prog w K fd s.heap.objs.size (fa 492) A S (restOf S s.heap fun c => c = b) n) (bindL (callEnvC fd s.heap.objs.size (fa 492)).kindOf (((fd.scope.names.take fc.np).map (·.1)).zip [Value.ref b, u]) fun _ => none) (Slot.ol xs :: Slot.d y :: List.replicate (fc.nl - 2) Slot.un) (fun i => if i = 0 then some (b, boxO vs kk) else none) S1 s₁.heap := by
    refine ⟨I, hst, fun i x k e => ?_⟩
    match i with
    | 0 =>
      have e' : fd.scope.names[0]? = some (x, k) := e
      rw [hx0] at e'
      obtain ⟨rfl, rfl⟩ := some2 e'
      exact ⟨b, vs, kk, rfl, hm0, rfl, rv.keeps le1, hlx⟩
    | 1 => exact ⟨u, F.valAt (by exact Nat.le_of_eq np.symm) e rfl hc, ru.keeps le1⟩
    | i + 2 =>
      have : St.at (Slot.ol xs :: Slot.d y :: List.replicate (fc.nl - 2) Slot.un) (i + 2) = .un := at_un
      rw [this]; trivial
  unfold retT at r
  split at r
  · rename_i d' st1 q
    split at r
    · rename_i xs1 hx1
      obtain ⟨rfl, rfl⟩ := some2 r
      refine (m_all f).2 _ W body fc.body hstrip nb _ _ _ q _ s₁ _ _ _ _ G fun fl h' tk ow' S' le G' hf => ?_
      refine e21 x.toInCall.same fun hh tt eq1 => ?_; subst eq1
      obtain ⟨v, rfl, rv'⟩ := hf
      have sl := G'.2.2 0 x0 .local hx0
      rw [hx1] at sl
      obtain ⟨a', vs', kk', -, hm', how', hrs', hlx'⟩ := sl
      cases Option.some.inj (hm0.symm.trans hm')
      have ho := G'.1.own _ _ _ how'
      refine k v h' tk S' vs' kk' (tr le1 le) G'.1.stay (fun c o hcb e => ?_) (fun c o o' e1 e2 => ?_) ho.1 hrs' hlx' rv'
      · cases q : S.get? c with
        | some o' =>
          have e2 := st _ _ q
          rw [e] at e2
          obtain rfl := Option.some.inj e2
          exact G'.1.stay _ _ (le _ _ (le1 _ _ q))
        | none => exact (G'.1.ext c o (restOf_at (P := fun c => c = b) q hcb e)).1
      · cases q : S.get? c with
        | some o' => rfl
        | none =>
          by_cases hcb : c = b
          · subst hcb
            rw [ho.2.2.1] at e2; exact noS e2
          · have := (G'.1.ext c o (restOf_at (P := fun c => c = b) q hcb e1)).2.2
            rw [this] at e2; exact noS e2
    · exact noS r
  · exact noS r
end
noncomputable def seqD (t : String) : Data → Option (List Value)
  | .seq vs _ => if t = "tuple" then some vs.toList else none
  | _ => none
noncomputable def seqC (d : Data) : Value → Option (List Value)
  | .type t => seqD t d
  | _ => none
noncomputable def seqIn (K : Frag) (a : Addr) : Option (List Value) := (K.lookup a).bind fun o => seqC o.data o.cls
theorem seqIn_some {K : Frag} {a : Addr} {vs : List Value} (h : seqIn K a = some vs) : ∃ o nn, K.lookup a = some o ∧ o.cls = .type "tuple" ∧ o.data = .seq vs.toArray nn := by
  refine bindE h fun o ho h2 => ?_
  obtain ⟨c, dd, dt, sl⟩ := o
  cases c with
  | type t => cases dt with
    | seq v nn => exact and2 (if_some h2) fun ht h3 => ⟨_, nn, ho, by rw [ht], by rw [← Option.some.inj h3]⟩
    | _ => exact noS h2
  | _ => exact noS h2
mutual
noncomputable def rdIn (K : Frag) : Nat → Value → PyData → Bool
  | 0, _, _ => false
  | n + 1, v, d => match d with
    | .int j => (match v with
      | .int i _ => decide (i = j)
      | _ => false)
    | .str y => (match v with
      | .str x _ => decide (x = y) && PyData.strOk y
      | _ => false)
    | .tuple ds => (match v with
      | .ref a => (match seqIn K a with
        | some vs => lenOk ds && rdsIn K n vs ds
        | none => false)
      | _ => false)
    | _ => false
noncomputable def rdsIn (K : Frag) : Nat → List Value → List PyData → Bool
  | 0, _, _ => false
  | _ + 1, [], [] => true
  | n + 1, v :: vs, d :: ds => rdIn K n v d && rdsIn K n vs ds
  | _ + 1, _, _ => false
end
theorem rdIn_all {K : Frag} {h : Heap} (X : K.In h) : ∀ n : Nat, (∀ v d, rdIn K n v d = true → RD h v d) ∧ (∀ vs ds, rdsIn K n vs ds = true → RDs h vs ds)
  | 0 => ⟨fun v d e => fTr e, fun v d e => fTr e⟩
  | n + 1 => by
    refine and2 (rdIn_all X n) fun i1 i2 => ?_
    refine ⟨fun v d e => ?_, fun vs ds e => ?_⟩
    · cases d with
      | int j => cases v with
        | int i t => obtain rfl := of_decide_eq_true e; exact .int _ _
        | _ => exact fTr e
      | str y => cases v with
        | str x t => exact and2 (andB e) fun e1 e2 => by obtain rfl := of_decide_eq_true e1; exact .str _ e2
        | _ => exact fTr e
      | tuple ds => cases v with
        | ref a =>
          have e2 : (match seqIn K a with
            | some vs => lenOk ds && rdsIn K n vs ds
            | none => false) = true := e
          cases hs : seqIn K a with
          | none => rw [hs] at e2; exact fTr e2
          | some vs =>
            rw [hs] at e2
            refine e23 (seqIn_some hs) fun o nn h1 h2 h3 => and2 (andB e2) fun e3 e4 => ?_
            exact .tuple ⟨_, X _ _ h1, h2, nn, h3⟩ (i2 _ _ e4) e3
        | _ => exact fTr e
      | _ => exact fTr e
    · cases vs with
      | nil =>
        cases ds with
        | nil => exact .nil
        | cons => exact fTr e
      | cons v vs =>
        cases ds with
        | nil => exact fTr e
        | cons d ds => exact and2 (andB e) fun e1 e2 => .cons (i1 _ _ e1) (i2 _ _ e2)
theorem lookA_mem {κ α : Type} [BEq κ] [LawfulBEq κ] {x : κ} {a : α} : ∀ {l : List (κ × α)}, lookA x l = some a → (x, a) ∈ l
  | [], h => by exact noS h
  | (y, b) :: r, h => by
    rw [lookA] at h
    refine if_or h (fun e h => ?_) (fun _ h => ?_)
    · obtain rfl := Option.some.inj h
      have e' : x = y := beq_iff_eq.mp e
      subst e'
      exact .head _
    · exact .tail _ (lookA_mem h)
noncomputable def isF (x : Str) : Value → Bool
  | .str y _ => Fast.sEq y x
  | _ => false
theorem sEq_eq (x y : Str) : Fast.sEq x y = (x == y) := Bool.eq_iff_iff.mpr (Fast.sEq_iff.trans beq_iff_eq.symm)
theorem isF_eq (x : Str) (v : Value) : isF x v = v.isStr x := by
  cases v with
  | str y n => exact sEq_eq y x
  | _ => rfl
noncomputable def esD : Data → Option (List DictEntry)
  | .dict es _ => some es.toList
  | _ => none
noncomputable def esIn (K : Frag) (a : Addr) : Option (List DictEntry) := (K.lookup a).bind fun o => esD o.data
noncomputable def nsF (es : List DictEntry) (x : Str) : Option (Option Value) := match es.find? (fun e => isF x e.key) with
  | some e => some (some e.val)
  | none => if es.any (·.refKey) then none else some none
theorem nsF_eq {K : Frag} {a : Addr} {es : List DictEntry} (h : esIn K a = some es) (x : Str) : nsIn K a x = nsF es x := by
  refine bindE h fun o ho h2 => ?_
  obtain ⟨c, dd, dt, sl⟩ := o
  cases dt with
  | dict v ep =>
    obtain rfl := Option.some.inj h2
    unfold nsIn nsF
    rw [ho]
    simp only [isF_eq]
    rfl
  | _ => exact noS h2
noncomputable def nodF : List (Str × NameKind) → Bool
  | [] => true
  | (x, _) :: r => !(r.any fun y => Fast.sEq y.1 x) && nodF r
theorem nodF_eq : ∀ l, nodupS l = nodF l
  | [] => rfl
  | (x, _) :: r => by rw [nodF, nodupS, nodF_eq r]; simp only [sEq_eq]
noncomputable def getFd : Data → Option FuncData
  | .func fd => some fd
  | _ => none
noncomputable def lkF (a : Addr) : Frag → Option Obj
  | [] => none
  | (b, o) :: r => match Nat.beq a b with
    | true => some o
    | false => lkF a r
theorem lkF_eq {a : Addr} : ∀ {K : Frag}, K.lookup a = lkF a K
  | [] => rfl
  | (b, o) :: r => by
    rw [List.lookup_cons, lkF, show (a == b) = Nat.beq a b from Bool.eq_iff_iff.mpr ⟨fun h => by rw [beq_iff_eq.mp h]; exact Nat.beq_refl b, fun h => beq_iff_eq.mpr (Nat.eq_of_beq_eq_true h)⟩]
    cases Nat.beq a b with
    | true => rfl
    | false => exact lkF_eq
noncomputable def getFn (K : Frag) (a : Addr) : Option FuncData := (lkF a K).bind fun o => getFd o.data
theorem getFn_some {K : Frag} {a : Addr} {fd : FuncData} (h : getFn K a = some fd) : ∃ oc od osl, K.lookup a = some ⟨oc, od, .func fd, osl⟩ := by
  refine bindE h fun o ho h2 => ?_
  obtain ⟨c, dd, dt, sl⟩ := o
  cases dt with
  | func f => obtain rfl := Option.some.inj h2; exact ⟨_, _, _, lkF_eq.trans ho⟩
  | _ => exact noS h2
noncomputable def fnStrip (K : Frag) (a : Addr) : Option (List CS) := match getFn K a with
  | some fd => (match fd.body with
    | .stmts b => stripSs gtab 200 fd.scope.names b
    | _ => none)
  | none => none
noncomputable def chkFd (K : Frag) (np nl : Nat) (fd : FuncData) : Bool :=
  codeIn K fd.code fd.qualname && fd.closure.isEmpty && Nat.beq fd.globals mainGlobals && Nat.beq fd.builtins builtinsNs && decide (fd.scope.kind = .function) && !fd.scope.isCoroutine && !fd.scope.isGenerator
    && fd.params.posonlyargs.isEmpty && fd.params.vararg.isNone && fd.params.kwonlyargs.isEmpty && fd.params.kwarg.isNone && (match fd.defaults with
      | .none => true
      | _ => false)
    && decide (fd.params.args.map (·.arg) = (fd.scope.names.take np).map (·.1)) && (fd.scope.names.take np).all (fun p => p.2 == .local || p.2 == .cell) && nodF fd.scope.names && Nat.ble np nl && Nat.beq fd.scope.names.length nl
noncomputable def chkFn (K : Frag) (a : Addr) (np nl : Nat) : Bool := match getFn K a with
  | some fd => chkFd K np nl fd
  | none => false
set_option tactic.hygienic true in
theorem fnIn_of {K : Frag} {a : Addr} {fc : FnC} (h : chkFn K a fc.np fc.nl = true) (g : fnStrip K a = some fc.body) : FnIn K gtab a fc := by
  unfold fnStrip at g
  unfold chkFn at h
  split at g
  · rename_i fd hfd
    rw [hfd] at h
    refine e31 (getFn_some hfd) fun oc od osl hl => ?_
    split at g
    · rename_i b hb
      simp only [chkFd, Bool.and_eq_true, Bool.not_eq_true', decide_eq_true_eq] at h
      obtain ⟨⟨⟨⟨⟨⟨⟨⟨⟨⟨⟨⟨⟨⟨⟨⟨c1, c2⟩, c3⟩, c4⟩, c5⟩, c6⟩, c7⟩, c8⟩, c9⟩, c10⟩, c11⟩, c12⟩, c13⟩, c14⟩, c15⟩, c16⟩, c17⟩ := h
      refine ⟨oc, od, fd, osl, b, hl, ?_⟩
      exact { code := c1, bod := hb, clo := List.isEmpty_iff.mp c2, glob := Nat.eq_of_beq_eq_true c3, blt := Nat.eq_of_beq_eq_true c4, kind := c5, co := c6, gen := c7,
              par := ⟨List.isEmpty_iff.mp c8, c13, Option.isNone_iff_eq_none.mp c9, List.isEmpty_iff.mp c10, Option.isNone_iff_eq_none.mp c11, by split at c12 <;> first | assumption | exact fTr c12⟩
              pk := c14, nod := (nodF_eq _).trans c15, np := Nat.le_of_ble_eq_true c16, nl := Nat.eq_of_beq_eq_true c17, strip := ⟨200, g⟩ }
    · exact noS g
  · exact noS g
noncomputable def isVal (f : Value → Bool) : Option (Option Value) → Bool
  | some (some v) => f v
  | _ => false
noncomputable def isBlt : Option (Option Value) → Bool
  | some none => true
  | _ => false
noncomputable def refIs (f : Addr → Bool) : Value → Bool
  | .ref a => f a
  | _ => false
theorem isVal_some {f : Value → Bool} {o : Option (Option Value)} (h : isVal f o = true) : ∃ v, o = some (some v) ∧ f v = true := by
  cases o with
  | none => exact fTr h
  | some o => cases o with
    | none => exact fTr h
    | some v => exact ⟨v, rfl, h⟩
theorem refIs_some {f : Addr → Bool} {v : Value} (h : refIs f v = true) : ∃ a, v = .ref a ∧ f a = true := by
  cases v with
  | ref a => exact ⟨a, rfl, h⟩
  | _ => exact fTr h
theorem isBlt_none {o : Option (Option Value)} (h : isBlt o = true) : o = some none := by
  cases o with
  | none => exact fTr h
  | some o => cases o with
    | none => rfl
    | some v => exact fTr h
noncomputable def chkDat (K : Frag) (es : List DictEntry) : Bool := gdats.all fun p => isVal (fun v => rdIn K 20 v p.2) (nsF es p.1)
noncomputable def chkBf (es : List DictEntry) : Bool := gbfs.all fun p => isBlt (nsF es p.1)
noncomputable def chkFns (K : Frag) (es : List DictEntry) (fa : FN → Addr) : Bool := gfns.all fun p => isVal (refIs fun a => Nat.beq a (fa p.2) && (getFn K a).isSome) (nsF es p.1)
noncomputable def tabIs (es : List DictEntry) (x : Str) (a : Addr) : Bool := isVal (refIs fun b => Nat.beq b a) (nsF es x)
noncomputable def dictD (t : String) (sl : Array (Option Value)) : Data → Option (List DictEntry)
  | .dict es _ => if t = "dict" ∧ sl.size = 0 then some es.toList else none
  | _ => none
noncomputable def dictC (dd : Option Addr) (d : Data) (sl : Array (Option Value)) : Value → Option (List DictEntry)
  | .type t => (match dd with
    | none => dictD t sl d
    | some _ => none)
  | _ => none
noncomputable def dictIn (K : Frag) (a : Addr) : Option (List DictEntry) := (K.lookup a).bind fun o => dictC o.dict o.data o.slots o.cls
theorem dictIn_some {K : Frag} {a : Addr} {es : List DictEntry} (h : dictIn K a = some es) : ∃ ep, K.lookup a = some { cls := .type "dict", data := .dict es.toArray ep } := by
  refine bindE h fun o ho h2 => ?_
  obtain ⟨c, dd, dt, sl⟩ := o
  cases c with
  | type t => cases dd with
    | some => exact noS h2
    | none => cases dt with
      | dict v ep =>
        refine and2 (if_some h2) fun ht h3 => ?_
        obtain rfl := Option.some.inj h3
        obtain rfl := ht.1
        obtain rfl : sl = #[] := Array.size_eq_zero_iff.mp ht.2
        exact ⟨ep, ho⟩
      | _ => exact noS h2
  | _ => exact noS h2
noncomputable def keyIs (x : Str) : Value → Bool
  | .str y _ => decide (y = x)
  | _ => false
noncomputable def entIn (K : Frag) : List DictEntry → List (Str × PyData) → Bool
  | [], [] => true
  | e :: es, p :: kvs => keyIs p.1 e.key && rdIn K 20 e.val p.2 && entIn K es kvs
  | _, _ => false
theorem entIn_ok {K : Frag} {h : Heap} {P : Params} (X : K.In h) : ∀ {es : List DictEntry} {kvs : List (Str × PyData)}, entIn K es kvs = true → es.map (·.hash) = kvs.map (fun p => PyData.keyHash P p.1) → EntS P h es kvs
  | [], [], _, _ => .nil
  | [], _ :: _, e, _ => fTr e
  | _ :: _, [], e, _ => fTr e
  | ⟨hh, k, v⟩ :: es, (x, d) :: kvs, e, g => by
    refine and2 (andB e) fun e e3 => and2 (andB e) fun e1 e2 => and2 (List.cons.inj g) fun g1 g2 => ?_
    cases k with
    | str y t =>
      obtain rfl := of_decide_eq_true e1
      subst g1
      exact .cons ((rdIn_all X 20).1 _ _ e2) (entIn_ok X e3 g2)
    | _ => exact fTr e1
theorem gtab_elim {M : GV → Prop} {x : Str} {g : GV} (h : gtab x = some g) (h1 : ∀ d, lookA x gdats = some d → M (.dat d)) (h2 : ∀ f, lookA x gfns = some f → M (.fn f)) (h3 : ∀ b, lookA x gbfs = some b → M (.bf b)) (h4 : (x == ("RANKS" : Str)) = true → M (.tab granks)) : M g := by
  unfold gtab at h
  cases e1 : lookA x gdats with
  | some d => rw [e1] at h; exact elim1 h (h1 d e1)
  | none =>
    rw [e1] at h
    cases e2 : lookA x gfns with
    | some d => rw [e2] at h; exact elim1 h (h2 d e2)
    | none =>
      rw [e2] at h
      cases e3 : lookA x gbfs with
      | some d => rw [e3] at h; exact elim1 h (h3 d e3)
      | none => rw [e3] at h; exact and2 (if_some h) fun hx h => elim1 h (h4 hx)
noncomputable def Named (w : World) (K : Frag) (fa : FN → Addr) (x : Str) : GV → Prop
  | .dat d => ∃ v, nsIn K mainGlobals x = some (some v) ∧ ∀ h, K.In h → RD h v d
  | .fn f => nsIn K mainGlobals x = some (some (.ref (fa f))) ∧ ∀ h, K.In h → ∃ o fd, h.get? (fa f) = some o ∧ o.data = .func fd
  | .bf b => nsIn K mainGlobals x = some none ∧ bootBuiltins x = some (bfVal b)
  | .tab kvs => ∃ b, nsIn K mainGlobals x = some (some (.ref b)) ∧ ∀ h, K.In h → ∃ o es ep, h.get? b = some o ∧ o.ExactDict ∧ o.data = .dict es.toArray ep ∧ EntS w.params h es kvs
theorem named {w : World} {K : Frag} {fa : FN → Addr} {a : Addr} {es ms : List DictEntry} (hm : esIn K mainGlobals = some ms) (h1 : chkDat K ms = true) (h2 : chkBf ms = true) (h3 : chkFns K ms fa = true) (h4 : tabIs ms "RANKS" a = true) (h5 : dictIn K a = some es) (h6 : entIn K es granks = true)
    (h7 : es.map (·.hash) = granks.map (fun p => PyData.keyHash w.params p.1)) (h8 : ∀ p ∈ gbfs, bootBuiltins p.1 = some (bfVal p.2)) {x : Str} {g : GV} (e : gtab x = some g) : Named w K fa x g :=
  gtab_elim e
    (fun d hd => e12 (isVal_some (List.all_eq_true.mp h1 _ (lookA_mem hd))) fun v hv t => ⟨v, (nsF_eq hm _).trans hv, fun h X => (rdIn_all X 20).1 _ _ t⟩)
    (fun f hf => by
      refine e12 (isVal_some (List.all_eq_true.mp h3 _ (lookA_mem hf))) fun v hv t => e12 (refIs_some t) fun b eq1 t => and2 (andB t) fun t1 t2 => ?_
      subst eq1
      obtain rfl := Nat.eq_of_beq_eq_true t1
      refine ⟨(nsF_eq hm _).trans hv, fun h X => ?_⟩
      refine e11 (Option.isSome_iff_exists.mp t2) fun fd hfd => e31 (getFn_some hfd) fun oc od osl hl => ?_
      exact ⟨_, fd, X _ _ hl, rfl⟩)
    (fun b hb => ⟨(nsF_eq hm _).trans (isBlt_none (List.all_eq_true.mp h2 _ (lookA_mem hb))), h8 _ (lookA_mem hb)⟩)
    (fun hx => by
      obtain rfl := eq_of_beq hx
      refine e12 (isVal_some h4) fun v hv t => e12 (refIs_some t) fun b eq1 t => ?_
      subst eq1
      obtain rfl := Nat.eq_of_beq_eq_true t
      refine ⟨b, (nsF_eq hm _).trans hv, fun h X => e11 (dictIn_some h5) fun ep ho => ?_⟩
      exact ⟨_, es, ep, X _ _ ho, ⟨rfl, rfl, rfl⟩, rfl, entIn_ok X h6 h7⟩)
theorem pk_of {w : World} {K : Frag} {fa : FN → Addr} {a : Addr} {es ms : List DictEntry} (hm : esIn K mainGlobals = some ms) (h1 : chkDat K ms = true) (h2 : chkBf ms = true) (h3 : chkFns K ms fa = true) (h4 : tabIs ms "RANKS" a = true) (h5 : dictIn K a = some es) (h6 : entIn K es granks = true)
    (h7 : es.map (·.hash) = granks.map (fun p => PyData.keyHash w.params p.1)) (h8 : ∀ p ∈ gbfs, bootBuiltins p.1 = some (bfVal p.2)) : PK w K fa gtab :=
  ⟨fun x d e => named hm h1 h2 h3 h4 h5 h6 h7 h8 e, fun x kvs e => named hm h1 h2 h3 h4 h5 h6 h7 h8 e, fun x f e => named hm h1 h2 h3 h4 h5 h6 h7 h8 e, fun x f e => named hm h1 h2 h3 h4 h5 h6 h7 h8 e⟩
set_option tactic.hygienic true in
theorem kn_ok {prog : Program} {w : World} {K : Frag} {fa : FN → Addr} (T : PK w K fa gtab) (F : ∀ f fc, fcOf f = some fc → FnIn K gtab (fa f) fc) (hl : ((getFn K (fa 492)).bind fun fd => (fd.scope.names[0]?).map (·.2)) = some .local) :
    ∀ n : Nat, CallsOk prog w K fa n (Kn n) ∧ TakeOk prog w K n (fa 492) (Kn n)
  | 0 => ⟨fun f ds d h => (by cases h), fun xs xs' y d h => (by cases h)⟩
  | n + 1 => by
    obtain ⟨i1, i2⟩ := kn_ok T F hl n
    refine ⟨fun f ds d h => ?_, ?_⟩
    · have h' : (match fcOf f with
        | some fc => runF (Kn n) fc ds
        | none => none) = some d := h
      split at h'
      · rename_i fc hf
        exact call_fn T i1 i2 (F f fc hf) h'
      · exact noS h'
    · refine take_fn T i1 i2 (F 492 fc_l_take rfl) rfl rfl (fun oc od fd osl e => ?_) fun xs y => rfl
      have : getFn K (fa 492) = some fd := by unfold getFn; rw [← lkF_eq, e]; rfl
      rw [this] at hl
      exact hl
theorem ints_reads {h : Heap} {v : Value} {is : List Int} {as : List Addr} (r : Reads h v (.list (is.map .int)) as) (hl : is.length ≤ 63) : RD h v (.list (is.map .int)) := by
  refine ⟨⟨as, r⟩, ?_⟩
  simp only [fine, Bool.and_eq_true]
  refine ⟨lenOk_le.mpr (by rw [List.length_map]; exact leE hl rfl), fines_of fun x hx => ?_⟩
  refine e12 (List.mem_map.mp hx) fun i _ eq1 => ?_; subst eq1
  simp [fine]
theorem law_in {prog : Program} {w : World} {K : Frag} {fa : FN → Addr} {gt : Str → Option GV} {K' : Or} {n f : Nat} {s₁ : Shared} {h₁ : Heap} {name x : Str} {scope : Scope} {a : Addr} {cd v : Value} {body : List Stmt} {cs : List CS} {m : Str → Option Value} {A : Around} {d : PyData} {st1 : St}
    (T : PK w K fa gt) (H : CallsOk prog w K fa n K') (HT : TakeOk prog w K n (fa 492) K') (g : Gl K s₁.heap) (h1 : A.handled = none) (h2 : A.depth + (n + 1) < recursionLimit) (h3 : A.units + 8 * (n + 1) + 256 < cLine)
    (hk : scope.kind = .function) (nod : nodupS scope.names = true) (nc : scope.names.all (fun p => p.2 != .cell) = true) (F : Fr s₁.heap s₁.heap.objs.size h₁ m) (big : sysModules < s₁.heap.objs.size)
    (h0 : scope.names[0]? = some (x, .local)) (hm : m x = some v) (rv : RD s₁.heap v d) (hs : stripSs gt f scope.names body = some cs) (q : execs K' cs (.d d :: List.replicate (scope.names.length - 1) .un) = some (some (.bool true), st1))
    {tk : Nat} {E : Value → Shared → Prop} {Q : Flow → Shared → Prop} (fin : ∀ h' tk, s₁.heap.StaysIn h' → Q (.ret (.bool true)) { s₁ with heap := h', toks := tk }) :
    wpAny (model prog w) (A.deeper (envOf name scope s₁.heap.objs.size a cd)) (PySem.execs body (envOf name scope s₁.heap.objs.size a cd)) Q E { s₁ with heap := h₁, toks := tk } := by
  have hL : s₁.heap.get? s₁.heap.objs.size = none := fresh_size _
  have base : s₁.heap.StaysIn (keepOnly h₁ fun b => (s₁.heap.get? b).isSome = true) := fun b o e => keepOnly_some (by rw [e]; rfl) (F.keep _ _ e)
  have O : (⟨prog, w, K, envOf name scope s₁.heap.objs.size a cd, A.deeper (envOf name scope s₁.heap.objs.size a cd), s₁.heap, fun _ => none, n⟩ : Cx).Ok :=
    { kind := hk, glob := rfl, blt := rfl, hnd := h1, dep := by show A.depth + 1 + n < recursionLimit; exact leZ h2
      unt := by show A.units + 3 + 8 * n + 256 < cLine; exact nlt (fk (c3 A.units n cLine) [(1, .add (.add (.add (.var 0) (.mulL 8 (.add (.var 1) (.num 1)))) (.num 256)) (.num 1), .var 2), (1, .var 2, .add (.add (.add (.var 0) (.num 3)) (.mulL 8 (.var 1))) (.num 256))] rfl (nt h3))
      gl := g, nod := nod
      cel := fun y hy => by
        have : (y, NameKind.cell) ∈ scope.names := by
          have hy' : scope.names.lookup y = some .cell := hy
          refine e22 (List.lookup_eq_some_iff.mp hy') fun l1 l2 e _ => ?_
          rw [e]; simp
        have := List.all_eq_true.mp nc _ this
        simp at this }
  have hoff : (keepOnly h₁ fun b => (s₁.heap.get? b).isSome = true).get? s₁.heap.objs.size = none := keepOnly_none fun z => (by rw [hL] at z; exact fTr z)
  have W : Wld _ K' fa gt := ⟨O, T, H, HT⟩
  have hlen : 0 < scope.names.length := (List.getElem?_eq_some_iff.mp h0).1
  have G : Good ⟨prog, w, K, envOf name scope s₁.heap.objs.size a cd, A.deeper (envOf name scope s₁.heap.objs.size a cd), s₁.heap, fun _ => none, n⟩ m (.d d :: List.replicate (scope.names.length - 1) .un) (fun _ => none) (keepOnly h₁ fun b => (s₁.heap.get? b).isSome = true) h₁ := by
    refine ⟨⟨F.ns, base, fun b o e => (of_keepOnly e).2, hoff, fun i b o e => (by exact noS e), fun i j b o o' e => (by exact noS e), fun b o e => (by exact noS e), Nat.lt_of_lt_of_le big F.above⟩, ?_, fun i y k e => ?_⟩
    · show (Slot.d d :: List.replicate (scope.names.length - 1) Slot.un).length = scope.names.length
      rw [List.length_cons, List.length_replicate]; exact Nat.sub_add_cancel hlen
    · cases i with
      | zero =>
        have e' : scope.names[0]? = some (y, k) := e
        rw [h0] at e'
        obtain ⟨rfl, rfl⟩ := some2 e'
        exact ⟨v, hm, rv.keeps base⟩
      | succ i =>
        have : St.at (Slot.d d :: List.replicate (scope.names.length - 1) Slot.un) (i + 1) = .un := at_un
        rw [this]; trivial
  refine (x_all f).2 _ W body cs hs _ _ _ q _ { s₁ with heap := h₁, toks := tk } _ _ _ _ G fun fl m' h' tk ow' S' le G' hf => ?_
  obtain ⟨v', rfl, rv'⟩ := hf
  rw [rv'.bool_inv]
  exact fin h' tk (tr base (tr le G'.1.stay))
set_option tactic.hygienic true
noncomputable def fa (f : FN) : Addr := f
noncomputable def allFN : List FN := [41, 48, 55, 62, 69, 76, 83, 90, 97, 104, 114, 121, 128, 135, 142, 149, 156, 163, 170, 177, 184, 191, 196, 201, 208, 216, 223, 228, 235, 242, 249, 256, 263, 270, 277, 284, 291, 305, 312, 319, 326, 331, 338, 345, 352, 357, 364, 371, 378, 385, 390, 397, 404, 411, 418, 423, 432, 439, 446, 451, 458, 463, 470, 477, 484, 492, 499, 506, 513, 520, 527, 534, 541]
theorem fcs_in : fcs.all (fun p => allFN.contains p.1) = true := by decide +kernel
theorem mem_allFN {f : FN} {fc : FnC} (h : fcOf f = some fc) : f ∈ allFN := by
  have := List.all_eq_true.mp fcs_in _ (lookA_mem h)
  exact List.contains_iff_mem.mp this
noncomputable def needed : List Addr := [3, 40, 41, 47, 48, 54, 55, 61, 62, 68, 69, 75, 76, 82, 83, 89, 90, 96, 97, 103, 104, 105, 106, 107, 113, 114, 120, 121, 127, 128, 134, 135, 141, 142, 148, 149, 155, 156, 162, 163, 169, 170, 176, 177, 183, 184, 190, 191, 195, 196, 200, 201, 207, 208, 209, 215, 216, 222, 223, 227, 228, 234, 235, 241, 242, 248, 249, 255, 256, 262, 263, 269, 270, 276, 277, 283, 284, 290, 291, 292, 293, 294, 295, 296, 297, 298, 304, 305, 311, 312, 318, 319, 325, 326, 330, 331, 337, 338, 344, 345, 351, 352, 356, 357, 363, 364, 370, 371, 377, 378, 384, 385, 389, 390, 396, 397, 403, 404, 410, 411, 417, 418, 422, 423, 424, 425, 431, 432, 438, 439, 445, 446, 450, 451, 457, 458, 462, 463, 469, 470, 476, 477, 483, 484, 485, 491, 492, 498, 499, 505, 506, 512, 513, 519, 520, 526, 527, 533, 534, 540, 541]
noncomputable def live : Data → Bool
  | .freed => false
  | _ => true
noncomputable def pick : List Obj → Addr → List Addr → Frag
  | [], _, _ => []
  | _, _, [] => []
  | o :: r, i, a :: l => match Nat.beq i a with
    | true => (match live o.data with
      | true => (i, o) :: pick r (i + 1) l
      | false => pick r (i + 1) l)
    | false => pick r (i + 1) (a :: l)
theorem pick_in {a : Addr} {o : Obj} : ∀ {os : List Obj} {i : Addr} {l : List Addr}, (pick os i l).lookup a = some o → ∃ k, a = i + k ∧ os[k]? = some o ∧ live o.data = true
  | [], _, _, h => nomatch h
  | _ :: _, _, [], h => nomatch h
  | p :: r, i, b :: l, h => by
    have up : ∀ l, (pick r (i + 1) l).lookup a = some o → ∃ k, a = i + k ∧ (p :: r)[k]? = some o ∧ live o.data = true := fun l h => e12 (pick_in h) fun k e1 e2 => ⟨k + 1, by rw [e1, Nat.add_right_comm, Nat.add_assoc], e2⟩
    rw [pick] at h
    cases q : Nat.beq i b with
    | true =>
      rw [q] at h
      cases z : live p.data with
      | true =>
        rw [z] at h
        dsimp only at h
        rw [List.lookup_cons] at h
        cases t : a == i with
        | true => rw [t] at h; cases h; exact ⟨0, beq_iff_eq.mp t, rfl, z⟩
        | false => rw [t] at h; exact up l h
      | false => rw [z] at h; exact up l h
    | false => rw [q] at h; exact up _ h
noncomputable def pieceOf (h : Heap) : Frag := pick h.objs.toList 0 needed
theorem pieceOf_in {h : Heap} : (pieceOf h).In h := fun a o e => e13 (pick_in e) fun k e1 e2 e3 => by
  rw [Nat.zero_add] at e1
  subst e1
  rw [Array.getElem?_toList] at e2
  unfold Heap.get?
  rw [e2]
  obtain ⟨c, d, dt, sl⟩ := o
  cases dt <;> first | rfl | cases e3
noncomputable def sound (K : Frag) : Bool := (match esIn K mainGlobals with
    | some ms => chkDat K ms && chkBf ms && chkFns K ms fa && tabIs ms "RANKS" 209
    | none => false) && (match getFn K (fa 492) with
    | some fd => (match fd.scope.names with
      | (_, .local) :: _ => true
      | _ => false)
    | none => false) && (getFn K 541).isSome && allFN.all fun f => match fcOf f with
      | some fc => chkFn K (fa f) fc.np fc.nl
      | none => true
noncomputable def stmtsOf : FuncBody → Option (List Stmt)
  | .stmts b => some b
  | _ => none
noncomputable def srcW (K : Frag) (a : Addr) : Option (List (Str × NameKind) × List Stmt) := match getFn K a with
  | some fd => (stmtsOf fd.body).map fun b => (fd.scope.names, b)
  | none => none
theorem srcW_some {K : Frag} {a : Addr} {p : List (Str × NameKind) × List Stmt} (h : srcW K a = some p) : fnStrip K a = stripSs gtab 200 p.1 p.2 := by
  unfold srcW at h
  unfold fnStrip
  cases e : getFn K a with
  | none => rw [e] at h; exact noS h
  | some fd =>
    rw [e] at h
    refine mapE h fun b hb q => ?_
    subst q
    cases e2 : fd.body with
    | stmts c => rw [e2] at hb; cases hb; dsimp only; rw [e2]
    | expr c => rw [e2] at hb; exact noS hb
noncomputable def defsIn : List Stmt → List (List (Str × NameKind) × List Stmt)
  | [] => []
  | .FunctionDef _ _ b _ _ _ sc _ _ _ :: r => (sc.names, b) :: defsIn r
  | _ :: r => defsIn r
noncomputable def stripAt (p : FN × List (Str × NameKind) × List Stmt) : Option (List CS) := match fcOf p.1 with
  | some _ => stripSs gtab 200 p.2.1 p.2.2
  | none => none
theorem zip_at {α β γ : Type} {g : α → Option β} {s : α × β → γ} {t : α → γ} : ∀ {l : List α} {ds : List β}, l.map g = ds.map some → (l.zip ds).map s = l.map t → ∀ f ∈ l, ∃ d, g f = some d ∧ s (f, d) = t f
  | [], _, _, _, _, h => nomatch h
  | _ :: _, [], h, _, _, _ => nomatch h
  | a :: l, d :: ds, h1, h2, f, h => by
    refine and2 (List.cons.inj h1) fun a1 b1 => and2 (List.cons.inj h2) fun a2 b2 => ?_
    cases h with
    | head => exact ⟨d, a1, a2⟩
    | tail _ h => exact zip_at b1 b2 f h
noncomputable def ranks (K : Frag) : Option (Bool × List Int) := match dictIn K 209 with
  | some es => some (entIn K es granks, es.map (·.hash))
  | none => none
theorem gboot : ∀ p ∈ gbfs, bootBuiltins p.1 = some (bfVal p.2) := by
  intro p hp
  simp only [gbfs, List.mem_cons, List.not_mem_nil, or_false] at hp
  rcases hp with rfl | rfl | rfl | rfl | rfl | rfl | rfl | rfl | rfl | rfl <;> dsimp only <;> boot_by_name
abbrev txt : Program := PySem.Challenge.pw_tk0043_01
noncomputable def view1 : Program := view txt [102]
noncomputable def others : List Str := txt.boundNames.filter fun x => x != "law"
theorem stripped : (allFN.zip (defsIn txt.main.body)).map stripAt = allFN.map fun f => (fcOf f).map (·.body) := by kernel_rfl
noncomputable def asked (s : Shared) : Bool × List (Option (List (Str × NameKind) × List Stmt)) × Option (Bool × List Int) := (sound (pieceOf s.heap), allFN.map (srcW (pieceOf s.heap)), ranks (pieceOf s.heap))
noncomputable def told (w : World) : Bool × List (Option (List (Str × NameKind) × List Stmt)) × Option (Bool × List Int) := (true, (defsIn txt.main.body).map some, some (true, granks.map fun p => PyData.keyHash w.params p.1))
noncomputable def TopEnds (w : World) : Prop := ∀ os : OsState, (topFrom treeTable txt w 5958 ⟨boot_heap w.params, #[], boot_drawn, boot_toks, os⟩).map (fun s => (openSeen view1 others (importedModules txt.main.body) (fun s => xlAt view1 [] s && recOk [] s) true s, asked s)) = some (openGood view1 others, told w)
set_option maxHeartbeats 4000000 in
theorem top_no (w : World) : TopEnds (w.withFollow "special-get-raises" false) := fun os => by
  unfold topFrom
  rw [PySem.W.Fast.te14082659384304107361, PySem.W.Fast.te4187177175401517315, PySem.W.Fast.te14364793385576792824, PySem.W.Fast.te8920871248978507458, PySem.W.Fast.te5923862056798008813]
  kernel_rfl
set_option maxHeartbeats 4000000 in
theorem top_yes (w : World) : TopEnds (w.withFollow "special-get-raises" true) := fun os => by
  unfold topFrom
  rw [PySem.W.Fast.te14082659384304107361, PySem.W.Fast.te4187177175401517315, PySem.W.Fast.te14364793385576792824, PySem.W.Fast.te8920871248978507458, PySem.W.Fast.te5923862056798008813]
  kernel_rfl
theorem top_ends (w : World) : TopEnds w := byRow2 "special-get-raises" top_no top_yes w
theorem opens : opening txt = plainProg txt.main.scope.names := rfl
theorem fences (s : Shared) : fenceModules? txt s = some s := rfl
theorem of_parts {α : Type} {F : Shared → α} {r : α} {a : Heap} {b : Array GenState} {c : Drawn} {d : Nat} {s : Shared} (hv : (s.heap, s.gens, s.drawn, s.toks) = (a, b, c, d)) (k : ∀ os, F ⟨a, b, c, d, os⟩ = r) : F s = r := by
  obtain ⟨_, _, _, _, os⟩ := s
  cases hv
  exact k os
theorem left : LeftO txt view1 others (fun s => xlAt view1 [] s && recOk [] s) asked told 5958 := fun w => by
  obtain ⟨s, hs, hv⟩ := Option.map_eq_some_iff.mp (boot_open opens rfl fences w (N := 5958))
  unfold openEnds
  rw [hs]
  exact of_parts (F := fun s => (topFrom treeTable txt w 5958 s).map fun s => (openSeen view1 others (importedModules txt.main.body) (fun s => xlAt view1 [] s && recOk [] s) true s, asked s)) hv (top_ends w)
structure Facts (w : World) (K : Frag) : Prop where
  ok : sound K = true
  bs : allFN.map (srcW K) = (defsIn txt.main.body).map some
  rk : ranks K = some (true, granks.map fun p => PyData.keyHash w.params p.1)
section
variable {w : World} {K : Frag}
theorem Facts.split (F : Facts w K) : (∃ ms, esIn K mainGlobals = some ms ∧ chkDat K ms = true ∧ chkBf ms = true ∧ chkFns K ms fa = true ∧ tabIs ms "RANKS" 209 = true) ∧ ((getFn K (fa 492)).bind fun fd => (fd.scope.names[0]?).map (·.2)) = some .local ∧ (getFn K 541).isSome = true ∧
    ∀ f fc, fcOf f = some fc → FnIn K gtab (fa f) fc := by
  have h := F.ok
  unfold sound at h
  simp only [Bool.and_eq_true] at h
  obtain ⟨⟨⟨h1, h5⟩, h6⟩, h7⟩ := h
  refine ⟨?_, ?_, h6, fun f fc e => ?_⟩
  · split at h1
    · rename_i ms hm
      simp only [Bool.and_eq_true] at h1
      exact ⟨ms, hm, h1.1.1.1, h1.1.1.2, h1.1.2, h1.2⟩
    · cases h1
  · split at h5
    · rename_i fd hf
      rw [hf]
      split at h5
      · rename_i x r hn
        show (fd.scope.names[0]?).map (·.2) = _
        rw [hn]; rfl
      · cases h5
    · cases h5
  · have a := List.all_eq_true.mp h7 f (mem_allFN e)
    refine e12 (zip_at F.bs stripped f (mem_allFN e)) fun d h1 h2 => ?_
    unfold stripAt at h2
    dsimp only at h2
    rw [e] at a h2
    exact fnIn_of a ((srcW_some h1).trans h2)
theorem Facts.pk (F : Facts w K) : PK w K fa gtab := by
  obtain ⟨⟨ms, hm, h1, h2, h3, h4⟩, _⟩ := F.split
  have h := F.rk
  unfold ranks at h
  split at h
  · rename_i es he
    cases h' : entIn K es granks with
    | false => rw [h'] at h; cases h
    | true => exact pk_of hm h1 h2 h3 h4 he h' (congrArg (fun o => (o.map (·.2)).getD []) h) gboot
  · cases h
end
noncomputable def LawRuns : Prop := ∀ is : List Int, is.length ≤ 63 → ∃ st1, execs (Kn 650) fc_law.body (.d (.list (is.map .int)) :: List.replicate 25 .un) = some (some (.bool true), st1)
noncomputable def Stands (w : World) (h : Heap) : Prop := ∃ K : Frag, K.In h ∧ Facts w K
theorem stands_of {w : World} {s : Shared} (e : asked s = told w) : Stands w s.heap := ⟨_, pieceOf_in, congrArg (·.1) e, congrArg (·.2.1) e, congrArg (·.2.2) e⟩
theorem Stands.keeps {w : World} {h h' : Heap} (x : Stands w h) (k : ∀ b o, h.get? b = some o → h'.get? b = some o) : Stands w h' := ⟨x.choose, x.choose_spec.1.keeps k, x.choose_spec.2⟩
theorem a1 : sreFenced txt.main = true := by rw [PySem.W.Fast.te11788848310118352699]; kernel_rfl
theorem a2 : ((moduleNames txt.main.body).isEmpty || lookedIntoSs (moduleNames txt.main.body) txt.main.body) = true := by rw [PySem.W.Fast.te9807087744658564304, PySem.W.Fast.te12862048085361865435]; kernel_rfl
theorem a3 : namesResolve txt = true := by rw [PySem.W.Fast.te8377067652309620493]; kernel_rfl
theorem a4 : txt.boundNames.all (fun n => !worldNames.contains n) = true := by rw [PySem.W.Fast.te18344453789297297638, PySem.W.Fast.te14412699480532031325]; kernel_rfl
theorem a5 : noRoadLSs { strict := !(importedModules txt.main.body).all cThrough.contains, foot := none, bare := (["vars", "dir", "locals"] : List Str).filter (readsOut txt txt.main.body) } txt.main.body = true := by
  rw [PySem.W.Fast.te8326940854005059898, PySem.W.Fast.te5923862056798008813, PySem.W.Fast.te17691160309236699985, PySem.W.Fast.te13343964577679436407]; kernel_rfl
theorem a6 : (namesMeet txt txt.main.body fun _ n => attrL n) = true := by rw [PySem.W.Fast.te17119622794617984870, PySem.W.Fast.te17868728402115742887]; kernel_rfl
theorem a7 : looksOpen txt = true := look_both (look_both (look_both (look_both (look_both a1 a2) a3) a4) a5) a6
abbrev lawRow := PySem.Challenge.rw_tk0043_01
theorem b1 : lawRow.row.partSaid = true := by
  unfold OpenRow.partSaid
  rw [show looksOpen lawRow.row.prog = true from a7]
  kernel_rfl
theorem b2 : lawRow.row.wellSaid = true := by
  unfold OpenRow.wellSaid
  rw [b1]
  kernel_rfl
theorem b3 : noRoadLSs { strict := true, foot := some lawRow.bound', writes := lawRow.writes, may := lawRow.may } lawRow.footing = true := by
  rw [PySem.W.Fast.te8326940854005059898, PySem.W.Fast.te797321630700447069, PySem.W.Fast.te9572597257264208301]; kernel_rfl
theorem said : lawRow.wellSaid = true := by
  unfold OpenLaw.wellSaid
  rw [b2, b3, PySem.W.Fast.te10501279942588096481, PySem.W.Fast.te8179353310426384613, PySem.W.Fast.te9558739934217749035, PySem.W.Fast.te16286561074155671207, PySem.W.Fast.te17119622794617984870, PySem.W.Fast.te797321630700447069, PySem.W.Fast.te6984425678791042302, PySem.W.Fast.te482687673346738481, PySem.W.Fast.te12879404354523853263, PySem.W.Fast.te10792542408131684335]
  kernel_rfl
theorem b4 : (chainsOk view1 && opensWell lawRow.row.prog && (frees lawRow.row.toRowW && lawRow.row.within.isEmpty)) = true := by kernel_rfl
set_option maxHeartbeats 4000000 in
theorem law_holds (run : LawRuns) : PySem.Challenge.rw_tk0043_01.Holds := by
  w_on
  refine holds_law said fun said' => ?_
  refine holds_open (q := view1) (loose := others) (Xt := fun s => xlAt view1 [] s && recOk [] s) (XP := XL view1 []) (Yf := asked) (Ya := told) (YP := Stands) (N := 5958) left (fun _ _ e => stands_of e) (fun _ _ _ x k => x.keeps k) (fun s e => xl_of s (Bool.and_eq_true_iff.mp e).1) XL.keeps (by rfl) (by rfl) (by rfl) (fun s e => recFacts_of (Bool.and_eq_true_iff.mp e).2) (by rfl) said' b4 ⟨rfl, rfl, rfl, rfl, rfl, by decide +kernel⟩ ?hw ?hc
  case hw => w_witness2
  case hc =>
    w_strict (
      intro w s₀ s₁ mg mb G Y fa o pm cd doc dV kV ho hd hcd hD hmg hg args vals as hpre hlay hrd hwl hlo
      obtain ⟨K, KX, FK⟩ := Y
      refine Ground.open G ?_
      intro T B D TE TW
      wrow_args hpre hlay hrd hwl hlo
      refine enter_call ?_
      w_top on
      refine codeAny_mono ?_ (fun _ _ g => GoodW.toG g)
      w_call any ho hd hcd hD T F
      rename Top _ _ _ _ _ _ => T
      rename Fr _ _ _ _ => F
      rename Reads _ (Value.ref _) (PyData.list _) _ => r0
      rename ¬ _ < _ => hl
      rename _ = #[] => hg
      have hl' : _ ≤ 63 := Int.ofNat_le.mp (Int.not_lt.mp hl)
      obtain ⟨st1, q⟩ := run _ hl'
      have P := FK.pk
      obtain ⟨_, ht, hb, hf⟩ := FK.split
      have big := Heap.lt_size (KX _ _ (Classical.choose_spec (getFn_some (Option.eq_some_of_isSome hb)).choose_spec.choose_spec))
      refine law_in (K := K) (f := 200) P (kn_ok P hf ht 650).1 (kn_ok P hf ht 650).2 ⟨KX, ⟨_, T.g⟩, ⟨_, T.b, T.builtins⟩, T.nolimit⟩ rfl (by decide) (by decide) rfl (by kernel_rfl) (by kernel_rfl) F (Nat.lt_trans (by decide) big) rfl rfl (ints_reads r0 hl') (by kernel_rfl) q fun h' tk st => ?_
      exact ⟨.inl ⟨.bool true, .bool true, [], rfl, fun _ => rfl, .bool true, (by kernel_rfl), fun _ => ⟨List.nodup_nil, fun a ha => nomatch ha⟩⟩, st, rfl, hg⟩)
end Mine
end
section
open PySem PySem.W PyProof.Rows
namespace Mine
inductive Fn | sin | cos | log | exp | sinh | cosh
set_option genCtorIdx false in
inductive Tm
  | num (p q : Int) | x | sum (ts : List Tm) | prod (ts : List Tm) | pow (b e : Tm) | call (f : Fn) (a : Tm)
noncomputable def Tm.ctorIdx (t : Tm) : Nat := t.casesOn (fun _ _ => 0) 1 (fun _ => 2) (fun _ => 3) (fun _ _ => 4) fun _ _ => 5
noncomputable def Fn.str : Fn → Str
  | .sin => "sin" | .cos => "cos" | .log => "log" | .exp => "exp" | .sinh => "sinh" | .cosh => "cosh"
mutual
noncomputable def enc : Tm → PyData
  | .num p q => .tuple [.str "num", .int p, .int q]
  | .x => .tuple [.str "sym", .str "x"]
  | .sum ts => .tuple [.str "sum", .tuple (encs ts)]
  | .prod ts => .tuple [.str "prod", .tuple (encs ts)]
  | .pow b e => .tuple [.str "pow", enc b, enc e]
  | .call f a => .tuple [.str "call", .str f.str, .tuple [enc a]]
noncomputable def encs : List Tm → List PyData
  | [] => []
  | t :: r => enc t :: encs r
end
theorem Kn_call (n : Nat) (f : FN) (args : List PyData) : (Kn (n + 1)).call f args = match fcOf f with
    | some fc => runF (Kn n) fc args
    | none => none := rfl
abbrev encQ (r : Int × Int) : PyData := .tuple [.int r.1, .int r.2]
set_option genCtorIdx false in
inductive TE where
  | b (c : Bool)
  | q (c : Bool)
  | qq (c : Bool)
  | c (r : PyData)
  | iv (d : PyData)
  | bv (d : PyData)
  | cv (d : PyData)
  | vv (d : PyData)
  | dp (d : PyData) (kvs : List (PyData × PyData))
  | po (x : PyData) (xs : List PyData)
  | tk (r : PyData) (xs : List PyData)
  | w (o : Option PyData) (st : St)
  | f (o : Option PyData) (st : St)
  | sk
noncomputable def TE.ctorIdx (t : TE) : Nat := t.casesOn (fun _ => 0) (fun _ => 1) (fun _ => 2) (fun _ => 3) (fun _ => 4) (fun _ => 5) (fun _ => 6) (fun _ => 7) (fun _ _ => 8) (fun _ _ => 9) (fun _ _ => 10) (fun _ _ => 11) (fun _ _ => 12) 13
structure TS where
  st : St
  tr : List TE
  ob : List (Or → Prop)
noncomputable def TS.say (s : TS) (tr : List TE) (P : Or → Prop) : TS := ⟨s.st, tr, P :: s.ob⟩
noncomputable def TS.to (s : TS) (st : St) : TS := ⟨st, s.tr, s.ob⟩
noncomputable def TS.on (s : TS) (tr : List TE) : TS := ⟨s.st, tr, s.ob⟩
noncomputable def All (K : Or) : List (Or → Prop) → Prop
  | [] => True
  | P :: r => P K ∧ All K r
abbrev TAns (α : Type) := Option (α × TS)
noncomputable def tb {α β : Type} (m : TAns α) (f : α → TS → TAns β) : TAns β := match m with
  | some (a, s) => f a s
  | none => none
noncomputable def isStr : PyData → Bool
  | .str _ => true
  | _ => false
noncomputable def okK {α : Type} (o : Option α) (s : TS) : TAns α := match o with
  | some a => some (a, s)
  | none => none
noncomputable def boolT (o : Option Bool) (s : TS) : TAns PyData := match o with
  | some c => some (.bool c, s)
  | none => none
noncomputable def strCmp : CmpOp → PyData → PyData → Bool
  | .In, x, _ => isStr x
  | _, _, y => isStr y
noncomputable def cmpA (op : CmpOp) (x y : PyData) (s : TS) : TAns PyData := match strCmp op x y with
  | true => boolT (cmpV op x y) s
  | false => match s.tr with
    | .b c :: tr => some (.bool c, s.say tr fun _ => cmpV op x y = some c)
    | .q c :: tr => some (.bool c, s.say tr fun _ => cmpV op x y = some c)
    | .sk :: tr => boolT (cmpV op x y) (s.on tr)
    | _ => boolT (cmpV op x y) s
noncomputable def cmpT (op : CmpOp) (x y : PyData) (s : TS) : TAns PyData := match s.tr with
  | .qq c :: tr => some (.bool c, s.say tr fun _ => cmpV op x y = some c)
  | _ => cmpA op x y s
noncomputable def binIT (op : Operator) (a b : Int) : Option (PyData × List Prop) := match op with
  | .Add => some (.int (a + b), [])
  | .Sub => some (.int (a - b), [])
  | .Mult => some (.int (a * b), [(sm a || sm b) = true])
  | .FloorDiv => some (.int (a.fdiv b), [b ≠ 0 ∧ sm b = true])
  | .Mod => some (.int (a.fmod b), [b ≠ 0 ∧ sm b = true])
  | .Pow => some (.int (a ^ b.toNat), [(sm a && decide (0 ≤ b) && decide (b ≤ 100000)) = true])
  | _ => none
noncomputable def catT (k : List PyData → PyData) (op : Operator) (l : List PyData) : Option (PyData × List Prop) := match op with
  | .Add => some (k l, [lenOk l = true])
  | _ => none
noncomputable def binTW (op : Operator) : Two → Option (PyData × List Prop)
  | .ints a b => binIT op a b
  | .lists a b => catT .list op (a ++ b)
  | .tups a b => catT .tuple op (a ++ b)
  | _ => none
noncomputable def binT (op : Operator) (x y : PyData) : Option (PyData × List Prop) := binTW op (two x y)
noncomputable def sayAll (s : TS) : List Prop → TS
  | [] => s
  | P :: r => sayAll ⟨s.st, s.tr, (fun _ => P) :: s.ob⟩ r
noncomputable def binTA (op : Operator) (x y : PyData) (s : TS) : TAns PyData := match binT op x y with
  | some (d, ps) => some (d, sayAll s ps)
  | none => none
noncomputable def binTK (op : Operator) (x y : PyData) (s : TS) : TAns PyData := match s.tr with
  | .bv d :: tr => some (d, s.say tr fun _ => binV op x y = some d)
  | _ => binTA op x y s
noncomputable def itemT (xs : List PyData) : Int → Option PyData
  | .ofNat n => xs[n]?
  | .negSucc _ => none
noncomputable def idxA : PyData → PyData → Option PyData
  | .list xs, .int i => itemT xs i
  | .tuple xs, .int i => itemT xs i
  | _, _ => none
noncomputable def idxT (x y : PyData) (s : TS) : TAns PyData := match s.tr with
  | .iv d :: tr => some (d, s.say tr fun _ => idxV x y = some d)
  | .sk :: tr => okK (idxA x y) (s.on tr)
  | _ => okK (idxA x y) s
noncomputable def idxNT (i : Nat) (y : PyData) (s : TS) : TAns PyData := match s.st.at i with
  | .d x => idxT x y s
  | .ol xs => idxT (.list xs) y s
  | .od kvs => (match s.tr with
    | .iv d :: tr => some (d, s.say tr fun _ => keyOk y = true ∧ lookD kvs y = some d)
    | _ => none)
  | .os kvs => (match y with
    | .str k => okK (lookS kvs k) s
    | _ => none)
  | .un => none
noncomputable def valT (o : Option PyData) (s : TS) : TAns PyData := match s.tr with
  | .vv d :: tr => some (d, s.say tr fun _ => o = some d)
  | .sk :: tr => okK o (s.on tr)
  | _ => okK o s
noncomputable def gdT {α : Type} (p : Slot → Bool) (i : Nat) (f : TS → TAns α) (s : TS) : TAns α := match p (s.st.at i) with
  | true => f s
  | false => none
noncomputable def iteT {β : Type} (o : TAns PyData) (g h : TS → TAns β) : TAns β := match o with
  | some (.bool true, s) => g s
  | some (.bool false, s) => h s
  | _ => none
noncomputable def callT (f : FN) (ds : List PyData) (s : TS) : TAns PyData := match s.tr with
  | .c r :: tr => some (r, s.say tr fun K => K.call f ds = some r)
  | _ => none
noncomputable def takeT (i : Nat) (y : PyData) (s : TS) : TAns PyData := match s.tr with
  | .tk r xs' :: tr => (match s.st.at i with
    | .ol xs => some (r, ⟨s.st.put i (.ol xs'), tr, (fun K => K.take xs y = some (r, xs')) :: s.ob⟩)
    | _ => none)
  | _ => none
noncomputable def invT (i : Nat) (x : PyData) (s : TS) : TAns PyData := match s.st.at i with
  | .od kvs => (match s.tr with
    | .b c :: tr => some (.bool c, s.say tr fun _ => keyOk x = true ∧ (lookD kvs x).isSome = c)
    | _ => none)
  | .d y => cmpT .In x y s
  | _ => none
noncomputable def dgetT (i : Nat) (x y : PyData) (s : TS) : TAns PyData := match s.st.at i with
  | .od kvs => (match s.tr with
    | .iv d :: tr => some (d, s.say tr fun _ => keyOk x = true ∧ (lookD kvs x).getD y = d)
    | _ => none)
  | _ => none
noncomputable def dpopT (i : Nat) (x y : PyData) (s : TS) : TAns PyData := match s.st.at i with
  | .od kvs => (match s.tr with
    | .dp d kvs' :: tr => some (d, ⟨s.st.put i (.od kvs'), tr, (fun _ => keyOk x = true ∧ (lookD kvs x).getD y = d ∧ delD kvs x = kvs') :: s.ob⟩)
    | _ => none)
  | _ => none
noncomputable def popT (i : Nat) (s : TS) : TAns PyData := match s.st.at i with
  | .ol xs => (match s.tr with
    | .po x xs' :: tr => some (x, ⟨s.st.put i (.ol xs'), tr, (fun _ => xs.getLast? = some x ∧ xs.dropLast = xs') :: s.ob⟩)
    | _ => none)
  | _ => none
noncomputable def compT (P : PyData → St → Or → Prop) (s : TS) : TAns PyData := match s.tr with
  | .cv d :: tr => some (d, s.say tr (P d s.st))
  | _ => none
noncomputable def rngT1 : PyData → Option (List PyData × List Prop)
  | .int b => some (rangeD 0 b.toNat, [-1048576 ≤ b ∧ b ≤ 1048576])
  | _ => none
noncomputable def rngT2 : Two → Option (List PyData × List Prop)
  | .ints a b => some (rangeD a (b - a).toNat, [0 ≤ a ∧ a ≤ 1048576 ∧ -1048576 ≤ b ∧ b ≤ 1048576])
  | _ => none
noncomputable def srcT (sk : SK) (l : List PyData) : Option (List PyData × List Prop) := match sk with
  | .it => (oneL itemsOf l).map fun x => (x, [])
  | .enum => (oneL enumV l).map fun x => (x, [])
  | .range1 => oneL rngT1 l
  | .range2 => twoL rngT2 l
  | _ => none
noncomputable def srcTK (sk : SK) (ds : List PyData) (s : TS) : TAns (List PyData) := match srcT sk ds with
  | some (l, ps) => some (l, sayAll s ps)
  | none => none
noncomputable def upS {α : Type} (o : Ans α) (s : TS) : TAns α := match o with
  | some (a, st) => some (a, s.to st)
  | none => none
noncomputable def consTK (x : PyData) (l : List PyData) (s : TS) : TAns (List PyData) := some (x :: l, s)
noncomputable def tupTK (l : List PyData) (s : TS) : TAns PyData := some (.tuple l, s)
noncomputable def lstTK (l : List PyData) (s : TS) : TAns PyData := some (.list l, s)
noncomputable def srcFT (f : TS → TAns (List PyData)) (sk : SK) (s : TS) : TAns (List PyData) := match sk with
  | .items i => upS (itemsK i s.st) s
  | .it => tb (f s) (srcTK .it)
  | .enum => tb (f s) (srcTK .enum)
  | .range1 => tb (f s) (srcTK .range1)
  | .range2 => tb (f s) (srcTK .range2)
mutual
noncomputable def evT : CE → TS → TAns PyData
  | .k d, s => some (d, s)
  | .v i, s => upS (rdv s.st i) s
  | .tup es, s => tb (evsT es s) tupTK
  | .lst es, s => tb (evsT es s) lstTK
  | .bin op a b, s => tb (evT a s) fun x s => tb (evT b s) (binTK op x)
  | .neg a, s => tb (evT a s) fun x s => upS (negK x s.st) s
  | .cmp op a b, s => tb (evT a s) fun x s => tb (evT b s) (cmpT op x)
  | .inv a i, s => tb (evT a s) (invT i)
  | .isN a, s => tb (evT a s) fun x s => upS (isNK x s.st) s
  | .not a, s => tb (evT a s) fun x s => upS (notK x s.st) s
  | .and es, s => evAndT es s
  | .or es, s => evOrT es s
  | .ite t a b, s => iteT (evT t s) (evT a) (evT b)
  | .idx a b, s => match a with
    | .v i => gdT Slot.any i (fun s => tb (evT b s) (idxNT i)) s
    | a => tb (evT a s) fun x s => tb (evT b s) (idxT x)
  | .gidx kvs b, s => tb (evT b s) fun y s => upS (lookK kvs y s.st) s
  | .upto a b, s => tb (evT a s) fun x s => tb (evT b s) fun y s => valT (uptoV x y) s
  | .from a b, s => tb (evT a s) fun x s => tb (evT b s) fun y s => valT (fromV x y) s
  | .rev a, s => tb (evT a s) fun x s => okK (revV x) s
  | .call f es, s => tb (evsT es s) (callT f)
  | .take i e, s => gdT Slot.isL i (fun s => tb (evT e s) (takeT i)) s
  | .len a, s => match a with
    | .v i => tb (upS (rdp s.st i) s) fun x s => okK (lenV x) s
    | a => tb (evT a s) fun x s => okK (lenV x) s
  | .bif f es, s => tb (evsT es s) fun ds s => valT (bifV f ds) s
  | .dget i k d, s => gdT Slot.isD i (fun s => tb (evT k s) fun x s => tb (evT d s) (dgetT i x)) s
  | .dpop i k d, s => gdT Slot.isD i (fun s => tb (evT k s) fun x s => tb (evT d s) (dpopT i x)) s
  | .pop i, s => popT i s
  | .comp init tgt sk es conds elt, s => tb (srcFT (evsT es) sk s) fun ds => compT fun d st K => compK init (compF (evAll K conds) (ev K elt)) tgt ds st = some (d, st)
  | .comp2 init tgt sk es tgt2 e2 elt, s => tb (srcFT (evsT es) sk s) fun ds => compT fun d st K => comp2K init (comp2F (ev K e2) (ev K elt) tgt2) tgt ds st = some (d, st)
  | .sdc init tgt e cond key, s => tb (evT e s) fun x => compT fun d st K => sdcK init (sdcF (ev K cond) (ev K key)) tgt x st = some (d, st)
noncomputable def evsT : List CE → TS → TAns (List PyData)
  | [], s => some ([], s)
  | e :: r, s => tb (evT e s) fun x s => tb (evsT r s) (consTK x)
noncomputable def evAndT : List CE → TS → TAns PyData
  | [], s => some (.bool true, s)
  | e :: r, s => iteT (evT e s) (evAndT r) fun s => some (.bool false, s)
noncomputable def evOrT : List CE → TS → TAns PyData
  | [], s => some (.bool false, s)
  | e :: r, s => iteT (evT e s) (fun s => some (.bool true, s)) (evOrT r)
end
noncomputable def evSrcT (sk : SK) (es : List CE) (s : TS) : TAns (List PyData) := srcFT (evsT es) sk s
noncomputable def seqT (o : TAns (Option PyData)) (f : TS → TAns (Option PyData)) : TAns (Option PyData) := match o with
  | some (none, s) => f s
  | some (some d, s) => some (some d, s)
  | none => none
noncomputable def evRHT : RH → TS → TAns Slot
  | .e c, s => tb (evT c s) fun d s => some (.d d, s)
  | .l es, s => tb (evsT es s) fun ds s => some (.ol ds, s)
  | .d, s => some (.od [], s)
  | .ds ks vs, s => tb (evsT vs s) fun ds s => some (.os (ks.zip ds), s)
noncomputable def evRHsT : List RH → TS → TAns (List Slot)
  | [], s => some ([], s)
  | r :: t, s => tb (evRHT r s) fun a s => tb (evRHsT t s) fun l s => some (a :: l, s)
noncomputable def doneT (o : Option St) (s : TS) : TAns (Option PyData) := match o with
  | some st => some (none, s.to st)
  | none => none
noncomputable def setT (i : Nat) (v k : PyData) (s : TS) : TAns (Option PyData) := match s.st.at i with
  | .ol xs => (match k with
    | .int j => (match s.tr with
      | .sk :: tr => some (none, ⟨s.st.put i (.ol (xs.set j.toNat v)), tr, (fun _ => 0 ≤ j ∧ j < xs.length) :: s.ob⟩)
      | _ => none)
    | _ => none)
  | .od kvs => some (none, ⟨s.st.put i (.od (putD kvs k v)), s.tr, (fun _ => (keyOk k && lenOk kvs) = true) :: s.ob⟩)
  | _ => none
noncomputable def augT (i : Nat) (x y : PyData) (s : TS) : TAns (Option PyData) := match x, y with
  | .int a, .int b => some (none, s.to (s.st.put i (.d (.int (a + b)))))
  | _, _ => none
noncomputable def appT (i : Nat) (y : PyData) (s : TS) : TAns (Option PyData) := match s.st.at i with
  | .ol xs => some (none, ⟨s.st.put i (.ol (xs ++ [y])), s.tr, (fun _ => lenOk (xs ++ [y]) = true) :: s.ob⟩)
  | _ => none
noncomputable def extT (i : Nat) (y : PyData) (s : TS) : TAns (Option PyData) := match y with
  | .list ys => (match s.st.at i with
    | .ol xs => some (none, ⟨s.st.put i (.ol (xs ++ ys)), s.tr, (fun _ => lenOk (xs ++ ys) = true) :: s.ob⟩)
    | _ => none)
  | _ => none
noncomputable def whlT (t : CE) (b : List CS) (s : TS) : TAns (Option PyData) := match s.tr with
  | .w o st' :: tr => some (o, ⟨st', tr, (fun K => ∃ n, whileN (ev K t) (execs K b) n s.st = some (o, st')) :: s.ob⟩)
  | _ => none
noncomputable def forT (b : List CS) (tgt : Tgt) (ds : List PyData) (s : TS) : TAns (Option PyData) := match s.tr with
  | .f o st' :: tr => some (o, ⟨st', tr, (fun K => forL (execs K b) tgt ds s.st = some (o, st')) :: s.ob⟩)
  | _ => none
mutual
noncomputable def execT : CS → TS → TAns (Option PyData)
  | .asg i r, s => tb (evRHT r s) fun sl s => some (none, s.to (s.st.put i sl))
  | .asgC i c, s => tb (evT c s) fun x s => upS (ownK i x s.st) s
  | .asgT is rs, s => tb (evRHsT rs s) fun ss s => doneT (putBack is ss s.st) s
  | .asgU is e, s => tb (evT e s) fun x s => upS (unpK is x s.st) s
  | .setv i k e, s => tb (evT e s) fun v s => tb (gdT Slot.any i (evT k) s) (setT i v)
  | .aug i op e, s => tb (upS (rdd i s.st) s) fun x s => tb (evT e s) fun y s => (match op with
    | .Add => augT i x y s
    | _ => none)
  | .app i e, s => gdT Slot.isL i (fun s => tb (evT e s) (appT i)) s
  | .ext i e, s => gdT Slot.isL i (fun s => tb (evT e s) (extT i)) s
  | .cond t a b, s => iteT (evT t s) (execsT a) (execsT b)
  | .whl t b, s => whlT t b s
  | .loop tgt sk es b, s => tb (evSrcT sk es s) (forT b tgt)
  | .ret e, s => tb (evT e s) fun d s => some (some d, s)
  | .raise, _ => none
noncomputable def execsT : List CS → TS → TAns (Option PyData)
  | [], s => some (none, s)
  | c :: r, s => seqT (execT c s) (execsT r)
end
noncomputable def Sd (K : Or) (s : TS) {α : Type} (m : TAns α) (r : Ans α) : Prop := ∀ a s', m = some (a, s') → All K s'.ob → All K s.ob ∧ r = some (a, s'.st)
section
variable {K : Or} {s : TS} {α β γ : Type}
theorem bd2_eq (o : Ans α) (g : St → Ans β) (f : α → β → St → Ans γ) : bd2 o g f = bd o fun a st => bd (g st) (f a) := by cases o <;> rfl
set_option tactic.hygienic true in
theorem sd_tb {m : TAns α} {r : Ans α} {f : α → TS → TAns β} {g : α → St → Ans β} (h : Sd K s m r) (k : ∀ a s', Sd K s' (f a s') (g a s'.st)) : Sd K s (tb m f) (bd r g) := by
  intro b s2 e A
  unfold tb at e
  split at e
  · rename_i a s1
    refine and2 (k a s1 b s2 e A) fun A1 e1 => ?_
    refine and2 (h a s1 rfl A1) fun A0 e0 => ?_
    exact ⟨A0, by rw [e0]; exact e1⟩
  · exact noS e
theorem sd_tb2 {m : TAns α} {r : Ans α} {m2 : TS → TAns β} {g : St → Ans β} {f : α → β → TS → TAns γ} {f' : α → β → St → Ans γ} (h : Sd K s m r) (h2 : ∀ s', Sd K s' (m2 s') (g s'.st)) (k : ∀ a b s', Sd K s' (f a b s') (f' a b s'.st)) :
    Sd K s (tb m fun a s => tb (m2 s) (f a)) (bd2 r g f') := by
  exact sd_tb h fun a s' => sd_tb (h2 s') (k a)
set_option tactic.hygienic true in
theorem sd_ite {m : TAns PyData} {r : Ans PyData} {g h : TS → TAns β} {g' h' : St → Ans β} (hm : Sd K s m r) (k1 : ∀ s', Sd K s' (g s') (g' s'.st)) (k2 : ∀ s', Sd K s' (h s') (h' s'.st)) : Sd K s (iteT m g h) (iteK r g' h') := by
  intro b s2 e A
  unfold iteT at e
  split at e
  · rename_i s1
    refine and2 (k1 s1 b s2 e A) fun A1 e1 => ?_
    refine and2 (hm _ s1 rfl A1) fun A0 e0 => ?_
    exact ⟨A0, by rw [e0]; exact e1⟩
  · rename_i s1
    refine and2 (k2 s1 b s2 e A) fun A1 e1 => ?_
    refine and2 (hm _ s1 rfl A1) fun A0 e0 => ?_
    exact ⟨A0, by rw [e0]; exact e1⟩
  · exact noS e
set_option tactic.hygienic true in
theorem sd_seq {m : TAns (Option PyData)} {r : Ans (Option PyData)} {g : TS → TAns (Option PyData)} {g' : St → Ans (Option PyData)} (hm : Sd K s m r) (k1 : ∀ s', Sd K s' (g s') (g' s'.st)) : Sd K s (seqT m g) (seqK r g') := by
  intro b s2 e A
  unfold seqT at e
  split at e
  · rename_i s1
    refine and2 (k1 s1 b s2 e A) fun A1 e1 => ?_
    refine and2 (hm _ s1 rfl A1) fun A0 e0 => ?_
    exact ⟨A0, by rw [e0]; exact e1⟩
  · rename_i d s1
    cases e
    obtain ⟨A0, e0⟩ := hm _ s2 rfl A
    exact ⟨A0, by rw [e0]; rfl⟩
  · exact noS e
theorem sd_now (a : α) : Sd K s (some (a, s)) (some (a, s.st)) := by
  intro b s2 e A
  obtain ⟨rfl, rfl⟩ := some2 e
  exact ⟨A, rfl⟩
theorem sd_none {r : Ans α} : Sd K s (none : TAns α) r := by intro b s2 e A; exact noS e
set_option tactic.hygienic true in
theorem sd_ok {o : Option α} {r : Ans α} (h : ∀ a, o = some a → r = some (a, s.st)) : Sd K s (okK o s) r := by
  intro b s2 e A
  unfold okK at e
  split at e
  · rename_i a; obtain ⟨rfl, rfl⟩ := some2 e; exact ⟨A, h _ rfl⟩
  · exact noS e
set_option tactic.hygienic true in
theorem sd_ups {r : Ans α} : Sd K s (upS r s) r := by
  intro b s2 e A
  unfold upS at e
  split at e
  · rename_i a st; obtain ⟨rfl, rfl⟩ := some2 e; exact ⟨A, rfl⟩
  · exact noS e
theorem sd_put (a : α) (st : St) : Sd K s (some (a, s.to st)) (some (a, st)) := by
  intro b s2 e A
  obtain ⟨rfl, rfl⟩ := some2 e
  exact ⟨A, rfl⟩
theorem sd_say {a : α} {st : St} {tr : List TE} {P : Or → Prop} {r : Ans α} (h : P K → r = some (a, st)) : Sd K s (some (a, ⟨st, tr, P :: s.ob⟩)) r := by
  intro b s2 e A
  obtain ⟨rfl, rfl⟩ := some2 e
  exact ⟨A.2, h A.1⟩
theorem sd_say' {a : α} {tr : List TE} {P : Or → Prop} {r : Ans α} (h : P K → r = some (a, s.st)) : Sd K s (some (a, s.say tr P)) r := sd_say h
theorem all_sayAll {ps : List Prop} : ∀ {s : TS}, All K (sayAll s ps).ob → All K s.ob ∧ (∀ P ∈ ps, P) ∧ (sayAll s ps).st = s.st := by
  induction ps with
  | nil => intro s A; exact ⟨A, (fun P h => by cases h), rfl⟩
  | cons P r ih =>
    intro s A
    refine and3 (ih (s := ⟨s.st, s.tr, (fun _ => P) :: s.ob⟩) A) fun A1 h e => ?_
    exact ⟨A1.2, fun Q hQ => by
      rcases List.mem_cons.mp hQ with rfl | hQ
      · exact A1.1
      · exact h Q hQ, e⟩
set_option tactic.hygienic true in
theorem sd_on {a : α} {tr : List TE} {o : Option α} {r : Ans α} (h : ∀ a, o = some a → r = some (a, s.st)) : Sd K s (okK o (s.on tr)) r := by
  intro b s2 e A
  unfold okK at e
  split at e
  · rename_i a; obtain ⟨rfl, rfl⟩ := some2 e; exact ⟨A, h _ rfl⟩
  · exact noS e
theorem sd_gd {p : Slot → Bool} {i : Nat} {f : TS → TAns α} {g : St → Ans α} (h : Sd K s (f s) (g s.st)) : Sd K s (gdT p i f s) (gd p i g s.st) := by
  intro b s2 e A
  unfold gdT at e
  split at e
  · rename_i hp
    refine and2 (h b s2 e A) fun A0 e0 => ?_
    exact ⟨A0, by unfold gd; rw [hp]; exact e0⟩
  · exact noS e
end
section
variable {K : Or} {s : TS}
set_option tactic.hygienic true in
theorem sd_boolT {o : Option Bool} {s' : TS} (h : s'.ob = s.ob) (h2 : s'.st = s.st) : Sd K s (boolT o s') (boolK o s.st) := by
  intro b s2 e A
  unfold boolT at e
  split at e
  · rename_i c; obtain ⟨rfl, rfl⟩ := some2 e; exact ⟨h ▸ A, by rw [h2]; rfl⟩
  · exact noS e
theorem sd_cmp {op : CmpOp} {x y : PyData} : Sd K s (cmpT op x y s) (cmpK op x y s.st) := by
  unfold cmpT
  split
  · exact sd_say' fun h => by unfold cmpK; rw [h]; rfl
  unfold cmpA
  split
  · exact sd_boolT rfl rfl
  · split
    · exact sd_say' fun h => by unfold cmpK; rw [h]; rfl
    · exact sd_say' fun h => by unfold cmpK; rw [h]; rfl
    · exact sd_boolT rfl rfl
    · exact sd_boolT rfl rfl
theorem binI_ok {op : Operator} {a b : Int} {d : PyData} {ps : List Prop} (e : binIT op a b = some (d, ps)) (h : ∀ P ∈ ps, P) : binI op a b = some d := by
  cases op with
  | Add => obtain ⟨rfl, rfl⟩ := some2 e; rfl
  | Sub => obtain ⟨rfl, rfl⟩ := some2 e; rfl
  | Mult => obtain ⟨rfl, rfl⟩ := some2 e; exact if_pos (h _ (.head _))
  | FloorDiv => obtain ⟨rfl, rfl⟩ := some2 e; exact if_pos (h _ (.head _))
  | Mod => obtain ⟨rfl, rfl⟩ := some2 e; exact if_pos (h _ (.head _))
  | Pow => obtain ⟨rfl, rfl⟩ := some2 e; exact if_pos (h _ (.head _))
  | _ => exact noS e
theorem catT_ok {k : List PyData → PyData} {op : Operator} {l : List PyData} {d : PyData} {ps : List Prop} (e : catT k op l = some (d, ps)) (h : ∀ P ∈ ps, P) : catD k op l = some d := by
  cases op with
  | Add => obtain ⟨rfl, rfl⟩ := some2 e; exact if_pos (h _ (.head _))
  | _ => exact noS e
theorem binT_ok {op : Operator} {x y d : PyData} {ps : List Prop} (e : binT op x y = some (d, ps)) (h : ∀ P ∈ ps, P) : binV op x y = some d :=
  two_elim (M := fun _ _ t => binTW op t = some (d, ps) → binW op t = some d) (fun _ _ e => binI_ok e h) (fun _ _ e => catT_ok e h) (fun _ _ e => catT_ok e h) (fun _ _ e => noS e) (fun _ _ e => noS e) x y e
set_option tactic.hygienic true in
theorem sd_bin {op : Operator} {x y : PyData} : Sd K s (binTK op x y s) (binK op x y s.st) := by
  unfold binTK
  split
  · exact sd_say' fun h => by unfold binK; rw [h]; rfl
  intro b s2 e A
  unfold binTA at e
  split at e
  · rename_i d ps hb
    obtain ⟨rfl, rfl⟩ := some2 e
    refine and3 (all_sayAll A) fun A0 hp hs => ?_
    exact ⟨A0, by unfold binK; rw [binT_ok hb hp, hs]; rfl⟩
  · exact noS e
theorem itemV_nat' (xs : List PyData) (k : Nat) : itemV xs (k : Int) = xs[k]? := by
  unfold itemV seqIndex?
  have h1 : ¬ ((k : Int) < 0) := by exact of_decide_eq_true rfl
  simp only [h1, if_false]
  by_cases h : k < xs.length
  · have : (decide ((0 : Int) ≤ (k : Int)) && decide ((k : Int) < (xs.length : Int))) = true := by simp; exact h
    rw [if_pos this]; simp
  · have : ¬ (decide ((0 : Int) ≤ (k : Int)) && decide ((k : Int) < (xs.length : Int))) = true := by simp; exact Nat.not_lt.mp h
    rw [if_neg this]
    rw [List.getElem?_eq_none (by exact Nat.not_lt.mp h)]
set_option tactic.hygienic true in
theorem idxA_ok {x y d : PyData} (h : idxA x y = some d) : idxV x y = some d := by
  unfold idxA at h
  split at h
  · rename_i xs i
    cases i with
    | ofNat n => exact (itemV_nat' xs n).trans h
    | negSucc n => exact noS h
  · rename_i xs i
    cases i with
    | ofNat n => exact (itemV_nat' xs n).trans h
    | negSucc n => exact noS h
  · exact noS h
theorem sd_idx {x y : PyData} : Sd K s (idxT x y s) (idxK x y s.st) := by
  unfold idxT
  split
  · exact sd_say' fun h => by unfold idxK; rw [h]; rfl
  · exact sd_on (a := x) fun a h => by unfold idxK; rw [idxA_ok h]; rfl
  · exact sd_ok fun a h => by unfold idxK; rw [idxA_ok h]; rfl
theorem sd_idxN {i : Nat} {y : PyData} : Sd K s (idxNT i y s) (idxN i y s.st) := by
  unfold idxNT idxN
  cases hs : s.st.at i with
  | d x => exact sd_idx
  | ol xs => exact sd_idx
  | od kvs =>
    dsimp only
    split
    · exact sd_say' fun h => by rw [if_pos h.1, h.2]; rfl
    · exact sd_none
  | os kvs =>
    unfold lookK
    cases y with
    | str k => exact sd_ok fun a h => by dsimp only; rw [h]; rfl
    | _ => exact sd_none
  | un => exact sd_none
theorem sd_val {o : Option PyData} : Sd K s (valT o s) (lift o s.st) := by
  unfold valT
  split
  · exact sd_say' fun h => by rw [h]; rfl
  · exact sd_on (a := .none) fun a h => by rw [h]; rfl
  · exact sd_ok fun a h => by rw [h]; rfl
theorem sd_call {f : FN} {ds : List PyData} : Sd K s (callT f ds s) (callK K f ds s.st) := by
  unfold callT
  split
  · exact sd_say' fun h => by unfold callK; rw [h]; rfl
  · exact sd_none
theorem sd_take {i : Nat} {y : PyData} : Sd K s (takeT i y s) (takeK K i y s.st) := by
  unfold takeT takeK
  split
  · cases hs : s.st.at i with
    | ol xs => exact sd_say fun h => by dsimp only; rw [h]
    | _ => exact sd_none
  · exact sd_none
theorem sd_inv {i : Nat} {x : PyData} : Sd K s (invT i x s) (inK i x s.st) := by
  unfold invT inK
  cases hs : s.st.at i with
  | od kvs =>
    dsimp only
    split
    · exact sd_say' fun h => by rw [if_pos h.1, h.2]
    · exact sd_none
  | d y => exact sd_cmp
  | _ => exact sd_none
theorem sd_dget {i : Nat} {x y : PyData} : Sd K s (dgetT i x y s) (dgetK i x y s.st) := by
  unfold dgetT dgetK
  cases hs : s.st.at i with
  | od kvs =>
    dsimp only
    split
    · exact sd_say' fun h => by rw [if_pos h.1, h.2]
    · exact sd_none
  | _ => exact sd_none
theorem sd_dpop {i : Nat} {x y : PyData} : Sd K s (dpopT i x y s) (dpopK i x y s.st) := by
  unfold dpopT dpopK
  cases hs : s.st.at i with
  | od kvs =>
    dsimp only
    split
    · exact sd_say fun h => by rw [if_pos h.1, h.2.1, h.2.2]
    · exact sd_none
  | _ => exact sd_none
theorem sd_pop {i : Nat} : Sd K s (popT i s) (popK i s.st) := by
  unfold popT popK
  cases hs : s.st.at i with
  | ol xs =>
    dsimp only
    split
    · exact sd_say fun h => by rw [h.1]; dsimp only; rw [h.2]
    · exact sd_none
  | _ => exact sd_none
theorem sd_comp {P : PyData → St → Or → Prop} {r : Ans PyData} (h : ∀ d, P d s.st K → r = some (d, s.st)) : Sd K s (compT P s) r := by
  unfold compT
  split
  · exact sd_say' fun q => h _ q
  · exact sd_none
theorem srcT_ok {sk : SK} {ds l : List PyData} {ps : List Prop} (e : srcT sk ds = some (l, ps)) (h : ∀ P ∈ ps, P) : srcV sk ds = some l := by
  cases sk with
  | it => exact mapE e fun a e1 e2 => (Prod.mk.inj e2).1 ▸ e1
  | enum => exact mapE e fun a e1 e2 => (Prod.mk.inj e2).1 ▸ e1
  | range1 =>
    refine e12 (oneL_some e) fun a eq1 e => ?_; subst eq1
    cases a with
    | int b => obtain ⟨rfl, rfl⟩ := some2 e; exact if_pos (h _ (.head _))
    | _ => exact noS e
  | range2 =>
    refine e22 (twoL_some e) fun a b eq1 e => ?_; subst eq1
    exact two_elim (M := fun _ _ t => rngT2 t = some (l, ps) → rng2 t = some l) (fun a b e => by obtain ⟨rfl, rfl⟩ := some2 e; exact if_pos (h _ (.head _))) (fun _ _ h => noS h) (fun _ _ h => noS h) (fun _ _ h => noS h) (fun _ _ h => noS h) a b e
  | _ => exact noS e
set_option tactic.hygienic true in
theorem sd_srcK {sk : SK} {ds : List PyData} : Sd K s (srcTK sk ds s) (srcK sk ds s.st) := by
  intro b s2 e A
  unfold srcTK at e
  split at e
  · rename_i l ps hb
    obtain ⟨rfl, rfl⟩ := some2 e
    refine and3 (all_sayAll A) fun A0 hp hs => ?_
    exact ⟨A0, by unfold srcK; rw [srcT_ok hb hp, hs]; rfl⟩
  · exact noS e
theorem sd_src {f : TS → TAns (List PyData)} {g : St → Ans (List PyData)} {sk : SK} (h : Sd K s (f s) (g s.st)) : Sd K s (srcFT f sk s) (srcF g sk s.st) := by
  cases sk with
  | items i => exact sd_ups
  | it => exact sd_tb h fun a s' => sd_srcK
  | enum => exact sd_tb h fun a s' => sd_srcK
  | range1 => exact sd_tb h fun a s' => sd_srcK
  | range2 => exact sd_tb h fun a s' => sd_srcK
end
section
variable (K : Or)
set_option tactic.hygienic true in
mutual
theorem ev_ok : ∀ (e : CE) (s : TS), Sd K s (evT e s) (ev K e s.st)
  | .k d, s => by exact sd_now _
  | .v i, s => by exact sd_ups
  | .tup es, s => by exact sd_tb (evs_ok es s) fun a s' => sd_now _
  | .lst es, s => by exact sd_tb (evs_ok es s) fun a s' => sd_now _
  | .bin op a b, s => by exact sd_tb2 (ev_ok a s) (ev_ok b) fun x y s' => sd_bin
  | .neg a, s => by exact sd_tb (ev_ok a s) fun a s' => sd_ups
  | .cmp op a b, s => by exact sd_tb2 (ev_ok a s) (ev_ok b) fun x y s' => sd_cmp
  | .inv a i, s => by exact sd_tb (ev_ok a s) fun a s' => sd_inv
  | .isN a, s => by exact sd_tb (ev_ok a s) fun a s' => sd_ups
  | .not a, s => by exact sd_tb (ev_ok a s) fun a s' => sd_ups
  | .and es, s => by exact evAnd_ok es s
  | .or es, s => by exact evOr_ok es s
  | .ite t a b, s => by exact sd_ite (ev_ok t s) (ev_ok a) (ev_ok b)
  | .idx a b, s => by
    have ha := fun s => ev_ok a s
    have hb := fun s => ev_ok b s
    cases a
    case v i => exact sd_gd (sd_tb (hb s) fun y s' => sd_idxN)
    all_goals (conv => rhs
               exact sd_tb2 (ha s) hb fun x y s' => sd_idx)
  | .gidx kvs b, s => by exact sd_tb (ev_ok b s) fun a s' => sd_ups
  | .upto a b, s => by exact sd_tb2 (ev_ok a s) (ev_ok b) fun x y s' => sd_val
  | .from a b, s => by exact sd_tb2 (ev_ok a s) (ev_ok b) fun x y s' => sd_val
  | .rev a, s => by exact sd_tb (ev_ok a s) fun a s' => sd_ok fun d h => by unfold revK; rw [h]; rfl
  | .call f es, s => by exact sd_tb (evs_ok es s) fun a s' => sd_call
  | .take i e, s => by exact sd_gd (sd_tb (ev_ok e s) fun a s' => sd_take)
  | .len a, s => by
    have ha := fun s => ev_ok a s
    cases a
    case v i => exact sd_tb sd_ups fun x s' => sd_ok fun d h => by unfold lenK; rw [h]; rfl
    all_goals (conv => rhs
               exact sd_tb (ha s) fun x s' => sd_ok fun d h => by unfold lenK; rw [h]; rfl)
  | .bif f es, s => by exact sd_tb (evs_ok es s) fun a s' => sd_val
  | .dget i k d, s => by exact sd_gd (sd_tb2 (ev_ok k s) (ev_ok d) fun x y s' => sd_dget)
  | .dpop i k d, s => by exact sd_gd (sd_tb2 (ev_ok k s) (ev_ok d) fun x y s' => sd_dpop)
  | .pop i, s => by exact sd_pop
  | .comp init tgt sk es conds elt, s => by exact sd_tb (sd_src (evs_ok es s)) fun a s' => sd_comp fun d h => h
  | .comp2 init tgt sk es tgt2 e2 elt, s => by exact sd_tb (sd_src (evs_ok es s)) fun a s' => sd_comp fun d h => h
  | .sdc init tgt e cond key, s => by exact sd_tb (ev_ok e s) fun a s' => sd_comp fun d h => h
theorem evs_ok : ∀ (es : List CE) (s : TS), Sd K s (evsT es s) (evs K es s.st)
  | [], s => by exact sd_now _
  | e :: r, s => by exact sd_tb2 (ev_ok e s) (evs_ok r) fun x y s' => sd_now _
theorem evAnd_ok : ∀ (es : List CE) (s : TS), Sd K s (evAndT es s) (evAnd K es s.st)
  | [], s => by exact sd_now _
  | e :: r, s => by exact sd_ite (ev_ok e s) (evAnd_ok r) fun s' => sd_now _
theorem evOr_ok : ∀ (es : List CE) (s : TS), Sd K s (evOrT es s) (evOr K es s.st)
  | [], s => by exact sd_now _
  | e :: r, s => by exact sd_ite (ev_ok e s) (fun s' => sd_now _) (evOr_ok r)
end
theorem evRH_ok (r : RH) (s : TS) : Sd K s (evRHT r s) (evRH K r s.st) := by
  cases r with
  | e c => exact sd_tb (ev_ok K c s) fun a s' => sd_now _
  | l es => exact sd_tb (evs_ok K es s) fun a s' => sd_now _
  | d => exact sd_now _
  | ds ks vs => exact sd_tb (evs_ok K vs s) fun a s' => sd_now _
theorem evRHs_ok : ∀ (rs : List RH) (s : TS), Sd K s (evRHsT rs s) (evRHs K rs s.st)
  | [], s => by exact sd_now _
  | r :: t, s => by exact sd_tb2 (evRH_ok K r s) (evRHs_ok t) fun x y s' => sd_now _
theorem sd_done {s : TS} {o : Option St} : Sd K s (doneT o s) (doneK o) := by
  unfold doneT doneK
  split
  · exact sd_put _ _
  · exact sd_none
theorem sd_set {s : TS} {i : Nat} {v k : PyData} : Sd K s (setT i v k s) (setK i v k s.st) := by
  unfold setT setK setV
  cases hs : s.st.at i with
  | ol xs =>
    dsimp only
    cases k with
    | int j =>
      dsimp only
      split
      · exact sd_say fun h => by rw [if_pos h]; rfl
      · exact sd_none
    | _ => exact sd_none
  | od kvs => exact sd_say fun h => by dsimp only; rw [if_pos h]; rfl
  | _ => exact sd_none
theorem sd_aug {s : TS} {i : Nat} {x y : PyData} : Sd K s (augT i x y s) (augK i .Add x y s.st) := by
  unfold augT augK
  split
  · exact sd_put _ _
  · exact sd_none
theorem sd_app {s : TS} {i : Nat} {y : PyData} : Sd K s (appT i y s) (appK i y s.st) := by
  unfold appT appK
  cases hs : s.st.at i with
  | ol xs => exact sd_say fun h => by dsimp only; rw [if_pos h]
  | _ => exact sd_none
theorem sd_ext {s : TS} {i : Nat} {y : PyData} : Sd K s (extT i y s) (extK i y s.st) := by
  unfold extT extK
  cases y with
  | list ys =>
    dsimp only
    cases hs : s.st.at i with
    | ol xs => exact sd_say fun h => by dsimp only; rw [if_pos h]
    | _ => exact sd_none
  | _ => exact sd_none
theorem sd_whl {t : CE} {b : List CS} {s : TS} : Sd K s (whlT t b s) (whileC (ev K t) (execs K b) s.st) := by
  unfold whlT
  split
  · exact sd_say fun ⟨n, h⟩ => whileC_of h
  · exact sd_none
theorem sd_for {b : List CS} {tgt : Tgt} {a : List PyData} {s : TS} : Sd K s (forT b tgt a s) (forL (execs K b) tgt a s.st) := by
  unfold forT
  split
  · exact sd_say fun h => h
  · exact sd_none
mutual
theorem exec_ok : ∀ (c : CS) (s : TS), Sd K s (execT c s) (exec K c s.st)
  | .asg i r, s => by exact sd_tb (evRH_ok K r s) fun a s' => sd_put _ _
  | .asgC i c, s => by exact sd_tb (ev_ok K c s) fun a s' => sd_ups
  | .asgT is rs, s => by exact sd_tb (evRHs_ok K rs s) fun a s' => sd_done K
  | .asgU is e, s => by exact sd_tb (ev_ok K e s) fun a s' => sd_ups
  | .setv i k e, s => by exact sd_tb2 (m2 := fun s => gdT Slot.any i (evT k) s) (ev_ok K e s) (fun s' => sd_gd (ev_ok K k s')) fun x y s' => sd_set K
  | .aug i op e, s => by
    cases op <;> first
      | exact sd_tb2 (f := fun x y s => augT i x y s) sd_ups (ev_ok K e) fun x y s' => sd_aug K
      | exact sd_tb2 (f := fun x y s => none) sd_ups (ev_ok K e) fun x y s' => sd_none
  | .app i e, s => by exact sd_gd (f := fun s => tb (evT e s) (appT i)) (g := fun st => bd (ev K e st) (appK i)) (sd_tb (ev_ok K e s) fun a s' => sd_app K)
  | .ext i e, s => by exact sd_gd (f := fun s => tb (evT e s) (extT i)) (g := fun st => bd (ev K e st) (extK i)) (sd_tb (ev_ok K e s) fun a s' => sd_ext K)
  | .cond t a b, s => by exact sd_ite (ev_ok K t s) (execs_ok a) (execs_ok b)
  | .whl t b, s => sd_whl K
  | .loop tgt sk es b, s => sd_tb (sd_src (evs_ok K es s)) fun a s' => sd_for K
  | .ret e, s => by exact sd_tb (ev_ok K e s) fun a s' => sd_now _
  | .raise, s => by exact sd_none
theorem execs_ok : ∀ (cs : List CS) (s : TS), Sd K s (execsT cs s) (execs K cs s.st)
  | [], s => by exact sd_now _
  | c :: r, s => by exact sd_seq (exec_ok c s) (execs_ok r)
end
end
noncomputable def Rn (cs : List CS) (st : St) (tr : List TE) : TAns (Option PyData) := execsT cs ⟨st, tr, []⟩
theorem rn_ok {K : Or} {cs : List CS} {st st' : St} {tr tr' : List TE} {o : Option PyData} {ob : List (Or → Prop)} (h : Rn cs st tr = some (o, ⟨st', tr', ob⟩)) (A : All K ob) : execs K cs st = some (o, st') := (execs_ok K cs ⟨st, tr, []⟩ o _ h A).2
theorem en_ok {K : Or} {c : CE} {st st' : St} {tr tr' : List TE} {d : PyData} {ob : List (Or → Prop)} (h : evT c ⟨st, tr, []⟩ = some (d, ⟨st', tr', ob⟩)) (A : All K ob) : ev K c st = some (d, st') := (ev_ok K c ⟨st, tr, []⟩ d _ h A).2
noncomputable def fst0 (fc : FnC) (args : List PyData) : St := args.map .d ++ List.replicate (fc.nl - fc.np) .un
theorem fn_ok {n : Nat} {f : FN} {fc : FnC} {args : List PyData} {tr tr' : List TE} {d : PyData} {st' : St} {ob : List (Or → Prop)} (hf : fcOf f = some fc) (hl : args.length = fc.np) (h : Rn fc.body (fst0 fc args) tr = some (some d, ⟨st', tr', ob⟩)) (A : All (Kn n) ob) : (Kn (n + 1)).call f args = some d := by
  rw [Kn_call, hf]
  show runF (Kn n) fc args = some d
  unfold runF
  rw [if_pos hl]
  have := rn_ok h A
  unfold fst0 at this
  rw [this]
  rfl
noncomputable def Fn.code : Fn → Nat | .sin => 0 | .cos => 1 | .log => 2 | .exp => 3 | .sinh => 4 | .cosh => 5
noncomputable def ieq (a b : Int) : Bool := match a, b with
  | .ofNat m, .ofNat n => Nat.beq m n
  | .negSucc m, .negSucc n => Nat.beq m n
  | _, _ => false
mutual
noncomputable def teq : Tm → Tm → Bool
  | .num p q, .num p' q' => ieq p p' && ieq q q'
  | .x, .x => true
  | .sum a, .sum b => teqs a b
  | .prod a, .prod b => teqs a b
  | .pow a b, .pow c d => teq a c && teq b d
  | .call f a, .call g b => Nat.beq f.code g.code && teq a b
  | _, _ => false
noncomputable def teqs : List Tm → List Tm → Bool
  | [], [] => true
  | a :: r, b :: t => teq a b && teqs r t
  | _, _ => false
end
mutual
noncomputable def dp : Tm → Nat
  | .num _ _ => 1
  | .x => 1
  | .sum ts => dps ts + 2
  | .prod ts => dps ts + 2
  | .pow b e => Nat.max (dp b) (dp e) + 1
  | .call _ a => dp a + 2
noncomputable def dps : List Tm → Nat
  | [] => 0
  | t :: r => Nat.max (dp t) (dps r)
end
mutual
noncomputable def sz : Tm → Nat
  | .num _ _ => 1
  | .x => 1
  | .sum ts => szs ts + 1
  | .prod ts => szs ts + 1
  | .pow b e => sz b + sz e + 1
  | .call _ a => sz a + 1
noncomputable def szs : List Tm → Nat
  | [] => 0
  | t :: r => sz t + szs r
end
noncomputable def kf (t : Tm) : Bool := Nat.ble (dp t) 8
noncomputable def one : Tm := .num 1 1
noncomputable def zero : Tm := .num 0 1
noncomputable def mone : Tm := .num (-1) 1
noncomputable def expOne : Tm := .call .exp one
noncomputable def isOne : Tm → Bool
  | .num p q => ieq p 1 && ieq q 1
  | _ => false
noncomputable def isZero : Tm → Bool
  | .num p q => ieq p 0 && ieq q 1
  | _ => false
noncomputable def isNum : Tm → Bool
  | .num _ _ => true
  | _ => false
noncomputable def isSum : Tm → Bool
  | .sum _ => true
  | _ => false
noncomputable def isProd : Tm → Bool
  | .prod _ => true
  | _ => false
abbrev Q := Int × Int
noncomputable def q01 : Q := (0, 1)
noncomputable def q11 : Q := (1, 1)
noncomputable def sml (l : List Tm) : Bool := Nat.ble l.length 1000
noncomputable def rat (a b : Int) : Option Q := match b with
  | .ofNat 0 => none
  | .ofNat (n + 1) => if sm b then let g := Nat.gcd a.natAbs (n + 1); some (a.fdiv g, b.fdiv g) else none
  | .negSucc n => if sm b then let g := Nat.gcd a.natAbs (n + 1); some (a.fdiv (0 - g), b.fdiv (0 - g)) else none
noncomputable def radd (a b : Q) : Option Q := match sm a.2 && sm b.2 with
  | true => rat (a.1 * b.2 + b.1 * a.2) (a.2 * b.2)
  | false => none
noncomputable def rmul (a b : Q) : Option Q := match sm a.1 && sm a.2 with
  | true => rat (a.1 * b.1) (a.2 * b.2)
  | false => none
noncomputable def numberAndRest : Tm → Option (Q × Tm)
  | .num p q => some ((p, q), one)
  | .prod ts => match ts with
    | [] => none
    | .num p q :: rest => match rest with
      | [] => none
      | [r] => some ((p, q), r)
      | a :: b :: r => match sml r with
        | true => some ((p, q), .prod (a :: b :: r))
        | false => none
    | _ => some (q11, .prod ts)
  | t => some (q11, t)
noncomputable def prodParts : Tm → List Tm
  | .prod ts => ts
  | t => [t]
noncomputable def withNumber (r : Q) (rest : Tm) : Option Tm := match ieq r.1 0 || isOne rest with
  | true => some (.num r.1 r.2)
  | false => match ieq r.1 1 && ieq r.2 1 with
    | true => some rest
    | false => match sml (prodParts rest) with
      | true => some (.prod (.num r.1 r.2 :: prodParts rest))
      | false => none
noncomputable def flatSum : List Tm → List Tm
  | [] => []
  | t :: r => match t with
    | .sum ts => ts ++ flatSum r
    | t => t :: flatSum r
noncomputable def flatProd : List Tm → List Tm
  | [] => []
  | t :: r => match t with
    | .prod ts => ts ++ flatProd r
    | t => t :: flatProd r
noncomputable def lookC {α : Type} (k : Tm) : List (Tm × α) → Option α
  | [] => none
  | (k', s) :: t => match teq k' k with
    | true => some s
    | false => lookC k t
noncomputable def putC {α : Type} (k : Tm) (v : α) : List (Tm × α) → List (Tm × α)
  | [] => [(k, v)]
  | (k', s) :: t => match teq k' k with
    | true => (k', v) :: t
    | false => (k', s) :: putC k v t
noncomputable def delC {α : Type} (k : Tm) : List (Tm × α) → List (Tm × α)
  | [] => []
  | (k', s) :: t => match teq k' k with
    | true => t
    | false => (k', s) :: delC k t
noncomputable def counts : List Tm → List (Tm × Q) → Option (List (Tm × Q))
  | [], c => some c
  | t :: r, c => (numberAndRest t).bind fun x => (radd ((lookC x.2 c).getD q01) x.1).bind fun s => if kf x.2 then counts r (putC x.2 s c) else none
noncomputable def kept : List (Tm × Q) → Option (List Tm)
  | [] => some []
  | p :: t => if ieq p.2.1 0 then kept t else (withNumber p.2 p.1).bind fun a => (kept t).map (a :: ·)
noncomputable def sgn (a b : Int) : Int := match ieq a b with
  | true => 0
  | false => match decide (a < b) with
    | true => -1
    | false => 1
noncomputable def cmpQ (a b : Q) : Option Int := match sm a.1 && sm b.1 with
  | true => some (sgn (a.1 * b.2) (b.1 * a.2))
  | false => none
noncomputable def rank : Tm → Int
  | .x => 0 | .call _ _ => 1 | .sum _ => 2 | .prod _ => 3 | .num _ _ => 4 | .pow _ _ => 5
noncomputable def Fn.ord : Fn → Int
  | .cos => 0 | .cosh => 1 | .exp => 2 | .log => 3 | .sin => 4 | .sinh => 5
noncomputable def noNums : List Tm → List Tm
  | [] => []
  | t :: r => match isNum t with
    | true => noNums r
    | false => t :: noNums r
noncomputable def bare : Tm → List Tm
  | .prod ts => noNums ts
  | t => [t]
noncomputable def front : Tm → Option Q
  | .prod ts => match ts with
    | [] => none
    | .num p q :: _ => some (p, q)
    | _ => some q11
  | _ => some q11
noncomputable def baseExp : Tm → Tm × Tm
  | .pow b e => (b, e)
  | t => (t, one)
noncomputable def ifz (c : Int) (r : Option Int) : Option Int := match ieq c 0 with
  | true => r
  | false => some c
theorem ifz_some {c d : Int} {r : Option Int} (h : ifz c r = some d) : (ieq c 0 = true ∧ r = some d) ∨ (ieq c 0 = false ∧ c = d) := by
  unfold ifz at h
  cases hz : ieq c 0 with
  | true => rw [hz] at h; exact .inl ⟨rfl, h⟩
  | false => rw [hz] at h; exact .inr ⟨rfl, Option.some.inj h⟩
noncomputable def pairQ (u v : Option Q) : Option Int := u.bind fun u => v.bind fun v => cmpQ u v
mutual
noncomputable def cmpRows : Nat → List Tm → List Tm → Option Int
  | 0, _, _ => none
  | n + 1, as, bs => match as, bs with
    | [], [] => some 0
    | [], _ :: _ => some 1
    | _ :: _, [] => some (-1)
    | a :: r, b :: t => (cmpTerms n a b).bind fun c => ifz c (cmpRows n r t)
noncomputable def cmpFacs : Nat → List Tm → List Tm → Option Int
  | 0, _, _ => none
  | n + 1, as, bs => match as, bs with
    | [], [] => some 0
    | [], _ :: _ => some 1
    | _ :: _, [] => some (-1)
    | a :: r, b :: t => (cmpFactors n a b).bind fun c => ifz c (cmpFacs n r t)
noncomputable def cmpExps : Nat → Tm → Tm → Option Int
  | 0, _, _ => none
  | n + 1, a, b => match a, b with
    | .num p q, .num p' q' => cmpQ (p', q') (p, q)
    | a, b => match isNum a with
      | true => some 1
      | false => match isNum b with
        | true => some (-1)
        | false => cmpTerms n a b
noncomputable def cmpBases : Nat → Tm → Tm → Option Int
  | 0, _, _ => none
  | n + 1, a, b => match a, b with
    | .num p q, .num p' q' => cmpQ (p, q) (p', q')
    | .x, .x => some 0
    | .call f a, .call g b => ifz (sgn f.ord g.ord) (cmpRows n [a] [b])
    | .sum a, .sum b => if sml a then cmpRows n a b else none
    | .prod a, .prod b => if sml a then cmpRows n a b else none
    | .pow a b, .pow c d => cmpRows n [a, b] [c, d]
    | a, b => some (sgn (rank a) (rank b))
noncomputable def cmpFactors : Nat → Tm → Tm → Option Int
  | 0, _, _ => none
  | n + 1, a, b => (cmpBases n (baseExp a).1 (baseExp b).1).bind fun c => ifz c (cmpExps n (baseExp a).2 (baseExp b).2)
noncomputable def cmpTerms : Nat → Tm → Tm → Option Int
  | 0, _, _ => none
  | n + 1, a, b => match a, b with
    | .num p q, .num p' q' => cmpQ (p, q) (p', q')
    | a, b => match isNum a with
      | true => some 1
      | false => match isNum b with
        | true => some (-1)
        | false => if sml (bare a) && sml (bare b) then (cmpFacs n (bare a) (bare b)).bind fun c => ifz c (pairQ (front a) (front b)) else none
end
noncomputable def merge : Nat → List Tm → List Tm → Option (List Tm)
  | 0, _, _ => none
  | n + 1, as, bs => match as, bs with
    | [], [] => some []
    | [], b :: bs => (merge n [] bs).map (b :: ·)
    | a :: as, [] => (merge n as []).map (a :: ·)
    | a :: as, b :: bs => (cmpTerms 60 a b).bind fun c => if decide (c ≤ 0) then (merge n as (b :: bs)).map (a :: ·) else (merge n (a :: as) bs).map (b :: ·)
noncomputable def sortT : Nat → List Tm → Option (List Tm)
  | 0, _ => none
  | n + 1, ts => if Nat.ble 2 ts.length then (sortT n (ts.take (ts.length / 2))).bind fun a => (sortT n (ts.drop (ts.length / 2))).bind fun b => merge 100 a b else some ts
noncomputable def tSum : List Tm → Tm
  | [] => zero
  | [t] => t
  | l => .sum l
noncomputable def tProd : List Tm → Tm
  | [] => one
  | [t] => t
  | l => .prod l
noncomputable def gsumS (c : List (Tm × Q)) (s : List Tm) : Option Tm := match ieq ((lookC one c).getD q01).1 0 with
  | true => some (tSum s)
  | false => some (tSum (s ++ [.num ((lookC one c).getD q01).1 ((lookC one c).getD q01).2]))
noncomputable def gsumK (c : List (Tm × Q)) (found : List Tm) : Option Tm := if found.any isSum then none else (sortT 12 found).bind (gsumS c)
noncomputable def gsumC (c : List (Tm × Q)) : Option Tm := (kept (delC one c)).bind (gsumK c)
noncomputable def gsum (parts : List Tm) : Option Tm := if sml (flatSum parts) then (counts (flatSum parts) []).bind gsumC else none
noncomputable def asPower : Tm → Tm × Tm
  | .pow b e => (b, e)
  | .call f a => match f with
    | .exp => (expOne, a)
    | f => (.call f a, one)
  | t => (t, one)
noncomputable def isWhole : Tm → Bool
  | .num _ q => ieq q 1
  | _ => false
noncomputable def below (t : Tm) : Option Bool := (numberAndRest t).map fun r => decide (r.1.1 < 0)
noncomputable def beginsBelow : Tm → Option Bool
  | .sum ts => ts.head?.bind below
  | t => below t
noncomputable def expoPut (t : Tm) (es : List (Tm × Tm)) : Option (List (Tm × Tm)) := match lookC (asPower t).1 es with
  | none => some (putC (asPower t).1 (asPower t).2 es)
  | some e0 => (gsum [e0, (asPower t).2]).map fun e' => putC (asPower t).1 e' es
noncomputable def expoLoop : List Tm → Q → List (Tm × Tm) → Option (Q × List (Tm × Tm))
  | [], q, es => some (q, es)
  | t :: r, q, es => match t with
    | .num p s => (rmul q (p, s)).bind fun q' => expoLoop r q' es
    | a => if kf (asPower a).1 then (expoPut a es).bind fun es' => expoLoop r q es' else none
noncomputable def makeLoop (pw : Tm → Tm → Option Tm) : List (Tm × Tm) → Q → List Tm → Bool → Option (Q × List Tm × Bool)
  | [], q, f, d => some (q, f, d)
  | be :: t, q, f, d => (pw be.1 be.2).bind fun m => match m with
      | .num p r => (rmul q (p, r)).bind fun q' => makeLoop pw t q' f d
      | m => if kf be.1 then makeLoop pw t q (f ++ [m]) (d && !isProd m && teq (asPower m).1 be.1) else none
noncomputable def isLog : Tm → Bool
  | .call f _ => (match f with
    | .log => true
    | _ => false)
  | _ => false
noncomputable def noLog : Option (Q × Tm) → Bool
  | none => false
  | some x => !isLog x.2
noncomputable def noLogs : List Tm → Bool
  | [] => true
  | t :: r => noLog (numberAndRest t) && noLogs r
noncomputable def sumParts : Tm → List Tm
  | .sum ts => ts
  | t => [t]
noncomputable def isCallOf (g : Fn) : Tm → Bool
  | .call f _ => Nat.beq f.code g.code
  | _ => false
noncomputable def expOf (a : Tm) : Option Tm := if isZero a then some one else if noLogs (sumParts a) && sml (sumParts a) then some (.call .exp a) else none
noncomputable def logIn : Tm → Option Tm
  | .call g b => (match g with
    | .exp => some b
    | g => some (.call .log (.call g b)))
  | a => some (.call .log a)
noncomputable def logOf (a : Tm) : Option Tm := if isZero a then none else if isOne a then some zero else logIn a
noncomputable def sinOf (f : Fn) (z a : Tm) : Option Tm := if isZero a then some z else (beginsBelow a).bind fun b => if b then none else some (.call f a)
noncomputable def callOf (f : Fn) (a : Tm) : Option Tm := match f with
  | .exp => expOf a
  | .log => logOf a
  | .sin => sinOf .sin zero a
  | .cos => sinOf .cos one a
  | .sinh => some (.call .sinh a)
  | .cosh => some (.call .cosh a)
noncomputable def gprodT (q : Q) (s : List Tm) : Option Tm := match ieq q.1 0 with
  | true => some (.num q.1 q.2)
  | false => match s with
    | [] => some (.num q.1 q.2)
    | s => withNumber q (tProd s)
mutual
noncomputable def gprod : Nat → List Tm → Option Tm
  | 0, _ => none
  | n + 1, parts => if sml (flatProd parts) then (expoLoop (flatProd parts) q11 []).bind fun x => if ieq x.1.1 0 then some zero else
      (makeLoop (powerOf n) x.2 x.1 [] true).bind fun y => if y.2.2 then (sortT 12 y.2.1).bind (gprodT y.1) else if sml y.2.1 then gprod n (.num y.1.1 y.1.2 :: y.2.1) else none else none
noncomputable def powerOf : Nat → Tm → Tm → Option Tm
  | 0, _, _ => none
  | n + 1, b, e => if isZero e then (if isZero b then none else some one) else if isOne e then some b else if teq b expOne then callOf .exp e else match b with
    | .num _ _ => none
    | .prod ts => if isWhole e && sml ts then (powAll n ts e).bind fun l => gprod n l else none
    | .pow b' e' => if isWhole e then (gprod n [e', e]).bind fun e2 => powerOf n b' e2 else none
    | .call f a => (match f with
      | .exp => if isWhole e then (gprod n [a, e]).bind fun a2 => callOf .exp a2 else none
      | f => some (.pow (.call f a) e))
    | b => some (.pow b e)
noncomputable def powAll : Nat → List Tm → Tm → Option (List Tm)
  | 0, _, _ => none
  | n + 1, ts, e => match ts with
    | [] => some []
    | t :: r => (powerOf n t e).bind fun a => (powAll n r e).map (a :: ·)
end
mutual
noncomputable def simp : Nat → Tm → Option Tm
  | 0, _ => none
  | n + 1, t => match t with
    | .num p q => (rat p q).map fun r => .num r.1 r.2
    | .x => some .x
    | .pow b e => (simp n b).bind fun b' => (simp n e).bind fun e' => powerOf n b' e'
    | .call f a => (simp n a).bind fun a' => callOf f a'
    | .sum ts => if sml ts then (simps n ts).bind fun l => gsum l else none
    | .prod ts => if sml ts then (simps n ts).bind fun l => gprod n l else none
noncomputable def simps : Nat → List Tm → Option (List Tm)
  | 0, _ => none
  | n + 1, ts => match ts with
    | [] => some []
    | t :: r => (simp n t).bind fun a => (simps n r).map (a :: ·)
end
mutual
noncomputable def hasX : Tm → Bool
  | .num _ _ => false
  | .x => true
  | .sum ts => hasXs ts
  | .prod ts => hasXs ts
  | .pow b e => hasX b || hasX e
  | .call _ a => hasX a
noncomputable def hasXs : List Tm → Bool
  | [] => false
  | t :: r => hasX t || hasXs r
end
noncomputable def callSlope : Fn → Tm → Tm
  | .exp, u => .call .exp u
  | .log, u => .pow u mone
  | .sin, u => .call .cos u
  | .cos, u => .prod [mone, .call .sin u]
  | .sinh, u => .call .cosh u
  | .cosh, u => .call .sinh u
mutual
noncomputable def slope : Nat → Tm → Option Tm
  | 0, _ => none
  | n + 1, t => match hasX t with
    | false => some zero
    | true => match t with
      | .num _ _ => none
      | .x => some one
      | .sum ts => (match slopesX n ts with
        | some l => some (tSum l)
        | none => none)
      | .prod ts => (match prodSlopes n [] ts, Nat.ble ts.length 300 with
        | some l, true => some (tSum l)
        | _, _ => none)
      | .pow b e => (match hasX e with
        | true => none
        | false => match slope n b with
          | none => none
          | some s => some (.prod [e, .pow b (.sum [e, mone]), s]))
      | .call f a => match slope n a with
        | none => none
        | some s => some (.prod [callSlope f a, s])
noncomputable def slopesX : Nat → List Tm → Option (List Tm)
  | 0, _ => none
  | n + 1, ts => match ts with
    | [] => some []
    | t :: r => match hasX t with
      | true => (match slope n t, slopesX n r with
        | some a, some l => some (a :: l)
        | _, _ => none)
      | false => slopesX n r
noncomputable def prodSlopes : Nat → List Tm → List Tm → Option (List Tm)
  | 0, _, _ => none
  | n + 1, pre, ts => match ts with
    | [] => some []
    | t :: r => match slope n t, prodSlopes n (pre ++ [t]) r with
      | some s, some l => (match isZero s with
        | true => some l
        | false => some (tProd (pre ++ (s :: r)) :: l))
      | _, _ => none
end
noncomputable def inner : Tm → List Tm
  | .num _ _ => []
  | .x => []
  | .sum ts => ts
  | .prod ts => ts
  | .pow b e => [b, e]
  | .call _ a => [a]
noncomputable def inners : List Tm → List Tm
  | [] => []
  | t :: r => inner t ++ inners r
noncomputable def numOk : Tm → Bool
  | .num p q => sm p && sm q
  | _ => true
noncomputable def levels : Nat → List Tm → Bool
  | 0, _ => false
  | n + 1, ts => match ts with
    | [] => true
    | ts => Nat.ble ts.length 100 && (ts.all numOk && levels n (inners ts))
noncomputable def dterm (t : Tm) : Option Tm := match simp 60 t with
  | none => none
  | some a => match Nat.ble (sz a) 5000 with
    | false => none
    | true => match slope 60 a with
      | none => none
      | some b => simp 60 b
noncomputable def derive : Nat → Tm → Option Tm
  | 0, t => simp 60 t
  | n + 1, t => match derive n t with
    | none => none
    | some f => match dterm f with
      | none => none
      | some l => match teq l f, levels 60 [l] && Nat.ble (dp l) 64 with
        | false, true => some l
        | _, _ => none
noncomputable def under (v : Nat) : Nat := v ^ 249 % 251
noncomputable def Fn.atV (f : Fn) (v : Nat) : Nat := match f with
  | .sin => 2 * v % 251
  | .cos => (1 + v * v) % 251
  | .log => (v + 250) % 251
  | .exp => (1 + 3 * v) % 251
  | .sinh => (7 * v + 2) % 251
  | .cosh => (v * v + 5) % 251
noncomputable def smN (v : Nat) : Bool := Nat.blt v 1000000
noncomputable def ipow (v : Nat) (m : Int) : Option Nat := match m with
  | .ofNat k => (match k with
    | 0 => some (under v ^ 0 % 251)
    | k + 1 => if Nat.ble k 1000 then some (v ^ (k + 1) % 251) else none)
  | .negSucc k => if Nat.ble k 1000 then some (under v ^ (k + 1) % 251) else none
noncomputable def expV (v : Nat) : Tm → Option Nat
  | .num m _ => ipow v m
  | _ => none
noncomputable def numV (p q : Int) : Option Nat := match q with
  | .ofNat k => if smN k then some ((p * (under k : Nat)).fmod 251).toNat else none
  | .negSucc _ => none
mutual
noncomputable def value (x : Nat) : Tm → Option Nat
  | .num p q => numV p q
  | .x => some x
  | .call f a => (value x a).bind fun v => if smN v then some (f.atV v) else none
  | .pow b e => (value x b).bind fun v => if smN v then expV v e else none
  | .sum ts => sumVL x ts 0
  | .prod ts => prodV x ts 1
noncomputable def sumVL (x : Nat) : List Tm → Nat → Option Nat
  | [], f => some f
  | t :: r, f => (value x t).bind fun v => sumVL x r ((f + v) % 251)
noncomputable def prodV (x : Nat) : List Tm → Nat → Option Nat
  | [], f => some f
  | t :: r, f => (value x t).bind fun v => if smN v then prodV x r (f * v % 251) else none
end
inductive Nm where
  | sin | cos | log | byl | exp | sinh
noncomputable def Nm.str : Nm → Str
  | .sin => "sin" | .cos => "cos" | .log => "log" | .byl => "by" | .exp => "exp" | .sinh => "sinh"
noncomputable def factorT (k : Nm) (a : Int) : Tm := match k with
  | .sin => .call .sin (.prod [.num a 1, .x])
  | .cos => .call .cos (.prod [.num a 1, .x])
  | .log => .call .log (.sum [.x, .num a 1])
  | .byl => .pow (.sum [.x, .num a 1]) (.num (-1) 1)
  | .exp => .call .exp (.prod [.num a 1, .x])
  | .sinh => .call .sinh (.prod [.num a 1, .x])
noncomputable def byT (w : Int) : Nat → Int → Nat → List Int
  | 0, _, _ => []
  | j + 1, last, i => (0 - ((i + 1 : Nat) : Int) * last * w) :: byT w j (0 - ((i + 1 : Nat) : Int) * last * w) (i + 1)
noncomputable def row (k : Nm) (i : Nat) : Fn × Int := match k with
  | .sin => (match i % 4 with
    | 0 => (.sin, 1)
    | 1 => (.cos, 1)
    | 2 => (.sin, -1)
    | _ => (.cos, -1))
  | .cos => (match i % 4 with
    | 0 => (.cos, 1)
    | 1 => (.sin, -1)
    | 2 => (.cos, -1)
    | _ => (.sin, 1))
  | .sinh => (match i % 2 with
    | 0 => (.sinh, 1)
    | _ => (.cosh, 1))
  | _ => (.exp, 1)
noncomputable def slT (k : Nm) (a x : Nat) : Nat → Nat → List Int
  | 0, _ => []
  | j + 1, i => ((row k i).2 * (a : Int) ^ i * (((row k i).1.atV (a * x) : Nat) : Int)) :: slT k a x j (i + 1)
noncomputable def slopesL (k : Nm) (a x n : Nat) : List Int := match k with
  | .byl => ((under (x + a) : Nat) : Int) :: byT (under (x + a) : Nat) n (under (x + a) : Nat) 0
  | .log => ((Fn.log.atV (x + a) : Nat) : Int) :: (((under (x + a) : Nat) : Int) :: byT (under (x + a) : Nat) n (under (x + a) : Nat) 0).take n
  | k => slT k a x (n + 1) 0
noncomputable def powE (many : Int) (x i : Nat) : Int := match decide (0 ≤ many - (i : Int)) with
  | true => (x : Int) ^ (many - (i : Int)).toNat
  | false => ((under x : Nat) : Int) ^ (0 - (many - (i : Int))).toNat
noncomputable def powT (many : Int) (x : Nat) : Nat → Nat → Int → Option (List Int)
  | 0, _, _ => some []
  | j + 1, i, num => match sm num && (sm (many - (i : Int)) && decide (many - (i : Int) ≤ 1000) && decide (-1000 ≤ many - (i : Int))) with
    | true => (match powT many x j (i + 1) (num * (many - (i : Int))) with
      | some l => some (num * powE many x i :: l)
      | none => none)
    | false => none
noncomputable def powersL (many : Int) (x n : Nat) : Option (List Int) := powT many x (n + 1) 0 1
noncomputable def dueT (n : Nat) (ones others : List Int) : Nat → Nat → Int → Int → Option Int
  | 0, _, d, _ => some d
  | j + 1, k, d, c => (ones[k]?).bind fun o => (others[n - k]?).bind fun t => match sm c with
    | true => dueT n ones others j (k + 1) (d + c * o * t) ((c * ((n : Int) - (k : Int))).fdiv ((k : Int) + 1))
    | false => none
noncomputable def due (n : Nat) (ones others : List Int) : Option Int := dueT n ones others (n + 1) 0 0 1
noncomputable def nmOf : Nat → Nm
  | 0 => .sin | 1 => .cos | 2 => .log | 3 => .byl | 4 => .exp | _ => .sinh
noncomputable def uT (i b : Nat) : Tm := match i with
  | 0 => factorT .log b
  | 1 => factorT .byl b
  | 2 => factorT .sin b
  | 3 => factorT .cos b
  | 4 => .pow .x (.num 3 1)
  | 5 => .pow .x (.num 2 1)
  | 6 => .pow .x (.num (-1) 1)
  | _ => .x
noncomputable def onesL (i b x n : Nat) : Option (List Int) := match i with
  | 0 => some (slopesL .log b x n)
  | 1 => some (slopesL .byl b x n)
  | 2 => some (slopesL .sin b x n)
  | 3 => some (slopesL .cos b x n)
  | 4 => powersL 3 x n
  | 5 => powersL 2 x n
  | 6 => powersL (-1) x n
  | _ => powersL 1 x n
noncomputable def okAt (i b : Nat) (k : Nm) (a n x : Nat) (told : Tm) : Bool := match onesL i b x n with
  | none => false
  | some ones => match (slopesL k a x n).all sm with
    | false => false
    | true => match due n ones (slopesL k a x n), value x told with
      | some D, some w => ieq (w : Int) (D.fmod 251)
      | _, _ => false
noncomputable def stepD (f : Tm) : Option Tm := match dterm f with
  | none => none
  | some l => match teq l f, levels 60 [l] && Nat.ble (dp l) 64 with
    | false, true => some l
    | _, _ => none
noncomputable def nines : List Nat := [1, 2, 3, 4, 5, 6, 7, 8, 9]
noncomputable def chkGo (ok : Nat → Tm → Bool) : Nat → Nat → Tm → Bool
  | 0, _, _ => true
  | k + 1, j, f => match stepD f with
    | none => false
    | some l => ok (j + 1) l && chkGo ok k (j + 1) l
noncomputable def chain (i b : Nat) (k : Nm) (a N : Nat) : Bool := match simp 60 (.prod [uT i b, factorT k a]) with
  | none => false
  | some f => chkGo (fun n told => nines.all fun x => okAt i b k a n x told) N 0 f
noncomputable def threes : List Nat := [1, 2, 3]
noncomputable def cell (i d : Nat) : Bool := match Nat.blt 3 i with
  | true => threes.all fun a => chain i 1 (nmOf d) a 3
  | false => threes.all fun b => threes.all fun a => chain i b (nmOf d) a 2
theorem run_ok {m : Nat} {f : FN} {fc : FnC} {args : List PyData} {tr tr' : List TE} {d : PyData} {st' : St} {ob : List (Or → Prop)} (hm : 1 ≤ m) (hf : fcOf f = some fc) (hl : args.length = fc.np) (h : Rn fc.body (fst0 fc args) tr = some (some d, ⟨st', tr', ob⟩)) (A : All (Kn (m - 1)) ob) : (Kn m).call f args = some d := by
  cases m with
  | zero => exact (fk (c1 0) [(1, .num 1, .num 0)] rfl (nl hm)).elim
  | succ n => exact fn_ok hf hl h A
theorem ieq_eq (a b : Int) : ieq a b = (a == b) := by
  rw [Bool.eq_iff_iff, beq_iff_eq]
  cases a with
  | ofNat a => cases b with
    | ofNat b => exact ⟨fun h => congrArg Int.ofNat (Nat.eq_of_beq_eq_true h), fun h => by cases h; exact Nat.beq_refl a⟩
    | negSucc b => exact ⟨fun h => (by exact fTr h), fun h => (by cases h)⟩
  | negSucc a => cases b with
    | ofNat b => exact ⟨fun h => (by exact fTr h), fun h => (by cases h)⟩
    | negSucc b => exact ⟨fun h => congrArg Int.negSucc (Nat.eq_of_beq_eq_true h), fun h => by cases h; exact Nat.beq_refl a⟩
theorem ieq_t {a b : Int} : ieq a b = true ↔ a = b := by rw [ieq_eq, beq_iff_eq]
theorem ieq_f {a b : Int} : ieq a b = false ↔ a ≠ b := by rw [ieq_eq, beq_eq_false_iff_ne]
theorem ceq (a b : Int) : cmpV .Eq (.int a) (.int b) = some (ieq a b) := by rw [ieq_eq]; rfl
theorem cne (a b : Int) : cmpV .NotEq (.int a) (.int b) = some (!ieq a b) := by rw [ieq_eq]; rfl
theorem ceq_is {a b : Int} {c : Bool} (h : ieq a b = c) : cmpV .Eq (.int a) (.int b) = some c := by rw [ceq, h]
theorem cne_is {a b : Int} {c : Bool} (h : ieq a b = !c) : cmpV .NotEq (.int a) (.int b) = some c := by rw [cne, h, Bool.not_not]
theorem clt_is {a b : Int} {c : Bool} (h : decide (a < b) = c) : cmpV .Lt (.int a) (.int b) = some c := by rw [← h]; rfl
theorem cle_is {a b : Int} {c : Bool} (h : decide (a ≤ b) = c) : cmpV .LtE (.int a) (.int b) = some c := by rw [← h]; rfl
theorem cgt_is {a b : Int} {c : Bool} (h : decide (b < a) = c) : cmpV .Gt (.int a) (.int b) = some c := by rw [← h]; rfl
theorem cge_is {a b : Int} {c : Bool} (h : decide (b ≤ a) = c) : cmpV .GtE (.int a) (.int b) = some c := by rw [← h]; rfl
theorem sm_lt' {a : Int} : sm a = true ↔ a.natAbs < 4611686018427387904 := by simp [sm, Nat.blt_eq]
theorem lenOk_le' {α : Type} {l : List α} : lenOk l = true ↔ l.length ≤ 1048576 := by exact ⟨Nat.le_of_ble_eq_true, Nat.ble_eq_true_of_le⟩
theorem encs_append (a b : List Tm) : encs (a ++ b) = encs a ++ encs b := by
  induction a with
  | nil => rfl
  | cons t r ih => rw [List.cons_append, encs, encs, ih]; rfl
theorem encs_length (a : List Tm) : (encs a).length = a.length := by
  induction a with
  | nil => rfl
  | cons t r ih => rw [encs, List.length_cons, List.length_cons, ih]
theorem encs_take (n : Nat) (a : List Tm) : (encs a).take n = encs (a.take n) := by
  induction a generalizing n with
  | nil => simp [encs]
  | cons t r ih => cases n with
    | zero => simp [encs]
    | succ n => simp [encs, ih]
theorem encs_drop (n : Nat) (a : List Tm) : (encs a).drop n = encs (a.drop n) := by
  induction a generalizing n with
  | nil => simp [encs]
  | cons t r ih => cases n with
    | zero => simp [encs]
    | succ n => simp [encs, ih]
theorem lenOk_encs {a : List Tm} (h : a.length ≤ 1048576) : lenOk (encs a) = true := lenOk_le'.mpr (by rw [encs_length]; exact h)
theorem sml_le {a : List Tm} (h : sml a = true) : a.length ≤ 1000 := Nat.le_of_ble_eq_true h
mutual
theorem depth_enc : ∀ t : Tm, (enc t).depth = dp t
  | .num p q => by simp [enc, PyData.depth, PyData.depthAll, dp]
  | .x => by simp [enc, PyData.depth, PyData.depthAll, dp]
  | .sum ts => by simp [enc, PyData.depth, PyData.depthAll, dp, depth_encs ts]
  | .prod ts => by simp [enc, PyData.depth, PyData.depthAll, dp, depth_encs ts]
  | .pow b e => by simp [enc, PyData.depth, PyData.depthAll, dp, depth_enc b, depth_enc e]
  | .call f a => by simp [enc, PyData.depth, PyData.depthAll, dp, depth_enc a]
theorem depth_encs : ∀ ts : List Tm, PyData.depthAll (encs ts) = dps ts
  | [] => by simp [encs, PyData.depthAll, dps]
  | t :: r => by simp [encs, PyData.depthAll, dps, depth_enc t, depth_encs r]
end
theorem fn_code (f g : Fn) : (f.str == g.str) = Nat.beq f.code g.code := by cases f <;> cases g <;> decide
mutual
theorem eqv_enc : ∀ a b : Tm, PyData.eqv (enc a) (enc b) = teq a b
  | .num p q, b => by
    cases b with
    | num p' q' =>
      show (PyData.eqv (.int p) (.int p') && (PyData.eqv (.int q) (.int q') && true)) = (ieq p p' && ieq q q')
      rw [ieq_eq, ieq_eq, Bool.and_true]
      rfl
    | _ => rfl
  | .x, b => by cases b <;> rfl
  | .sum ts, b => by
    cases b with
    | sum us => exact (congrArg (· && true) (eqvs_enc ts us)).trans (Bool.and_true _)
    | _ => rfl
  | .prod ts, b => by
    cases b with
    | prod us => exact (congrArg (· && true) (eqvs_enc ts us)).trans (Bool.and_true _)
    | _ => rfl
  | .pow c e, b => by
    cases b with
    | pow c' e' =>
      show (PyData.eqv (enc c) (enc c') && (PyData.eqv (enc e) (enc e') && true)) = (teq c c' && teq e e')
      rw [eqv_enc c c', eqv_enc e e', Bool.and_true]
    | _ => rfl
  | .call f c, b => by
    cases b with
    | call g c' =>
      show ((f.str == g.str) && ((PyData.eqv (enc c) (enc c') && true) && true)) = (Nat.beq f.code g.code && teq c c')
      rw [eqv_enc c c', fn_code, Bool.and_true, Bool.and_true]
    | _ => rfl
theorem eqvs_enc : ∀ a b : List Tm, PyData.eqvAll (encs a) (encs b) = teqs a b
  | [], [] => rfl
  | [], _ :: _ => rfl
  | _ :: _, [] => rfl
  | t :: r, u :: s => by
    show (PyData.eqv (enc t) (enc u) && PyData.eqvAll (encs r) (encs s)) = (teq t u && teqs r s)
    rw [eqv_enc t u, eqvs_enc r s]
end
theorem eq_enc {a b : Tm} {c : Bool} (hd : dp a ≤ 64 ∨ dp b ≤ 64) (h : teq a b = c) : cmpV .Eq (enc a) (enc b) = some c := by
  show eqD _ _ = _
  unfold eqD eqOk
  rw [depth_enc, depth_enc, eqv_enc, h, if_pos]
  exact Nat.ble_eq_true_of_le (by rcases hd with q | q <;> first | exact Nat.le_trans (Nat.min_le_left _ _) q | exact Nat.le_trans (Nat.min_le_right _ _) q)
theorem teq_one (a : Tm) : teq a one = isOne a := by cases a <;> rfl
theorem teq_zero (a : Tm) : teq a zero = isZero a := by cases a <;> rfl
theorem eq_one {a : Tm} {c : Bool} (h : isOne a = c) : cmpV .Eq (enc a) (.tuple [.str "num", .int 1, .int 1]) = some c := eq_enc (b := one) (.inr (by decide)) (by rw [teq_one, h])
theorem eq_zero {a : Tm} {c : Bool} (h : isZero a = c) : cmpV .Eq (enc a) (.tuple [.str "num", .int 0, .int 1]) = some c := eq_enc (b := zero) (.inr (by decide)) (by rw [teq_zero, h])
theorem ne_enc {a b : Tm} {c : Bool} (hd : dp a ≤ 64 ∨ dp b ≤ 64) (h : teq a b = !c) : cmpV .NotEq (enc a) (enc b) = some c := by
  have := eq_enc hd h
  show (eqD _ _).map not = _
  have e : eqD (enc a) (enc b) = some (!c) := this
  rw [e]; simp
theorem ne_zero {a : Tm} {c : Bool} (h : isZero a = !c) : cmpV .NotEq (enc a) (.tuple [.str "num", .int 0, .int 1]) = some c := ne_enc (b := zero) (.inr (by decide)) (by rw [teq_zero, h])
mutual
theorem due_enc : ∀ (t : Tm) (n : Nat), dp t ≤ n → dueHash n (enc t) = true
  | .num p q, n, h => by cases n with
    | zero => simp [dp] at h
    | succ n => simp [enc, dueHash]
  | .x, n, h => by cases n with
    | zero => simp [dp] at h
    | succ n => simp [enc, dueHash]
  | .sum ts, n, h => by
    rw [dp] at h
    match n, h with
    | n + 2, h => simp [enc, dueHash, dues_enc ts n (by exact nle (fk (c2 (dps ts) n) [(1, .add (.var 0) (.num 2), .add (.var 1) (.num 2)), (1, .add (.var 1) (.num 1), .var 0)] rfl (nl h)))]
  | .prod ts, n, h => by
    rw [dp] at h
    match n, h with
    | n + 2, h => simp [enc, dueHash, dues_enc ts n (by exact nle (fk (c2 (dps ts) n) [(1, .add (.var 0) (.num 2), .add (.var 1) (.num 2)), (1, .add (.var 1) (.num 1), .var 0)] rfl (nl h)))]
  | .pow b e, n, h => by
    match n, h with
    | n + 1, h =>
      have h1 : dp b ≤ n := Nat.le_trans (Nat.le_max_left (dp b) (dp e)) (Nat.le_of_succ_le_succ h)
      have h2 : dp e ≤ n := Nat.le_trans (Nat.le_max_right (dp b) (dp e)) (Nat.le_of_succ_le_succ h)
      simp [enc, dueHash, due_enc b n h1, due_enc e n h2]
  | .call f a, n, h => by
    rw [dp] at h
    match n, h with
    | n + 2, h => simp [enc, dueHash, due_enc a n (by exact nle (fk (c2 (dp a) n) [(1, .add (.var 0) (.num 2), .add (.var 1) (.num 2)), (1, .add (.var 1) (.num 1), .var 0)] rfl (nl h)))]
theorem dues_enc : ∀ (ts : List Tm) (n : Nat), dps ts ≤ n → (encs ts).all (dueHash n) = true
  | [], n, h => by simp [encs]
  | t :: r, n, h => by
    have h1 : dp t ≤ n := Nat.le_trans (Nat.le_max_left (dp t) (dps r)) h
    have h2 : dps r ≤ n := Nat.le_trans (Nat.le_max_right (dp t) (dps r)) h
    rw [encs, List.all_cons, due_enc t n h1, dues_enc r n h2]; rfl
end
theorem key_enc {t : Tm} (h : kf t = true) : keyOk (enc t) = true := by
  have := due_enc t 8 (Nat.le_of_ble_eq_true h)
  cases t <;> exact this
noncomputable def encC {α : Type} (g : α → PyData) (c : List (Tm × α)) : List (PyData × PyData) := c.map fun p => (enc p.1, g p.2)
section
variable {α : Type} (g : α → PyData)
theorem look_enc (k : Tm) : ∀ c : List (Tm × α), lookD (encC g c) (enc k) = (lookC k c).map g
  | [] => rfl
  | (k', s) :: t => by
    show (if PyData.eqv (enc k') (enc k) = true then some (g s) else lookD (encC g t) (enc k)) = _
    rw [eqv_enc, lookC]
    cases teq k' k with
    | true => rfl
    | false => exact look_enc k t
theorem put_enc (k : Tm) (v : α) : ∀ c : List (Tm × α), putD (encC g c) (enc k) (g v) = encC g (putC k v c)
  | [] => rfl
  | (k', s) :: t => by
    show (if PyData.eqv (enc k') (enc k) = true then (enc k', g v) :: encC g t else (enc k', g s) :: putD (encC g t) (enc k) (g v)) = _
    rw [eqv_enc, putC]
    cases teq k' k with
    | true => rfl
    | false => rw [put_enc k v t]; rfl
theorem del_enc (k : Tm) : ∀ c : List (Tm × α), delD (encC g c) (enc k) = encC g (delC k c)
  | [] => rfl
  | (k', s) :: t => by
    show (if PyData.eqv (enc k') (enc k) = true then encC g t else (enc k', g s) :: delD (encC g t) (enc k)) = _
    rw [eqv_enc, delC]
    cases teq k' k with
    | true => rfl
    | false => rw [del_enc k t]; rfl
theorem putC_len (k : Tm) (v : α) : ∀ c : List (Tm × α), (putC k v c).length ≤ c.length + 1
  | [] => Nat.le_refl _
  | (k', s) :: t => by
    rw [putC]
    cases teq k' k with
    | true => simp
    | false => have := putC_len k v t; simp; exact this
end
noncomputable def kd : Tm → Str
  | .num _ _ => "num"
  | .x => "sym"
  | .sum _ => "sum"
  | .prod _ => "prod"
  | .pow _ _ => "pow"
  | .call _ _ => "call"
noncomputable def tl (t : Tm) : List PyData := match enc t with
  | .tuple (_ :: r) => r
  | _ => []
theorem enc_kd (t : Tm) : enc t = .tuple (.str (kd t) :: tl t) := by cases t <;> rfl
theorem not_num {t : Tm} (h : isNum t = false) : cmpV .Eq (.str (kd t)) (.str "num") = some false := by
  cases t with
  | num => exact tFa h
  | _ => rfl
theorem prod_is {t : Tm} {b : Bool} (h : isProd t = !b) : cmpV .NotEq (.str (kd t)) (.str "prod") = some b := by
  cases t with
  | prod => obtain rfl : b = false := by cases b <;> first | rfl | cases h
            rfl
  | _ => obtain rfl : b = true := by cases b <;> first | rfl | cases h
         rfl
theorem not_sum {t : Tm} (h : isSum t = false) : cmpV .Eq (.str (kd t)) (.str "sum") = some false := by
  cases t with
  | sum => exact tFa h
  | _ => rfl
theorem while_stop {t : St → Ans PyData} {b : St → Ans (Option PyData)} {st st' : St} (h : t st = some (.bool false, st')) : whileN t b 1 st = some (none, st') := by
  rw [whileN, h]
theorem while_step {t : St → Ans PyData} {b : St → Ans (Option PyData)} {st st1 st2 : St} {n : Nat} {r : Option PyData × St} (h : t st = some (.bool true, st1)) (h2 : b st1 = some (none, st2)) (h3 : whileN t b n st2 = some r) : whileN t b (n + 1) st = some r := by
  rw [whileN, h]
  dsimp only
  rw [h2]
  exact h3
theorem for_nil {f : St → Ans (Option PyData)} {tgt : Tgt} {st : St} : forL f tgt [] st = some (none, st) := rfl
theorem for_step {f : St → Ans (Option PyData)} {tgt : Tgt} {d : PyData} {r : List PyData} {st st1 st2 : St} {o : Option PyData × St} (h : bindT tgt d st = some st1) (h2 : f st1 = some (none, st2)) (h3 : forL f tgt r st2 = some o) : forL f tgt (d :: r) st = some o := by
  rw [forL]
  unfold step
  rw [h]
  dsimp only
  rw [h2]
  exact h3
theorem for_ret {f : St → Ans (Option PyData)} {tgt : Tgt} {d v : PyData} {r : List PyData} {st st1 st2 : St} (h : bindT tgt d st = some st1) (h2 : f st1 = some (some v, st2)) : forL f tgt (d :: r) st = some (some v, st2) := by
  rw [forL]
  unfold step
  rw [h]
  dsimp only
  rw [h2]
  rfl
theorem abs_eq (a : Int) : (if a < 0 then -a else a) = ((a.natAbs : Nat) : Int) := by
  by_cases h : a < 0
  · rw [if_pos h, ← Int.natAbs_neg, Int.natAbs_of_nonneg (Int.neg_nonneg_of_nonpos (Int.le_of_lt h))]
  · rw [if_neg h, Int.natAbs_of_nonneg (Int.not_lt.mp h)]
theorem gcd_loop (K : Or) : ∀ b a : Nat, b < 4611686018427387904 → ∃ n, whileN (ev K (.cmp .NotEq (.v 1) (.k (.int 0)))) (execs K [.asgT [0, 1] [(.e (.v 1)), (.e (.bin .Mod (.v 0) (.v 1)))]]) n [.d (.int a), .d (.int b), .un] = some (none, [.d (.int (Nat.gcd a b : Nat)), .d (.int 0), .un]) := by
  intro b
  induction b using Nat.strongRecOn with
  | ind b ih =>
    intro a hb
    by_cases h0 : b = 0
    · subst h0
      refine ⟨1, ?_⟩
      rw [Nat.gcd_zero_right]
      exact while_stop (en_ok (tr := [.b false]) rfl ⟨cne_is (by rfl), trivial⟩)
    · refine e11 (ih (a % b) (Nat.mod_lt _ (by exact Nat.pos_of_ne_zero h0)) b (by have := Nat.mod_lt a (show b > 0 by exact Nat.pos_of_ne_zero h0); exact Nat.lt_trans this hb)) fun n hn => ?_
      refine ⟨n + 1, ?_⟩
      refine while_step (en_ok (tr := [.b true]) rfl ⟨cne_is (ieq_f.mpr (by exact fun g0 => fk (c1 b) [(1, .add (.num 0) (.num 1), .var 0), (1, .var 0, .num 0)] rfl (nt (Nat.pos_of_ne_zero h0)) (Int.le_of_eq g0))), trivial⟩) (rn_ok (tr := []) rfl ⟨⟨by exact fun g0 => fk (c1 b) [(1, .add (.num 0) (.num 1), .var 0), (1, .var 0, .num 0)] rfl (nt (Nat.pos_of_ne_zero h0)) (Int.le_of_eq g0), sm_lt'.mpr (by exact hb)⟩, trivial⟩) ?_
      have e : (a : Int).fmod (b : Int) = ((a % b : Nat) : Int) := by rw [Int.fmod_eq_emod_of_nonneg _ (by exact Int.natCast_nonneg _)]; rfl
      rw [e, Nat.gcd_comm a b, Nat.gcd_rec b a, Nat.gcd_comm]
      exact hn
theorem gcd_ok {m : Nat} {a b : Int} (hm : 1 ≤ m) (hb : sm b = true) : (Kn m).call 41 [.int a, .int b] = some (.int (Nat.gcd a.natAbs b.natAbs : Nat)) := by
  refine run_ok hm (tr := [.w none [.d (.int (Nat.gcd a.natAbs b.natAbs : Nat)), .d (.int 0), .un]]) rfl rfl rfl ⟨?_, trivial⟩
  rw [abs_eq, abs_eq]
  exact gcd_loop _ _ _ (sm_lt'.mp hb)
theorem gcd_sm {a b : Int} (hb : sm b = true) (h0 : b ≠ 0) : Nat.gcd a.natAbs b.natAbs ≠ 0 ∧ Nat.gcd a.natAbs b.natAbs < 4611686018427387904 := by
  have h1 := sm_lt'.mp hb
  have h2 := Nat.gcd_le_right a.natAbs (Int.natAbs_pos.mpr h0)
  have h3 := Nat.gcd_pos_of_pos_right a.natAbs (Int.natAbs_pos.mpr h0)
  exact ⟨fun g0 => fk (c1 (a.natAbs.gcd b.natAbs)) [(1, .add (.num 0) (.num 1), .var 0), (1, .var 0, .num 0)] rfl (nt h3) (ne g0), nlt (fk (c2 b.natAbs (a.natAbs.gcd b.natAbs)) [(1, .add (.var 0) (.num 1), .num 4611686018427387904), (1, .var 1, .var 0), (1, .num 4611686018427387904, .var 1)] rfl (nt h1) (nl h2))⟩
set_option tactic.hygienic true in
theorem rat_ok {m : Nat} {a b : Int} {r : Q} (hm : 2 ≤ m) (h : rat a b = some r) : (Kn m).call 69 [.int a, .int b] = some (encQ r) := by
  unfold rat at h
  split at h
  · exact noS h
  · rename_i n
    refine and2 (if_some h) fun hs h => ?_
    · obtain rfl := Option.some.inj h
      have hs' : sm (((n + 1 : Nat) : Int)) = true := hs
      refine and2 (gcd_sm (a := a) hs' (by exact of_decide_eq_true rfl)) fun g1 g2 => ?_
      show (Kn m).call 69 [.int a, .int ((n + 1 : Nat) : Int)] = _
      refine run_ok (by exact Nat.le_of_lt hm) (tr := [.b false, .b true, .c (.int (Nat.gcd a.natAbs (n + 1) : Nat))]) rfl rfl rfl ⟨⟨?_, ?_⟩, ⟨?_, ?_⟩, gcd_ok (by exact leC hm rfl) hs, cgt_is (by rw [decide_eq_true_iff]; exact ilt (fk (c1 n) [(1, .num 0, .var 0), (1, .add (.var 0) (.num 1), .num 0)] rfl (n0 n))), ceq_is (ieq_f.mpr (by exact of_decide_eq_true rfl)), trivial⟩
      · have : Nat.gcd a.natAbs (n + 1) ≠ 0 := g1
        exact fun g0 => fk (c1 ((a.natAbs.gcd (n + 1) : Nat))) [(1, .add (.num 0) (.num 1), .var 0), (1, .var 0, .num 0)] rfl (nt (Nat.pos_of_ne_zero this)) (Int.le_of_eq g0)
      · exact sm_lt'.mpr g2
      · have : Nat.gcd a.natAbs (n + 1) ≠ 0 := g1
        exact fun g0 => fk (c1 ((a.natAbs.gcd (n + 1) : Nat))) [(1, .add (.num 0) (.num 1), .var 0), (1, .var 0, .num 0)] rfl (nt (Nat.pos_of_ne_zero this)) (Int.le_of_eq g0)
      · exact sm_lt'.mpr g2
  · rename_i n
    refine and2 (if_some h) fun hs h => ?_
    · obtain rfl := Option.some.inj h
      refine and2 (gcd_sm (a := a) hs (by exact of_decide_eq_true rfl)) fun g1 g2 => ?_
      have g1' : Nat.gcd a.natAbs (n + 1) ≠ 0 := g1
      have g2' : Nat.gcd a.natAbs (n + 1) < 4611686018427387904 := g2
      exact run_ok (by exact Nat.le_of_lt hm) (tr := [.b false, .b false, .c (.int (Nat.gcd a.natAbs (n + 1) : Nat))]) rfl rfl rfl ⟨⟨by exact fun g0 => fk (c1 ((a.natAbs.gcd (n + 1) : Nat))) [(1, .add (.num 0) (.num 1), .var 0), (1, .num 0, .sub (.num 0) (.var 0))] rfl (nt (Nat.pos_of_ne_zero g1')) (Int.le_of_eq g0.symm), sm_lt'.mpr (by omega)⟩, ⟨by exact fun g0 => fk (c1 ((a.natAbs.gcd (n + 1) : Nat))) [(1, .add (.num 0) (.num 1), .var 0), (1, .num 0, .sub (.num 0) (.var 0))] rfl (nt (Nat.pos_of_ne_zero g1')) (Int.le_of_eq g0.symm), sm_lt'.mpr (by omega)⟩, gcd_ok (by exact leC hm rfl) hs, cgt_is (by rw [decide_eq_false_iff_not]; exact of_decide_eq_true rfl), ceq_is (ieq_f.mpr (by exact of_decide_eq_true rfl)), trivial⟩
theorem radd_ok {m : Nat} {a b r : Q} (hm : 3 ≤ m) (h : radd a b = some r) : (Kn m).call 76 [encQ a, encQ b] = some (encQ r) := by
  unfold radd at h
  split at h
  · rename_i hs
    rw [Bool.and_eq_true] at hs
    exact run_ok (by exact leA hm rfl) (tr := [.c (encQ r)]) rfl rfl rfl ⟨rat_ok (by exact leC hm rfl) h, by rw [hs.1]; rfl, by rw [hs.1, Bool.or_true], by rw [hs.2, Bool.or_true], trivial⟩
  · exact noS h
theorem rmul_ok {m : Nat} {a b r : Q} (hm : 3 ≤ m) (h : rmul a b = some r) : (Kn m).call 83 [encQ a, encQ b] = some (encQ r) := by
  unfold rmul at h
  split at h
  · rename_i hs
    rw [Bool.and_eq_true] at hs
    exact run_ok (by exact leA hm rfl) (tr := [.c (encQ r)]) rfl rfl rfl ⟨rat_ok (by exact leC hm rfl) h, by rw [hs.2]; rfl, by rw [hs.1]; rfl, trivial⟩
  · exact noS h
theorem sgn_ok {m : Nat} {a b : Int} (hm : 1 ≤ m) : (Kn m).call 216 [.int a, .int b] = some (.int (sgn a b)) := by
  unfold sgn
  cases h : ieq a b with
  | true => exact run_ok hm (tr := [.b true]) rfl rfl rfl ⟨ceq_is h, trivial⟩
  | false =>
    cases h2 : decide (a < b) with
    | true => exact run_ok hm (tr := [.b false, .b true]) rfl rfl rfl ⟨clt_is h2, ceq_is h, trivial⟩
    | false => exact run_ok hm (tr := [.b false, .b false]) rfl rfl rfl ⟨clt_is h2, ceq_is h, trivial⟩
theorem cmpQ_ok {m : Nat} {a b : Q} {c : Int} (hm : 2 ≤ m) (h : cmpQ a b = some c) : (Kn m).call 223 [encQ a, encQ b] = some (.int c) := by
  unfold cmpQ at h
  split at h
  · rename_i hs
    obtain rfl := Option.some.inj h
    rw [Bool.and_eq_true] at hs
    exact run_ok (by exact Nat.le_of_lt hm) (tr := [.c (.int (sgn (a.1 * b.2) (b.1 * a.2)))]) rfl rfl rfl ⟨sgn_ok (by exact leC hm rfl), by rw [hs.2]; rfl, by rw [hs.1]; rfl, trivial⟩
  · exact noS h
theorem is_num_ok {m : Nat} {t : Tm} (hm : 1 ≤ m) : (Kn m).call 163 [enc t] = some (.bool (isNum t)) := by
  match m, hm with
  | n + 1, _ => cases t <;> kernel_rfl
theorem is_num_is {m : Nat} {t : Tm} {b : Bool} (hm : 1 ≤ m) (h : isNum t = b) : (Kn m).call 163 [enc t] = some (.bool b) := by rw [is_num_ok hm, h]
theorem num_of_ok {m : Nat} {p q : Int} (hm : 1 ≤ m) : (Kn m).call 170 [enc (.num p q)] = some (encQ (p, q)) := by
  match m, hm with
  | n + 1, _ => kernel_rfl
theorem number_term_ok {m : Nat} {r : Q} (hm : 1 ≤ m) : (Kn m).call 305 [encQ r] = some (enc (.num r.1 r.2)) := by
  match m, hm with
  | n + 1, _ => kernel_rfl
theorem is_whole_ok {m : Nat} {t : Tm} (hm : 1 ≤ m) : (Kn m).call 177 [enc t] = some (.bool (isWhole t)) := by
  cases t with
  | num p q =>
    have e : isWhole (.num p q) = ieq q 1 := rfl
    rw [e]
    cases h : ieq q 1 with
    | true => exact run_ok hm (tr := [.b true]) rfl rfl rfl ⟨ceq_is h, trivial⟩
    | false => exact run_ok hm (tr := [.b false]) rfl rfl rfl ⟨ceq_is h, trivial⟩
  | _ => match m, hm with
    | n + 1, _ => kernel_rfl
theorem base_exp_ok {m : Nat} {t : Tm} (hm : 1 ≤ m) : (Kn m).call 242 [enc t] = some (.tuple [enc (baseExp t).1, enc (baseExp t).2]) := by
  match m, hm with
  | n + 1, _ => cases t <;> kernel_rfl
theorem one_call_ok {m : Nat} {f g : Fn} {a : Tm} (hm : 1 ≤ m) : (Kn m).call 338 [enc (.call f a), .str g.str] = some (.bool (Nat.beq f.code g.code)) := by
  match m, hm with
  | n + 1, _ => cases f <;> cases g <;> kernel_rfl
theorem as_power_ok {m : Nat} {t : Tm} (hm : 2 ≤ m) : (Kn m).call 345 [enc t] = some (.tuple [enc (asPower t).1, enc (asPower t).2]) := by
  match m, hm with
  | n + 2, _ => 
    cases t with
    | call f a => cases f <;> kernel_rfl
    | _ => kernel_rfl
theorem len2 (a b : Tm) (r : List Tm) : ((encs (a :: b :: r)).length : Int) ≠ 0 ∧ ((encs (a :: b :: r)).length : Int) ≠ 1 := by
  rw [encs_length]
  simp only [List.length_cons]
  exact of_decide_eq_true rfl
theorem t_prod_ok {m : Nat} {l : List Tm} (hm : 1 ≤ m) : (Kn m).call 135 [.list (encs l)] = some (enc (tProd l)) := by
  match l with
  | [] => exact run_ok hm (tr := [.b true]) rfl rfl rfl ⟨ceq_is rfl, trivial⟩
  | [t] => exact run_ok hm (tr := [.b false, .b true]) rfl rfl rfl ⟨ceq_is rfl, ceq_is rfl, trivial⟩
  | a :: b :: r => exact run_ok hm (tr := [.b false, .b false]) rfl rfl rfl ⟨ceq_is (ieq_f.mpr (len2 a b r).2), ceq_is (ieq_f.mpr (len2 a b r).1), trivial⟩
theorem t_sum_ok {m : Nat} {l : List Tm} (hm : 1 ≤ m) : (Kn m).call 128 [.list (encs l)] = some (enc (tSum l)) := by
  match l with
  | [] => exact run_ok hm (tr := [.b true]) rfl rfl rfl ⟨ceq_is rfl, trivial⟩
  | [t] => exact run_ok hm (tr := [.b false, .b true]) rfl rfl rfl ⟨ceq_is rfl, ceq_is rfl, trivial⟩
  | a :: b :: r => exact run_ok hm (tr := [.b false, .b false]) rfl rfl rfl ⟨ceq_is (ieq_f.mpr (len2 a b r).2), ceq_is (ieq_f.mpr (len2 a b r).1), trivial⟩
theorem from1 {a : PyData} {r : List PyData} : fromV (.tuple (a :: r)) (.int 1) = some (.tuple r) := by
  simp only [fromV]
  rw [if_pos (by simp only [List.length_cons]; omega)]
  rfl
theorem nr_ok {m : Nat} {t rest : Tm} {q : Q} (hm : 1 ≤ m) (h : numberAndRest t = some (q, rest)) : (Kn m).call 312 [enc t] = some (.tuple [encQ q, enc rest]) := by
  cases t with
  | num p s => obtain ⟨rfl, rfl⟩ := some2 h; exact run_ok hm (tr := []) rfl rfl rfl trivial
  | x => obtain ⟨rfl, rfl⟩ := some2 h; exact run_ok hm (tr := []) rfl rfl rfl trivial
  | sum ts => obtain ⟨rfl, rfl⟩ := some2 h; exact run_ok hm (tr := []) rfl rfl rfl trivial
  | pow b e => obtain ⟨rfl, rfl⟩ := some2 h; exact run_ok hm (tr := []) rfl rfl rfl trivial
  | call f a => obtain ⟨rfl, rfl⟩ := some2 h; exact run_ok hm (tr := []) rfl rfl rfl trivial
  | prod ts =>
    match ts, h with
    | [], h => exact noS h
    | .num p s :: [], h => exact noS h
    | .num p s :: [r], h => obtain ⟨rfl, rfl⟩ := some2 h; exact run_ok hm (tr := [.b true]) rfl rfl rfl ⟨ceq_is rfl, trivial⟩
    | .num p s :: a :: b :: r, h =>
      rw [numberAndRest] at h
      split at h
      · obtain ⟨rfl, rfl⟩ := some2 h
        refine run_ok hm (tr := [.b false, .vv (.tuple (encs (a :: b :: r)))]) rfl rfl rfl ⟨from1, ceq_is (ieq_f.mpr ?_), trivial⟩
        rw [encs_length]
        simp only [List.length_cons]
        exact of_decide_eq_true rfl
      · exact noS h
    | .x :: r, h => obtain ⟨rfl, rfl⟩ := some2 h; exact run_ok hm (tr := []) rfl rfl rfl trivial
    | .sum us :: r, h => obtain ⟨rfl, rfl⟩ := some2 h; exact run_ok hm (tr := []) rfl rfl rfl trivial
    | .prod us :: r, h => obtain ⟨rfl, rfl⟩ := some2 h; exact run_ok hm (tr := []) rfl rfl rfl trivial
    | .pow b e :: r, h => obtain ⟨rfl, rfl⟩ := some2 h; exact run_ok hm (tr := []) rfl rfl rfl trivial
    | .call f a :: r, h => obtain ⟨rfl, rfl⟩ := some2 h; exact run_ok hm (tr := []) rfl rfl rfl trivial
theorem eq_q11 {r : Q} {c : Bool} (h : (ieq r.1 1 && ieq r.2 1) = c) : cmpV .Eq (encQ r) (.tuple [.int 1, .int 1]) = some c := by
  show eqD _ _ = _
  unfold eqD eqOk
  rw [if_pos (by rfl)]
  congr 1
  rw [← h, ieq_eq, ieq_eq]
  simp [PyData.eqv, PyData.eqvAll]
theorem with_number_ok {m : Nat} {r : Q} {t u : Tm} (hm : 2 ≤ m) (h : withNumber r t = some u) : (Kn m).call 319 [encQ r, enc t] = some (enc u) := by
  unfold withNumber at h
  cases h0 : ieq r.1 0 with
  | true =>
    rw [h0] at h
    obtain rfl := Option.some.inj h
    exact run_ok (by exact Nat.le_of_lt hm) (tr := [.b true, .c (enc (.num r.1 r.2))]) rfl rfl rfl ⟨number_term_ok (by exact leC hm rfl), ceq_is h0, trivial⟩
  | false =>
    cases h1 : isOne t with
    | true =>
      rw [h0, h1] at h
      obtain rfl := Option.some.inj h
      exact run_ok (by exact Nat.le_of_lt hm) (tr := [.b false, .q true, .c (enc (.num r.1 r.2))]) rfl rfl rfl ⟨number_term_ok (by exact leC hm rfl), eq_one h1, ceq_is h0, trivial⟩
    | false =>
      rw [h0, h1] at h
      simp only [Bool.or_false] at h
      cases h2 : (ieq r.1 1 && ieq r.2 1) with
      | true =>
        rw [h2] at h
        obtain rfl := Option.some.inj h
        exact run_ok (by exact Nat.le_of_lt hm) (tr := [.b false, .q false, .b true]) rfl rfl rfl ⟨eq_q11 h2, eq_one h1, ceq_is h0, trivial⟩
      | false =>
        rw [h2] at h
        dsimp only at h
        split at h
        · rename_i hs
          obtain rfl := Option.some.inj h
          have hl := sml_le hs
          have len : ∀ (ts : List Tm), ts.length ≤ 1000 → lenOk ([enc (.num r.1 r.2)] ++ encs ts) = true := fun ts q => lenOk_le'.mpr (by rw [List.length_append, encs_length]; simp only [List.length_cons, List.length_nil]; exact nle (fk (c1 ts.length) [(1, .var 0, .num 1000), (1, .add (.num 1048576) (.num 1), .add (.add (.num 0) (.num 1)) (.var 0))] rfl (nl q)))
          cases t with
          | prod ts => exact run_ok (by exact Nat.le_of_lt hm) (tr := [.b false, .q false, .b false, .c (enc (.num r.1 r.2))]) rfl rfl rfl ⟨len ts hl, number_term_ok (by exact leC hm rfl), eq_q11 h2, eq_one h1, ceq_is h0, trivial⟩
          | num p q => exact run_ok (by exact Nat.le_of_lt hm) (tr := [.b false, .q false, .b false, .c (enc (.num r.1 r.2))]) rfl rfl rfl ⟨len [.num p q] hl, number_term_ok (by exact leC hm rfl), eq_q11 h2, eq_one h1, ceq_is h0, trivial⟩
          | x => exact run_ok (by exact Nat.le_of_lt hm) (tr := [.b false, .q false, .b false, .c (enc (.num r.1 r.2))]) rfl rfl rfl ⟨len [.x] hl, number_term_ok (by exact leC hm rfl), eq_q11 h2, eq_one h1, ceq_is h0, trivial⟩
          | sum ts => exact run_ok (by exact Nat.le_of_lt hm) (tr := [.b false, .q false, .b false, .c (enc (.num r.1 r.2))]) rfl rfl rfl ⟨len [.sum ts] hl, number_term_ok (by exact leC hm rfl), eq_q11 h2, eq_one h1, ceq_is h0, trivial⟩
          | pow b e => exact run_ok (by exact Nat.le_of_lt hm) (tr := [.b false, .q false, .b false, .c (enc (.num r.1 r.2))]) rfl rfl rfl ⟨len [.pow b e] hl, number_term_ok (by exact leC hm rfl), eq_q11 h2, eq_one h1, ceq_is h0, trivial⟩
          | call f a => exact run_ok (by exact Nat.le_of_lt hm) (tr := [.b false, .q false, .b false, .c (enc (.num r.1 r.2))]) rfl rfl rfl ⟨len [.call f a] hl, number_term_ok (by exact leC hm rfl), eq_q11 h2, eq_one h1, ceq_is h0, trivial⟩
        · exact noS h
noncomputable def oneSum : Tm → List Tm
  | .sum ts => ts
  | t => [t]
theorem flatSum_cons (t : Tm) (r : List Tm) : flatSum (t :: r) = oneSum t ++ flatSum r := by cases t <;> rfl
theorem flatProd_cons (t : Tm) (r : List Tm) : flatProd (t :: r) = prodParts t ++ flatProd r := by cases t <;> rfl
noncomputable def b_flat : List CS := [.ext 2 (.ite (.cmp .Eq (.idx (.v 3) (.k (.int 0))) (.v 1)) (.bif .list [(.idx (.v 3) (.k (.int 1)))]) (.lst [(.v 3)]))]
theorem flatS_loop (K : Or) (P : PyData) : ∀ (ts acc : List Tm) (s3 : Slot), acc.length + (flatSum ts).length ≤ 1000000 →
    ∃ s3', forL (execs K b_flat) (.one 3) (encs ts) [.d P, .d (.str "sum"), .ol (encs acc), s3, .un] = some (none, [.d P, .d (.str "sum"), .ol (encs (acc ++ flatSum ts)), s3', .un])
  | [], acc, s3, h => ⟨s3, by rw [encs, for_nil, flatSum, List.append_nil]⟩
  | t :: r, acc, s3, h => by
    rw [flatSum_cons, List.length_append] at h
    refine e11 (flatS_loop K P r (acc ++ oneSum t) (.d (enc t)) (by rw [List.length_append]; exact nle (fk (c3 acc.length ((oneSum t).length) ((flatSum r).length)) [(1, .add (.var 0) (.add (.var 1) (.var 2)), .num 1000000), (1, .add (.num 1000000) (.num 1), .add (.add (.var 0) (.var 1)) (.var 2))] rfl (nl h)))) fun s3' hs => ?_
    refine ⟨s3', ?_⟩
    rw [flatSum_cons, ← List.append_assoc, encs]
    rw [encs_append acc (oneSum t)] at hs
    have len : lenOk (encs acc ++ encs (oneSum t)) = true := by rw [← encs_append]; exact lenOk_encs (by rw [List.length_append]; exact nle (fk (c3 acc.length ((oneSum t).length) ((flatSum r).length)) [(1, .add (.var 0) (.add (.var 1) (.var 2)), .num 1000000), (1, .num 0, .var 2), (1, .add (.num 1048576) (.num 1), .add (.var 0) (.var 1))] rfl (nl h) (n0 ((flatSum r).length))))
    refine for_step (st1 := [.d P, .d (.str "sum"), .ol (encs acc), .d (enc t), .un]) rfl ?_ hs
    cases t with
    | sum us => exact rn_ok (tr := []) rfl ⟨len, trivial⟩
    | num p q => exact rn_ok (tr := []) rfl ⟨len, trivial⟩
    | x => exact rn_ok (tr := []) rfl ⟨len, trivial⟩
    | prod us => exact rn_ok (tr := []) rfl ⟨len, trivial⟩
    | pow b e => exact rn_ok (tr := []) rfl ⟨len, trivial⟩
    | call f a => exact rn_ok (tr := []) rfl ⟨len, trivial⟩
theorem flatP_loop (K : Or) (P : PyData) : ∀ (ts acc : List Tm) (s3 : Slot), acc.length + (flatProd ts).length ≤ 1000000 →
    ∃ s3', forL (execs K b_flat) (.one 3) (encs ts) [.d P, .d (.str "prod"), .ol (encs acc), s3, .un] = some (none, [.d P, .d (.str "prod"), .ol (encs (acc ++ flatProd ts)), s3', .un])
  | [], acc, s3, h => ⟨s3, by rw [encs, for_nil, flatProd, List.append_nil]⟩
  | t :: r, acc, s3, h => by
    rw [flatProd_cons, List.length_append] at h
    refine e11 (flatP_loop K P r (acc ++ prodParts t) (.d (enc t)) (by rw [List.length_append]; exact nle (fk (c3 acc.length ((prodParts t).length) ((flatProd r).length)) [(1, .add (.var 0) (.add (.var 1) (.var 2)), .num 1000000), (1, .add (.num 1000000) (.num 1), .add (.add (.var 0) (.var 1)) (.var 2))] rfl (nl h)))) fun s3' hs => ?_
    refine ⟨s3', ?_⟩
    rw [flatProd_cons, ← List.append_assoc, encs]
    rw [encs_append acc (prodParts t)] at hs
    have len : lenOk (encs acc ++ encs (prodParts t)) = true := by rw [← encs_append]; exact lenOk_encs (by rw [List.length_append]; exact nle (fk (c3 acc.length ((prodParts t).length) ((flatProd r).length)) [(1, .add (.var 0) (.add (.var 1) (.var 2)), .num 1000000), (1, .num 0, .var 2), (1, .add (.num 1048576) (.num 1), .add (.var 0) (.var 1))] rfl (nl h) (n0 ((flatProd r).length))))
    refine for_step (st1 := [.d P, .d (.str "prod"), .ol (encs acc), .d (enc t), .un]) rfl ?_ hs
    cases t with
    | sum us => exact rn_ok (tr := []) rfl ⟨len, trivial⟩
    | num p q => exact rn_ok (tr := []) rfl ⟨len, trivial⟩
    | x => exact rn_ok (tr := []) rfl ⟨len, trivial⟩
    | prod us => exact rn_ok (tr := []) rfl ⟨len, trivial⟩
    | pow b e => exact rn_ok (tr := []) rfl ⟨len, trivial⟩
    | call f a => exact rn_ok (tr := []) rfl ⟨len, trivial⟩
theorem flatS_ok {m : Nat} {ts : List Tm} (hm : 1 ≤ m) (h : sml (flatSum ts) = true) : (Kn m).call 326 [.list (encs ts), .str "sum"] = some (.list (encs (flatSum ts))) := by
  refine e11 (flatS_loop (Kn (m - 1)) (.list (encs ts)) ts [] .un (by have := sml_le h; simp only [List.length_nil]; exact le0 this rfl)) fun s3 hs => ?_
  exact run_ok hm (tr := [.f none [.d (.list (encs ts)), .d (.str "sum"), .ol (encs (flatSum ts)), s3, .un]]) rfl rfl rfl ⟨hs, trivial⟩
theorem flatP_ok {m : Nat} {ts : List Tm} (hm : 1 ≤ m) (h : sml (flatProd ts) = true) : (Kn m).call 326 [.list (encs ts), .str "prod"] = some (.list (encs (flatProd ts))) := by
  refine e11 (flatP_loop (Kn (m - 1)) (.list (encs ts)) ts [] .un (by have := sml_le h; simp only [List.length_nil]; exact le0 this rfl)) fun s3 hs => ?_
  exact run_ok hm (tr := [.f none [.d (.list (encs ts)), .d (.str "prod"), .ol (encs (flatProd ts)), s3, .un]]) rfl rfl rfl ⟨hs, trivial⟩
theorem comp_nil {f : St → Ans (Option PyData)} {tgt : Tgt} {st : St} : compL f tgt [] st = some ([], st) := rfl
theorem comp_some {f : St → Ans (Option PyData)} {tgt : Tgt} {d x : PyData} {r l : List PyData} {st st1 st2 st3 : St} (h : bindT tgt d st = some st1) (h2 : f st1 = some (some x, st2)) (h3 : compL f tgt r st2 = some (l, st3)) : compL f tgt (d :: r) st = some (x :: l, st3) := by
  rw [compL]
  unfold step
  rw [h]
  dsimp only
  rw [h2]
  unfold bd2 bd
  dsimp only
  rw [h3]
  rfl
theorem comp_none {f : St → Ans (Option PyData)} {tgt : Tgt} {d : PyData} {r l : List PyData} {st st1 st2 st3 : St} (h : bindT tgt d st = some st1) (h2 : f st1 = some (none, st2)) (h3 : compL f tgt r st2 = some (l, st3)) : compL f tgt (d :: r) st = some (l, st3) := by
  rw [compL]
  unfold step
  rw [h]
  dsimp only
  rw [h2]
  unfold bd2 bd
  dsimp only
  rw [h3]
  rfl
theorem evAll0 {K : Or} {st : St} : evAll K [] st = some (true, st) := rfl
theorem evAll1 {K : Or} {e : CE} {st st1 : St} {b : Bool} (h : ev K e st = some (.bool b, st1)) : evAll K [e] st = some (b, st1) := by
  rw [evAll, h]
  cases b with
  | true => show evAll K [] st1 = _; rw [evAll]
  | false => rfl
theorem compF_t {cs : St → Ans Bool} {f : St → Ans PyData} {st st1 st2 : St} {d : PyData} (h : cs st = some (true, st1)) (h2 : f st1 = some (d, st2)) : compF cs f st = some (some d, st2) := by
  unfold compF bd
  rw [h]
  show bd (f st1) someK = _
  rw [h2]
  rfl
theorem compF_f {cs : St → Ans Bool} {f : St → Ans PyData} {st st1 : St} (h : cs st = some (false, st1)) : compF cs f st = some (none, st1) := by
  unfold compF bd
  rw [h]
  rfl
theorem compK_ok {init : List (Option Nat)} {F : St → Ans (Option PyData)} {tgt : Tgt} {ds l : List PyData} {st st' : St} (h : compL F tgt ds (initSt init st) = some (l, st')) (hl : lenOk l = true) : compK init F tgt ds st = some (.list l, st) := by
  unfold compK
  rw [h]
  show (if lenOk l = true then _ else _) = _
  rw [if_pos hl]
theorem bare_comp {m : Nat} (hm : 1 ≤ m) : ∀ (ts : List Tm) (s1 : Slot), ∃ s1', compL (compF (evAll (Kn m) [.not (.call 163 [(.v 1)])]) (ev (Kn m) (.v 1))) (.one 1) (encs ts) [.un, s1, .un] = some (encs (noNums ts), [.un, s1', .un])
  | [], s1 => ⟨s1, rfl⟩
  | t :: r, s1 => by
    refine e11 (bare_comp hm r (.d (enc t))) fun s' h => ?_
    refine ⟨s', ?_⟩
    rw [encs, noNums]
    cases ht : isNum t with
    | true => exact comp_none (st1 := [.un, .d (enc t), .un]) rfl (compF_f (evAll1 (en_ok (tr := [.c (.bool true)]) rfl ⟨is_num_is hm ht, trivial⟩))) h
    | false =>
      exact comp_some (st1 := [.un, .d (enc t), .un]) rfl (compF_t (evAll1 (en_ok (tr := [.c (.bool false)]) rfl ⟨is_num_is hm ht, trivial⟩)) (en_ok (tr := []) rfl trivial)) h
theorem bare_ok {m : Nat} {t : Tm} (hm : 2 ≤ m) (h : sml (bare t) = true) : (Kn m).call 228 [enc t] = some (.list (encs (bare t))) := by
  cases t with
  | prod ts =>
    refine e11 (bare_comp (m := m - 1) (by exact leC hm rfl) ts .un) fun s' hc => ?_
    exact run_ok (by exact Nat.le_of_lt hm) (tr := [.cv (.list (encs (noNums ts)))]) rfl rfl rfl ⟨compK_ok hc (lenOk_encs (by have : (noNums ts).length ≤ 1000 := sml_le h; exact leE this rfl)), trivial⟩
  | num p q => exact run_ok (by exact Nat.le_of_lt hm) (tr := []) rfl rfl rfl trivial
  | x => exact run_ok (by exact Nat.le_of_lt hm) (tr := []) rfl rfl rfl trivial
  | sum ts => exact run_ok (by exact Nat.le_of_lt hm) (tr := []) rfl rfl rfl trivial
  | pow b e => exact run_ok (by exact Nat.le_of_lt hm) (tr := []) rfl rfl rfl trivial
  | call f a => exact run_ok (by exact Nat.le_of_lt hm) (tr := []) rfl rfl rfl trivial
theorem front_ok {m : Nat} {t : Tm} {q : Q} (hm : 2 ≤ m) (h : front t = some q) : (Kn m).call 235 [enc t] = some (encQ q) := by
  cases t with
  | prod ts =>
    match ts, h with
    | [], h => exact noS h
    | .num p s :: r, h => obtain rfl := Option.some.inj h; exact run_ok (by exact Nat.le_of_lt hm) (tr := [.c (.bool true), .c (encQ (p, s))]) rfl rfl rfl ⟨num_of_ok (by exact leC hm rfl), is_num_ok (by exact leC hm rfl), trivial⟩
    | .x :: r, h => obtain rfl := Option.some.inj h; exact run_ok (by exact Nat.le_of_lt hm) (tr := [.c (.bool false)]) rfl rfl rfl ⟨is_num_ok (by exact leC hm rfl), trivial⟩
    | .sum us :: r, h => obtain rfl := Option.some.inj h; exact run_ok (by exact Nat.le_of_lt hm) (tr := [.c (.bool false)]) rfl rfl rfl ⟨is_num_ok (by exact leC hm rfl), trivial⟩
    | .prod us :: r, h => obtain rfl := Option.some.inj h; exact run_ok (by exact Nat.le_of_lt hm) (tr := [.c (.bool false)]) rfl rfl rfl ⟨is_num_ok (by exact leC hm rfl), trivial⟩
    | .pow b e :: r, h => obtain rfl := Option.some.inj h; exact run_ok (by exact Nat.le_of_lt hm) (tr := [.c (.bool false)]) rfl rfl rfl ⟨is_num_ok (by exact leC hm rfl), trivial⟩
    | .call f a :: r, h => obtain rfl := Option.some.inj h; exact run_ok (by exact Nat.le_of_lt hm) (tr := [.c (.bool false)]) rfl rfl rfl ⟨is_num_ok (by exact leC hm rfl), trivial⟩
  | num p q => obtain rfl := Option.some.inj h; exact run_ok (by exact Nat.le_of_lt hm) (tr := []) rfl rfl rfl trivial
  | x => obtain rfl := Option.some.inj h; exact run_ok (by exact Nat.le_of_lt hm) (tr := []) rfl rfl rfl trivial
  | sum ts => obtain rfl := Option.some.inj h; exact run_ok (by exact Nat.le_of_lt hm) (tr := []) rfl rfl rfl trivial
  | pow b e => obtain rfl := Option.some.inj h; exact run_ok (by exact Nat.le_of_lt hm) (tr := []) rfl rfl rfl trivial
  | call f a => obtain rfl := Option.some.inj h; exact run_ok (by exact Nat.le_of_lt hm) (tr := []) rfl rfl rfl trivial
theorem encs_at {A : List Tm} {i : Nat} {a : Tm} {r : List Tm} (h : A.drop i = a :: r) : (encs A)[i]? = some (enc a) := by
  have e : ((encs A).drop i)[0]? = some (enc a) := by rw [encs_drop, h, encs]; rfl
  simpa using e
theorem idxT_enc {A : List Tm} {i : Nat} {a : Tm} {r : List Tm} (h : A.drop i = a :: r) : idxV (.tuple (encs A)) (.int (i : Int)) = some (enc a) := (itemV_nat' _ _).trans (encs_at h)
theorem idxL_enc {A : List Tm} {i : Nat} {a : Tm} {r : List Tm} (h : A.drop i = a :: r) : idxV (.list (encs A)) (.int (i : Int)) = some (enc a) := (itemV_nat' _ _).trans (encs_at h)
theorem drop_succ {A : List Tm} {i : Nat} {a : Tm} {r : List Tm} (h : A.drop i = a :: r) : A.drop (i + 1) = r := by
  rw [← List.drop_drop, h]; rfl
theorem sgn_len {m : Nat} {A B : List Tm} (hm : 1 ≤ m) : (Kn m).call 216 [.int ((encs B).length : Nat), .int ((encs A).length : Nat)] = some (.int (sgn B.length A.length)) := by
  rw [encs_length, encs_length]; exact sgn_ok hm
theorem min_len {A B : List Tm} : bifV .min [.int ((encs A).length : Nat), .int ((encs B).length : Nat)] = some (.int ((min A.length B.length : Nat) : Int)) := by
  rw [encs_length, encs_length]
  show some (PyData.int (if (B.length : Int) < (A.length : Int) then (B.length : Int) else (A.length : Int))) = _
  refine congrArg (fun z => some (PyData.int z)) ?_
  by_cases h : (B.length : Int) < A.length
  · rw [if_pos h, Nat.min_eq_right (Nat.le_of_lt (Int.ofNat_lt.mp h))]
  · rw [if_neg h, Nat.min_eq_left (Int.ofNat_le.mp (Int.not_lt.mp h))]
theorem sgn0 {a b i : Nat} (h1 : a = i + 0) (h2 : b = i + 0) : sgn (a : Int) (b : Int) = 0 := by rw [h1, h2]; unfold sgn; rw [ieq_t.mpr rfl]
theorem sgnF {a b i k : Nat} (h1 : a = i + 0) (h2 : b = i + (k + 1)) : sgn (b : Int) (a : Int) = 1 ∧ sgn (a : Int) (b : Int) = -1 := by
  unfold sgn
  rw [ieq_f.mpr (by exact fun g0 => fk (c4 a i b k) [(1, .var 0, .add (.var 1) (.num 0)), (1, .add (.var 1) (.add (.var 3) (.num 1)), .var 2), (1, .var 2, .var 0), (1, .num 0, .var 3)] rfl (ne h1) (ne h2.symm) (Int.le_of_eq g0) (n0 k)), decide_eq_false (by exact fun g0 => fk (c4 a i b k) [(1, .var 0, .add (.var 1) (.num 0)), (1, .add (.var 1) (.add (.var 3) (.num 1)), .var 2), (1, .add (.var 2) (.num 1), .var 0), (1, .num 0, .var 3)] rfl (ne h1) (ne h2.symm) (g0) (n0 k)), ieq_f.mpr (by exact fun g0 => fk (c4 a i b k) [(1, .var 0, .add (.var 1) (.num 0)), (1, .add (.var 1) (.add (.var 3) (.num 1)), .var 2), (1, .var 2, .var 0), (1, .num 0, .var 3)] rfl (ne h1) (ne h2.symm) (Int.le_of_eq g0.symm) (n0 k)), decide_eq_true (by exact ilt (fk (c4 a i b k) [(1, .var 0, .add (.var 1) (.num 0)), (1, .add (.var 1) (.add (.var 3) (.num 1)), .var 2), (1, .num 0, .var 3), (1, .var 2, .var 0)] rfl (ne h1) (ne h2.symm) (n0 k)))]
  exact ⟨rfl, rfl⟩
noncomputable def b_rows : List CS := [.asg 3 (.e (.call 277 [(.idx (.v 0) (.v 2)), (.idx (.v 1) (.v 2))])), .cond (.cmp .NotEq (.v 3) (.k (.int 0))) [.ret (.v 3)] []]
noncomputable def b_facs : List CS := [.asg 5 (.e (.call 270 [(.idx (.v 2) (.v 4)), (.idx (.v 3) (.v 4))])), .cond (.cmp .NotEq (.v 5) (.k (.int 0))) [.ret (.v 5)] []]
theorem rows_loop {m n : Nat} (ih : ∀ k, k < n → ∀ a b c, cmpTerms k a b = some c → (Kn m).call 277 [enc a, enc b] = some (.int c)) (A B : List Tm) (R : St) : ∀ k, k ≤ n → ∀ (ra rb : List Tm) (i : Nat) (s2 s3 : Slot) (c : Int), A.drop i = ra → B.drop i = rb → A.length = i + ra.length → B.length = i + rb.length → cmpRows k ra rb = some c →
    ∃ o s2' s3', forL (execs (Kn m) b_rows) (.one 2) (rangeD (i : Int) (min ra.length rb.length)) (.d (.tuple (encs A)) :: .d (.tuple (encs B)) :: s2 :: s3 :: R) = some (o, .d (.tuple (encs A)) :: .d (.tuple (encs B)) :: s2' :: s3' :: R) ∧ (o = some (.int c) ∨ (o = none ∧ sgn B.length A.length = c))
  | 0, _, ra, rb, i, s2, s3, c, _, _, _, _, h => by exact noS h
  | k + 1, hk, ra, rb, i, s2, s3, c, hA, hB, lA, lB, h => by
    have stop : (min ra.length rb.length = 0) → ∃ s2' s3', forL (execs (Kn m) b_rows) (.one 2) (rangeD (i : Int) (min ra.length rb.length)) (.d (.tuple (encs A)) :: .d (.tuple (encs B)) :: s2 :: s3 :: R) = some (none, .d (.tuple (encs A)) :: .d (.tuple (encs B)) :: s2' :: s3' :: R) := fun e => ⟨s2, s3, by rw [e, rangeD, for_nil]⟩
    match ra, rb, h with
    | [], [], h =>
      refine e21 (stop rfl) fun s2' s3' e => ?_
      obtain rfl := Option.some.inj h
      refine ⟨none, s2', s3', e, .inr ⟨rfl, ?_⟩⟩
      first | exact sgn0 lA lB | exact sgn0 lB lA
    | [], b :: t, h =>
      refine e21 (stop (rfl)) fun s2' s3' e => ?_
      obtain rfl := Option.some.inj h
      refine ⟨none, s2', s3', e, .inr ⟨rfl, ?_⟩⟩
      first | exact (sgnF lA lB).1 | exact (sgnF lB lA).1
    | a :: r, [], h =>
      refine e21 (stop (rfl)) fun s2' s3' e => ?_
      obtain rfl := Option.some.inj h
      refine ⟨none, s2', s3', e, .inr ⟨rfl, ?_⟩⟩
      first | exact (sgnF lA lB).2 | exact (sgnF lB lA).2
    | a :: r, b :: t, h =>
      have e1 : min (a :: r).length (b :: t).length = min r.length t.length + 1 := Nat.succ_min_succ _ _
      rw [e1, rangeD]
      refine bindE h fun c' hc h2 => ?_
      · have hcall := ih k (by exact hk) a b c' hc
        rcases ifz_some h2 with ⟨hz, h⟩ | ⟨hz, rfl⟩
        rotate_left
        · exact ⟨some (.int c'), .d (.int i), .d (.int c'), for_ret (st1 := .d (.tuple (encs A)) :: .d (.tuple (encs B)) :: .d (.int i) :: s3 :: R) rfl (rn_ok (tr := [.iv (enc a), .iv (enc b), .c (.int c'), .b true]) rfl ⟨cne_is hz, hcall, idxT_enc hB, idxT_enc hA, trivial⟩), .inl rfl⟩
        · refine e32 (rows_loop ih A B R k (by exact Nat.le_of_lt hk) r t (i + 1) (.d (.int i)) (.d (.int c')) c (drop_succ hA) (drop_succ hB) (by simp only [List.length_cons] at lA; exact eqJ lA) (by simp only [List.length_cons] at lB; exact eqJ lB) h) fun o s2' s3' e q => ?_
          exact ⟨o, s2', s3', for_step (st1 := .d (.tuple (encs A)) :: .d (.tuple (encs B)) :: .d (.int i) :: s3 :: R) rfl (rn_ok (tr := [.iv (enc a), .iv (enc b), .c (.int c'), .b false]) rfl ⟨cne_is hz, hcall, idxT_enc hB, idxT_enc hA, trivial⟩) e, q⟩
theorem facs_loop {m n : Nat} (ih : ∀ k, k < n → ∀ a b c, cmpFactors k a b = some c → (Kn m).call 270 [enc a, enc b] = some (.int c)) (A B : List Tm) (s0 s1 : Slot) (R : St) : ∀ k, k ≤ n → ∀ (ra rb : List Tm) (i : Nat) (s2 s3 : Slot) (c : Int), A.drop i = ra → B.drop i = rb → A.length = i + ra.length → B.length = i + rb.length → cmpFacs k ra rb = some c →
    ∃ o s2' s3', forL (execs (Kn m) b_facs) (.one 4) (rangeD (i : Int) (min ra.length rb.length)) (s0 :: s1 :: .d (.list (encs A)) :: .d (.list (encs B)) :: s2 :: s3 :: R) = some (o, s0 :: s1 :: .d (.list (encs A)) :: .d (.list (encs B)) :: s2' :: s3' :: R) ∧ ((o = some (.int c) ∧ ieq c 0 = false) ∨ (o = none ∧ sgn B.length A.length = c))
  | 0, _, ra, rb, i, s2, s3, c, _, _, _, _, h => by exact noS h
  | k + 1, hk, ra, rb, i, s2, s3, c, hA, hB, lA, lB, h => by
    have stop : (min ra.length rb.length = 0) → ∃ s2' s3', forL (execs (Kn m) b_facs) (.one 4) (rangeD (i : Int) (min ra.length rb.length)) (s0 :: s1 :: .d (.list (encs A)) :: .d (.list (encs B)) :: s2 :: s3 :: R) = some (none, s0 :: s1 :: .d (.list (encs A)) :: .d (.list (encs B)) :: s2' :: s3' :: R) := fun e => ⟨s2, s3, by rw [e, rangeD, for_nil]⟩
    match ra, rb, h with
    | [], [], h =>
      refine e21 (stop rfl) fun s2' s3' e => ?_
      obtain rfl := Option.some.inj h
      refine ⟨none, s2', s3', e, .inr ⟨rfl, ?_⟩⟩
      first | exact sgn0 lA lB | exact sgn0 lB lA
    | [], b :: t, h =>
      refine e21 (stop (rfl)) fun s2' s3' e => ?_
      obtain rfl := Option.some.inj h
      refine ⟨none, s2', s3', e, .inr ⟨rfl, ?_⟩⟩
      first | exact (sgnF lA lB).1 | exact (sgnF lB lA).1
    | a :: r, [], h =>
      refine e21 (stop (rfl)) fun s2' s3' e => ?_
      obtain rfl := Option.some.inj h
      refine ⟨none, s2', s3', e, .inr ⟨rfl, ?_⟩⟩
      first | exact (sgnF lA lB).2 | exact (sgnF lB lA).2
    | a :: r, b :: t, h =>
      have e1 : min (a :: r).length (b :: t).length = min r.length t.length + 1 := Nat.succ_min_succ _ _
      rw [e1, rangeD]
      refine bindE h fun c' hc h2 => ?_
      · have hcall := ih k (by exact hk) a b c' hc
        rcases ifz_some h2 with ⟨hz, h⟩ | ⟨hz, rfl⟩
        rotate_left
        · exact ⟨some (.int c'), .d (.int i), .d (.int c'), for_ret (st1 := s0 :: s1 :: .d (.list (encs A)) :: .d (.list (encs B)) :: .d (.int i) :: s3 :: R) rfl (rn_ok (tr := [.iv (enc a), .iv (enc b), .c (.int c'), .b true]) rfl ⟨cne_is hz, hcall, idxL_enc hB, idxL_enc hA, trivial⟩), .inl ⟨rfl, hz⟩⟩
        · refine e32 (facs_loop ih A B s0 s1 R k (by exact Nat.le_of_lt hk) r t (i + 1) (.d (.int i)) (.d (.int c')) c (drop_succ hA) (drop_succ hB) (by simp only [List.length_cons] at lA; exact eqJ lA) (by simp only [List.length_cons] at lB; exact eqJ lB) h) fun o s2' s3' e q => ?_
          exact ⟨o, s2', s3', for_step (st1 := s0 :: s1 :: .d (.list (encs A)) :: .d (.list (encs B)) :: .d (.int i) :: s3 :: R) rfl (rn_ok (tr := [.iv (enc a), .iv (enc b), .c (.int c'), .b false]) rfl ⟨cne_is hz, hcall, idxL_enc hB, idxL_enc hA, trivial⟩) e, q⟩
theorem sgn_x {m : Nat} (hm : 1 ≤ m) : (Kn m).call 216 [.str "x", .str "x"] = some (.int 0) := by
  match m, hm with
  | n + 1, _ => kernel_rfl
theorem sgn_fn {m : Nat} {f g : Fn} (hm : 1 ≤ m) : (Kn m).call 216 [.str f.str, .str g.str] = some (.int (sgn f.ord g.ord)) := by
  match m, hm with
  | n + 1, _ => cases f <;> cases g <;> kernel_rfl
noncomputable def CmpsOk (n : Nat) : Prop := ∀ m, n + 3 ≤ m →
  (∀ (as bs : List Tm) (c : Int), sml as = true → cmpRows n as bs = some c → (Kn m).call 249 [.tuple (encs as), .tuple (encs bs)] = some (.int c)) ∧
  (∀ a b c, cmpExps n a b = some c → (Kn m).call 256 [enc a, enc b] = some (.int c)) ∧
  (∀ a b c, cmpBases n a b = some c → (Kn m).call 263 [enc a, enc b] = some (.int c)) ∧
  (∀ a b c, cmpFactors n a b = some c → (Kn m).call 270 [enc a, enc b] = some (.int c)) ∧
  (∀ a b c, cmpTerms n a b = some c → (Kn m).call 277 [enc a, enc b] = some (.int c))
theorem min_rg {la lb : Nat} (h : la ≤ 1000) : -1048576 ≤ ((min la lb : Nat) : Int) ∧ ((min la lb : Nat) : Int) ≤ 1048576 := by exact ⟨ile (fk (c1 ((min la lb : Nat))) [(1, .num 0, .var 0), (1, .add (.var 0) (.num 1), .neg (.num 1048576))] rfl (n0 (min la lb))), ile (fk (c2 la ((min la lb : Nat))) [(1, .var 0, .num 1000), (1, .var 1, .var 0), (1, .add (.num 1048576) (.num 1), .var 1)] rfl (nl h) (nl (Nat.min_le_left la lb)))⟩
theorem rows_ok {n m : Nat} (ih : ∀ k, k < n → CmpsOk k) (hm : n + 3 ≤ m) {as bs : List Tm} {c : Int} (hs : sml as = true) (h : cmpRows n as bs = some c) : (Kn m).call 249 [.tuple (encs as), .tuple (encs bs)] = some (.int c) := by
  have hl := sml_le hs
  refine e32 (rows_loop (m := m - 1) (n := n) (fun k hk a b c hc => (ih k hk (m - 1) (by exact ltX hk hm)).2.2.2.2 a b c hc) as bs (List.replicate 5 .un) n (Nat.le_refl _) as bs 0 .un .un c rfl rfl (by exact (Nat.zero_add _).symm) (by exact (Nat.zero_add _).symm) h) fun o s2 s3 e q => ?_
  rcases q with rfl | ⟨rfl, hc⟩
  · exact run_ok (by exact leA hm rfl) (tr := [.vv (.int ((min as.length bs.length : Nat) : Int)), .f (some (.int c)) (.d (.tuple (encs as)) :: .d (.tuple (encs bs)) :: s2 :: s3 :: List.replicate 5 .un)]) rfl rfl rfl ⟨e, min_rg hl, min_len, trivial⟩
  · exact run_ok (by exact leA hm rfl) (tr := [.vv (.int ((min as.length bs.length : Nat) : Int)), .f none (.d (.tuple (encs as)) :: .d (.tuple (encs bs)) :: s2 :: s3 :: List.replicate 5 .un), .c (.int c)]) rfl rfl rfl ⟨hc ▸ sgn_len (by exact leC hm rfl), e, min_rg hl, min_len, trivial⟩
theorem exps_ok {n m : Nat} (ih : ∀ k, k < n → CmpsOk k) (hm : n + 3 ≤ m) {a b : Tm} {c : Int} (h : cmpExps n a b = some c) : (Kn m).call 256 [enc a, enc b] = some (.int c) := by
  cases n with
  | zero => exact noS h
  | succ n =>
    have go : (isNum a = false → isNum b = false → cmpTerms n a b = some c → (Kn m).call 256 [enc a, enc b] = some (.int c)) := fun ha hb hc =>
      run_ok (by exact leA hm rfl) (tr := [.c (.bool false), .c (.bool false), .c (.bool false), .c (.int c)]) rfl rfl rfl ⟨(ih n (by exact Nat.le_refl _) (m - 1) (by exact leI hm)).2.2.2.2 a b c hc, is_num_is (by exact leC hm rfl) hb, is_num_is (by exact leC hm rfl) ha, is_num_is (by exact leC hm rfl) ha, trivial⟩
    have g1 : (isNum a = true → isNum b = false → c = 1 → (Kn m).call 256 [enc a, enc b] = some (.int c)) := fun ha hb hc => by
      subst hc
      exact run_ok (by exact leA hm rfl) (tr := [.c (.bool true), .c (.bool false), .c (.bool true), .c (.bool false), .c (.bool true)]) rfl rfl rfl ⟨is_num_is (by exact leC hm rfl) ha, is_num_is (by exact leC hm rfl) hb, is_num_is (by exact leC hm rfl) ha, is_num_is (by exact leC hm rfl) hb, is_num_is (by exact leC hm rfl) ha, trivial⟩
    have g2 : (isNum a = false → isNum b = true → c = -1 → (Kn m).call 256 [enc a, enc b] = some (.int c)) := fun ha hb hc => by
      subst hc
      exact run_ok (by exact leA hm rfl) (tr := [.c (.bool false), .c (.bool false), .c (.bool true), .c (.bool false)]) rfl rfl rfl ⟨is_num_is (by exact leC hm rfl) ha, is_num_is (by exact leC hm rfl) hb, is_num_is (by exact leC hm rfl) ha, is_num_is (by exact leC hm rfl) ha, trivial⟩
    cases a with
    | num p q =>
      cases b with
      | num p' q' => exact run_ok (by exact leA hm rfl) (tr := [.c (.bool true), .c (.bool true), .c (encQ (p', q')), .c (encQ (p, q)), .c (.int c)]) rfl rfl rfl ⟨cmpQ_ok (by exact leC hm rfl) h, num_of_ok (by exact leC hm rfl), num_of_ok (by exact leC hm rfl), is_num_is (by exact leC hm rfl) rfl, is_num_is (by exact leC hm rfl) rfl, trivial⟩
      | _ => exact g1 rfl rfl (Option.some.inj h).symm
    | _ => cases b with
      | num p' q' => exact g2 rfl rfl (Option.some.inj h).symm
      | _ => exact go rfl rfl h
theorem bases_ok {n m : Nat} (ih : ∀ k, k < n → CmpsOk k) (hm : n + 3 ≤ m) {a b : Tm} {c : Int} (h : cmpBases n a b = some c) : (Kn m).call 263 [enc a, enc b] = some (.int c) := by
  cases n with
  | zero => exact noS h
  | succ n =>
    have rows := (ih n (by exact Nat.le_refl _) (m - 1) (by exact leI hm)).1
    cases a with
    | num p q => cases b with
      | num p' q' => exact run_ok (by exact leA hm rfl) (tr := [.c (.int 0), .b false, .c (encQ (p, q)), .c (encQ (p', q')), .c (.int c)]) rfl rfl rfl ⟨cmpQ_ok (by exact leC hm rfl) h, num_of_ok (by exact leC hm rfl), num_of_ok (by exact leC hm rfl), cne_is rfl, sgn_ok (by exact leC hm rfl), trivial⟩
      | _ => obtain rfl := Option.some.inj h; exact run_ok (by exact leA hm rfl) (tr := [.c (.int (sgn (rank _) (rank _))), .b true]) rfl rfl rfl ⟨cne_is rfl, sgn_ok (by exact leC hm rfl), trivial⟩
    | x => cases b with
      | x => obtain rfl := Option.some.inj h; exact run_ok (by exact leA hm rfl) (tr := [.c (.int 0), .b false, .c (.int 0)]) rfl rfl rfl ⟨sgn_x (by exact leC hm rfl), cne_is rfl, sgn_ok (by exact leC hm rfl), trivial⟩
      | _ => obtain rfl := Option.some.inj h; exact run_ok (by exact leA hm rfl) (tr := [.c (.int (sgn (rank _) (rank _))), .b true]) rfl rfl rfl ⟨cne_is rfl, sgn_ok (by exact leC hm rfl), trivial⟩
    | call f a => cases b with
      | call g b =>
        rcases ifz_some h with ⟨hz, h⟩ | ⟨hz, rfl⟩
        · exact run_ok (by exact leA hm rfl) (tr := [.c (.int 0), .b false, .c (.int (sgn f.ord g.ord)), .b false, .c (.int c)]) rfl rfl rfl ⟨rows [a] [b] c rfl h, cne_is hz, sgn_fn (by exact leC hm rfl), cne_is rfl, sgn_ok (by exact leC hm rfl), trivial⟩
        · exact run_ok (by exact leA hm rfl) (tr := [.c (.int 0), .b false, .c (.int (sgn f.ord g.ord)), .b true]) rfl rfl rfl ⟨cne_is hz, sgn_fn (by exact leC hm rfl), cne_is rfl, sgn_ok (by exact leC hm rfl), trivial⟩
      | _ => obtain rfl := Option.some.inj h; exact run_ok (by exact leA hm rfl) (tr := [.c (.int (sgn (rank _) (rank _))), .b true]) rfl rfl rfl ⟨cne_is rfl, sgn_ok (by exact leC hm rfl), trivial⟩
    | sum us => cases b with
      | sum vs =>
        refine and2 (if_some h) fun hs h => ?_
        exact run_ok (by exact leA hm rfl) (tr := [.c (.int 0), .b false, .c (.int c)]) rfl rfl rfl ⟨rows us vs c hs h, cne_is rfl, sgn_ok (by exact leC hm rfl), trivial⟩
      | _ => obtain rfl := Option.some.inj h; exact run_ok (by exact leA hm rfl) (tr := [.c (.int (sgn (rank _) (rank _))), .b true]) rfl rfl rfl ⟨cne_is rfl, sgn_ok (by exact leC hm rfl), trivial⟩
    | prod us => cases b with
      | prod vs =>
        refine and2 (if_some h) fun hs h => ?_
        exact run_ok (by exact leA hm rfl) (tr := [.c (.int 0), .b false, .c (.int c)]) rfl rfl rfl ⟨rows us vs c hs h, cne_is rfl, sgn_ok (by exact leC hm rfl), trivial⟩
      | _ => obtain rfl := Option.some.inj h; exact run_ok (by exact leA hm rfl) (tr := [.c (.int (sgn (rank _) (rank _))), .b true]) rfl rfl rfl ⟨cne_is rfl, sgn_ok (by exact leC hm rfl), trivial⟩
    | pow u v => cases b with
      | pow u' v' => exact run_ok (by exact leA hm rfl) (tr := [.c (.int 0), .b false, .c (.int c)]) rfl rfl rfl ⟨rows [u, v] [u', v'] c rfl h, cne_is rfl, sgn_ok (by exact leC hm rfl), trivial⟩
      | _ => obtain rfl := Option.some.inj h; exact run_ok (by exact leA hm rfl) (tr := [.c (.int (sgn (rank _) (rank _))), .b true]) rfl rfl rfl ⟨cne_is rfl, sgn_ok (by exact leC hm rfl), trivial⟩
theorem factors_ok {n m : Nat} (ih : ∀ k, k < n → CmpsOk k) (hm : n + 3 ≤ m) {a b : Tm} {c : Int} (h : cmpFactors n a b = some c) : (Kn m).call 270 [enc a, enc b] = some (.int c) := by
  cases n with
  | zero => exact noS h
  | succ n =>
    obtain ⟨-, ex, ba, -, -⟩ := ih n (by exact Nat.le_refl _) (m - 1) (by exact leI hm)
    refine bindE h fun c' hb h2 => ?_
    rcases ifz_some h2 with ⟨hz, h⟩ | ⟨hz, rfl⟩
    · exact run_ok (by exact leA hm rfl) (tr := [.c (.tuple [enc (baseExp a).1, enc (baseExp a).2]), .c (.tuple [enc (baseExp b).1, enc (baseExp b).2]), .c (.int c'), .b false, .c (.int c)]) rfl rfl rfl ⟨ex _ _ _ h, cne_is hz, ba _ _ _ hb, base_exp_ok (by exact leC hm rfl), base_exp_ok (by exact leC hm rfl), trivial⟩
    · exact run_ok (by exact leA hm rfl) (tr := [.c (.tuple [enc (baseExp a).1, enc (baseExp a).2]), .c (.tuple [enc (baseExp b).1, enc (baseExp b).2]), .c (.int c'), .b true]) rfl rfl rfl ⟨cne_is hz, ba _ _ _ hb, base_exp_ok (by exact leC hm rfl), base_exp_ok (by exact leC hm rfl), trivial⟩
set_option maxHeartbeats 2000000 in
theorem terms_ok {n m : Nat} (ih : ∀ k, k < n → CmpsOk k) (hm : n + 3 ≤ m) {a b : Tm} {c : Int} (h : cmpTerms n a b = some c) : (Kn m).call 277 [enc a, enc b] = some (.int c) := by
  cases n with
  | zero => exact noS h
  | succ n =>
    have go : isNum a = false → isNum b = false → sml (bare a) = true → sml (bare b) = true → ∀ c', cmpFacs n (bare a) (bare b) = some c' → (ieq c' 0 = false → c' = c) → (ieq c' 0 = true → ∃ u v, front a = some u ∧ front b = some v ∧ cmpQ u v = some c) → (Kn m).call 277 [enc a, enc b] = some (.int c) := fun ha hb sa sb c' hc h1 h2 => by
      have hl := sml_le sa
      refine e32 (facs_loop (m := m - 1) (n := n) (fun k hk a b c hc => (ih k (by exact Nat.le_succ_of_le hk) (m - 1) (by exact nle (fk (c4 n m k ((m - 1 : Nat))) [(1, .add (.add (.var 0) (.num 1)) (.num 3), .var 1), (1, .add (.var 2) (.num 1), .var 0), (1, .var 1, .add (.var 3) (.num 1)), (1, .add (.var 3) (.num 1), .add (.var 2) (.num 3))] rfl (nl hm) (nt hk) (nl (sA m 1))))).2.2.2.1 a b c hc) (bare a) (bare b) (.d (enc a)) (.d (enc b)) (List.replicate 10 .un) n (Nat.le_refl _) (bare a) (bare b) 0 .un .un c' rfl rfl (by exact (Nat.zero_add _).symm) (by exact (Nat.zero_add _).symm) hc) fun o s2 s3 e q => ?_
      rcases q with ⟨rfl, hz⟩ | ⟨rfl, hs⟩
      · have hcc := h1 hz
        subst hcc
        exact run_ok (by exact leA hm rfl) (tr := [.c (.bool false), .c (.bool false), .c (.bool false), .c (.list (encs (bare a))), .c (.list (encs (bare b))), .vv (.int ((min (bare a).length (bare b).length : Nat) : Int)), .f (some (.int c')) (.d (enc a) :: .d (enc b) :: .d (.list (encs (bare a))) :: .d (.list (encs (bare b))) :: s2 :: s3 :: List.replicate 10 .un)]) rfl rfl rfl
          ⟨e, min_rg hl, min_len, bare_ok (by exact leC hm rfl) sb, bare_ok (by exact leC hm rfl) sa, is_num_is (by exact leC hm rfl) hb, is_num_is (by exact leC hm rfl) ha, is_num_is (by exact leC hm rfl) ha, trivial⟩
      · cases hz : ieq c' 0 with
        | false =>
          have hcc := h1 hz
          subst hcc
          exact run_ok (by exact leA hm rfl) (tr := [.c (.bool false), .c (.bool false), .c (.bool false), .c (.list (encs (bare a))), .c (.list (encs (bare b))), .vv (.int ((min (bare a).length (bare b).length : Nat) : Int)), .f none (.d (enc a) :: .d (enc b) :: .d (.list (encs (bare a))) :: .d (.list (encs (bare b))) :: s2 :: s3 :: List.replicate 10 .un), .c (.int c'), .b true]) rfl rfl rfl
            ⟨cne_is hz, hs ▸ sgn_len (by exact leC hm rfl), e, min_rg hl, min_len, bare_ok (by exact leC hm rfl) sb, bare_ok (by exact leC hm rfl) sa, is_num_is (by exact leC hm rfl) hb, is_num_is (by exact leC hm rfl) ha, is_num_is (by exact leC hm rfl) ha, trivial⟩
        | true =>
          refine e23 (h2 hz) fun u v fu fv hq => ?_
          exact run_ok (by exact leA hm rfl) (tr := [.c (.bool false), .c (.bool false), .c (.bool false), .c (.list (encs (bare a))), .c (.list (encs (bare b))), .vv (.int ((min (bare a).length (bare b).length : Nat) : Int)), .f none (.d (enc a) :: .d (enc b) :: .d (.list (encs (bare a))) :: .d (.list (encs (bare b))) :: s2 :: s3 :: List.replicate 10 .un), .c (.int c'), .b false, .c (encQ u), .c (encQ v), .c (.int c)]) rfl rfl rfl
            ⟨cmpQ_ok (by exact leC hm rfl) hq, front_ok (by exact leC hm rfl) fv, front_ok (by exact leC hm rfl) fu, cne_is hz, hs ▸ sgn_len (by exact leC hm rfl), e, min_rg hl, min_len, bare_ok (by exact leC hm rfl) sb, bare_ok (by exact leC hm rfl) sa, is_num_is (by exact leC hm rfl) hb, is_num_is (by exact leC hm rfl) ha, is_num_is (by exact leC hm rfl) ha, trivial⟩
    have g1 : (isNum a = true → isNum b = false → c = 1 → (Kn m).call 277 [enc a, enc b] = some (.int c)) := fun ha hb hc => by
      subst hc
      exact run_ok (by exact leA hm rfl) (tr := [.c (.bool true), .c (.bool false), .c (.bool true), .c (.bool false), .c (.bool true)]) rfl rfl rfl ⟨is_num_is (by exact leC hm rfl) ha, is_num_is (by exact leC hm rfl) hb, is_num_is (by exact leC hm rfl) ha, is_num_is (by exact leC hm rfl) hb, is_num_is (by exact leC hm rfl) ha, trivial⟩
    have g2 : (isNum a = false → isNum b = true → c = -1 → (Kn m).call 277 [enc a, enc b] = some (.int c)) := fun ha hb hc => by
      subst hc
      exact run_ok (by exact leA hm rfl) (tr := [.c (.bool false), .c (.bool false), .c (.bool true), .c (.bool false)]) rfl rfl rfl ⟨is_num_is (by exact leC hm rfl) ha, is_num_is (by exact leC hm rfl) hb, is_num_is (by exact leC hm rfl) ha, is_num_is (by exact leC hm rfl) ha, trivial⟩
    have last : isNum a = false → isNum b = false → (if sml (bare a) && sml (bare b) then (cmpFacs n (bare a) (bare b)).bind fun c => ifz c (pairQ (front a) (front b)) else none) = some c → (Kn m).call 277 [enc a, enc b] = some (.int c) := fun ha hb h => by
      refine and2 (if_some h) fun hs h => and2 (andB hs) fun hs1 hs2 => bindE h fun c' hc h => go ha hb hs1 hs2 c' hc (fun hz => ?_) (fun hz => ?_)
      · rcases ifz_some h with ⟨z, _⟩ | ⟨_, e⟩
        · exact fTr (hz.symm.trans z)
        · exact e
      · rcases ifz_some h with ⟨_, h⟩ | ⟨z, _⟩
        · exact bindE h fun u fu h => bindE h fun v fv h => ⟨u, v, fu, fv, h⟩
        · exact tFa (hz.symm.trans z)
    cases a with
    | num p q => cases b with
      | num p' q' => exact run_ok (by exact leA hm rfl) (tr := [.c (.bool true), .c (.bool true), .c (encQ (p, q)), .c (encQ (p', q')), .c (.int c)]) rfl rfl rfl ⟨cmpQ_ok (by exact leC hm rfl) h, num_of_ok (by exact leC hm rfl), num_of_ok (by exact leC hm rfl), is_num_is (by exact leC hm rfl) rfl, is_num_is (by exact leC hm rfl) rfl, trivial⟩
      | _ => exact g1 rfl rfl (Option.some.inj h).symm
    | _ => cases b with
      | num p' q' => exact g2 rfl rfl (Option.some.inj h).symm
      | _ => exact last rfl rfl h
theorem cmps_all (n : Nat) : CmpsOk n := by
  induction n using Nat.strongRecOn with
  | ind n ih => exact fun m hm => ⟨fun as bs c hs h => rows_ok ih hm hs h, fun a b c h => exps_ok ih hm h, fun a b c h => bases_ok ih hm h, fun a b c h => factors_ok ih hm h, fun a b c h => terms_ok ih hm h⟩
theorem cmpT_ok {n m : Nat} {a b : Tm} {c : Int} (hm : n + 3 ≤ m) (h : cmpTerms n a b = some c) : (Kn m).call 277 [enc a, enc b] = some (.int c) := (cmps_all n m hm).2.2.2.2 a b c h
theorem merge_len : ∀ (n : Nat) (as bs l : List Tm), merge n as bs = some l → l.length = as.length + bs.length
  | 0, as, bs, l, h => noS h
  | n + 1, [], [], l, h => by obtain rfl := Option.some.inj h; rfl
  | n + 1, [], b :: t, l, h => mapR (M := fun l => l.length = 0 + (t.length + 1)) h fun l' hl => congrArg (· + 1) (merge_len n _ _ _ hl)
  | n + 1, a :: r, [], l, h => mapR (M := fun l => l.length = r.length + 1 + 0) h fun l' hl => congrArg (· + 1) (merge_len n _ _ _ hl)
  | n + 1, a :: r, b :: t, l, h => by
    refine bindE h fun c _ h => if_or h (fun _ h => ?_) fun _ h => ?_
    · refine mapE h fun l' hl eq0 => ?_; subst eq0
      have := merge_len n _ _ _ hl
      simp only [List.length_cons] at *; exact Nat.le_antisymm (nle (fk (c3 l'.length r.length t.length) [(1, .var 0, .add (.var 1) (.add (.var 2) (.num 1))), (1, .add (.add (.add (.var 1) (.num 1)) (.add (.var 2) (.num 1))) (.num 1), .add (.var 0) (.num 1))] rfl (ne this))) (nle (fk (c3 l'.length r.length t.length) [(1, .add (.var 1) (.add (.var 2) (.num 1)), .var 0), (1, .add (.add (.var 0) (.num 1)) (.num 1), .add (.add (.var 1) (.num 1)) (.add (.var 2) (.num 1)))] rfl (ne this.symm)))
    · refine mapE h fun l' hl eq0 => ?_; subst eq0
      have := merge_len n _ _ _ hl
      simp only [List.length_cons] at *; exact Nat.le_antisymm (nle (fk (c3 l'.length r.length t.length) [(1, .var 0, .add (.add (.var 1) (.num 1)) (.var 2)), (1, .add (.add (.add (.var 1) (.num 1)) (.add (.var 2) (.num 1))) (.num 1), .add (.var 0) (.num 1))] rfl (ne this))) (nle (fk (c3 l'.length r.length t.length) [(1, .add (.add (.var 1) (.num 1)) (.var 2), .var 0), (1, .add (.add (.var 0) (.num 1)) (.num 1), .add (.add (.var 1) (.num 1)) (.add (.var 2) (.num 1)))] rfl (ne this.symm)))
noncomputable def t_merge : CE := .or [(.cmp .Lt (.v 3) (.len (.v 0))), (.cmp .Lt (.v 4) (.len (.v 1)))]
noncomputable def b_merge : List CS := [.asg 5 (.e (.or [(.cmp .GtE (.v 4) (.len (.v 1))), (.and [(.cmp .Lt (.v 3) (.len (.v 0))), (.cmp .LtE (.call 277 [(.idx (.v 0) (.v 3)), (.idx (.v 1) (.v 4))]) (.k (.int 0)))])])), .cond (.v 5) [.app 2 (.idx (.v 0) (.v 3)), .aug 3 .Add (.k (.int 1))] [.app 2 (.idx (.v 1) (.v 4)), .aug 4 .Add (.k (.int 1))]]
theorem clt_len {A : List Tm} {i : Nat} {b : Bool} (h : decide (i < A.length) = b) : cmpV .Lt (.int (i : Int)) (.int ((encs A).length : Nat)) = some b := by
  rw [encs_length]; exact clt_is (by rw [← h]; congr 1; exact propext Int.ofNat_lt)
theorem cge_len {A : List Tm} {i : Nat} {b : Bool} (h : decide (A.length ≤ i) = b) : cmpV .GtE (.int (i : Int)) (.int ((encs A).length : Nat)) = some b := by
  rw [encs_length]; exact cge_is (by rw [← h]; congr 1; exact propext Int.ofNat_le)
theorem lenSnoc {acc : List Tm} {x : PyData} (h : acc.length + 1 ≤ 1048576) : lenOk (encs acc ++ [x]) = true := lenOk_le'.mpr (by rw [List.length_append, encs_length]; exact h)
theorem merge_loop {m : Nat} (hm : 63 ≤ m) (A B : List Tm) : ∀ (k : Nat) (ra rb : List Tm) (i j : Nat) (acc : List Tm) (s5 : Slot) (l : List Tm), merge k ra rb = some l → A.drop i = ra → B.drop j = rb → A.length = i + ra.length → B.length = j + rb.length → acc.length + ra.length + rb.length ≤ 100000 →
    ∃ n s3 s4 s5', whileN (ev (Kn m) t_merge) (execs (Kn m) b_merge) n [.d (.list (encs A)), .d (.list (encs B)), .ol (encs acc), .d (.int i), .d (.int j), s5, .un, .un] = some (none, [.d (.list (encs A)), .d (.list (encs B)), .ol (encs (acc ++ l)), s3, s4, s5', .un, .un])
  | 0, ra, rb, i, j, acc, s5, l, h, _, _, _, _, _ => by exact noS h
  | k + 1, ra, rb, i, j, acc, s5, l, h, hA, hB, lA, lB, hl => by
    match ra, rb, h with
    | [], [], h =>
      obtain rfl := Option.some.inj h
      simp only [List.length_nil] at lA lB
      refine ⟨1, .d (.int i), .d (.int j), s5, ?_⟩
      rw [List.append_nil]
      exact while_stop (en_ok (tr := [.b false, .b false]) rfl ⟨clt_len (decide_eq_false (by exact fun g0 => fk (c2 B.length j) [(1, .var 0, .add (.var 1) (.num 0)), (1, .add (.var 1) (.num 1), .var 0)] rfl (ne lB) (nt g0))), clt_len (decide_eq_false (by exact fun g0 => fk (c2 A.length i) [(1, .var 0, .add (.var 1) (.num 0)), (1, .add (.var 1) (.num 1), .var 0)] rfl (ne lA) (nt g0))), trivial⟩)
    | [], b :: t, h =>
      refine mapE h fun l' hl' eq0 => ?_; subst eq0
      simp only [List.length_nil, List.length_cons] at lA lB hl
      refine e41 (merge_loop hm A B k [] t i (j + 1) (acc ++ [b]) (.d (.bool false)) l' hl' hA (drop_succ hB) (by exact lA) (by exact eqJ lB) (by simp only [List.length_append, List.length_cons, List.length_nil]; exact leZ hl)) fun n s3 s4 s5' e => ?_
      rw [encs_append acc [b]] at e
      rw [List.append_assoc] at e
      exact ⟨n + 1, s3, s4, s5', while_step (en_ok (tr := [.b false, .b true]) rfl ⟨clt_len (decide_eq_true (by exact ltB lB)), clt_len (decide_eq_false (by exact fun g0 => fk (c2 A.length i) [(1, .var 0, .add (.var 1) (.num 0)), (1, .add (.var 1) (.num 1), .var 0)] rfl (ne lA) (nt g0))), trivial⟩)
        (rn_ok (tr := [.b false, .b false, .iv (enc b)]) rfl ⟨lenSnoc (by exact leP hl rfl), idxL_enc hB, clt_len (decide_eq_false (by exact fun g0 => fk (c2 A.length i) [(1, .var 0, .add (.var 1) (.num 0)), (1, .add (.var 1) (.num 1), .var 0)] rfl (ne lA) (nt g0))), cge_len (decide_eq_false (by exact nlB lB)), trivial⟩) e⟩
    | a :: r, [], h =>
      refine mapE h fun l' hl' eq0 => ?_; subst eq0
      simp only [List.length_nil, List.length_cons] at lA lB hl
      refine e41 (merge_loop hm A B k r [] (i + 1) j (acc ++ [a]) (.d (.bool true)) l' hl' (drop_succ hA) hB (by exact eqJ lA) (by exact lB) (by simp only [List.length_append, List.length_cons, List.length_nil]; exact leZ hl)) fun n s3 s4 s5' e => ?_
      rw [encs_append acc [a]] at e
      rw [List.append_assoc] at e
      exact ⟨n + 1, s3, s4, s5', while_step (en_ok (tr := [.b true]) rfl ⟨clt_len (decide_eq_true (by exact ltB lA)), trivial⟩)
        (rn_ok (tr := [.b true, .iv (enc a)]) rfl ⟨lenSnoc (by exact leP hl rfl), idxL_enc hA, cge_len (decide_eq_true (by exact Nat.le_of_eq lB)), trivial⟩) e⟩
    | a :: r, b :: t, h =>
      refine bindE h fun c hc h => ?_
      · have hcall := cmpT_ok (m := m) hm hc
        simp only [List.length_cons] at lA lB hl
        refine if_or h (fun hle h => mapE h fun l' hl' eq0 => ?_) fun hle h => mapE h fun l' hl' eq0 => ?_
        · subst eq0
          refine e41 (merge_loop hm A B k r (b :: t) (i + 1) j (acc ++ [a]) (.d (.bool true)) l' hl' (drop_succ hA) hB (by exact eqJ lA) (by exact lB) (by simp only [List.length_append, List.length_cons, List.length_nil]; exact nle (fk (c3 acc.length r.length t.length) [(1, .add (.add (.var 0) (.add (.var 1) (.num 1))) (.add (.var 2) (.num 1)), .num 100000), (1, .add (.num 100000) (.num 1), .add (.add (.add (.var 0) (.add (.num 0) (.num 1))) (.var 1)) (.add (.var 2) (.num 1)))] rfl (nl hl)))) fun n s3 s4 s5' e => ?_
          rw [encs_append acc [a]] at e
          rw [List.append_assoc] at e
          exact ⟨n + 1, s3, s4, s5', while_step (en_ok (tr := [.b true]) rfl ⟨clt_len (decide_eq_true (by exact ltB lA)), trivial⟩)
            (rn_ok (tr := [.b false, .b true, .iv (enc a), .iv (enc b), .c (.int c), .b true, .iv (enc a)]) rfl ⟨lenSnoc (by exact nle (fk (c3 acc.length r.length t.length) [(1, .add (.add (.var 0) (.add (.var 1) (.num 1))) (.add (.var 2) (.num 1)), .num 100000), (1, .num 0, .var 1), (1, .num 0, .var 2), (1, .add (.num 1048576) (.num 1), .add (.var 0) (.num 1))] rfl (nl hl) (n0 r.length) (n0 t.length))), idxL_enc hA, cle_is hle, hcall, idxL_enc hB, idxL_enc hA, clt_len (decide_eq_true (by exact ltB lA)), cge_len (decide_eq_false (by exact nlB lB)), trivial⟩) e⟩
        · subst eq0
          refine e41 (merge_loop hm A B k (a :: r) t i (j + 1) (acc ++ [b]) (.d (.bool false)) l' hl' hA (drop_succ hB) (by exact lA) (by exact eqJ lB) (by simp only [List.length_append, List.length_cons, List.length_nil]; exact nle (fk (c3 acc.length r.length t.length) [(1, .add (.add (.var 0) (.add (.var 1) (.num 1))) (.add (.var 2) (.num 1)), .num 100000), (1, .add (.num 100000) (.num 1), .add (.add (.add (.var 0) (.add (.num 0) (.num 1))) (.add (.var 1) (.num 1))) (.var 2))] rfl (nl hl)))) fun n s3 s4 s5' e => ?_
          rw [encs_append acc [b]] at e
          rw [List.append_assoc] at e
          exact ⟨n + 1, s3, s4, s5', while_step (en_ok (tr := [.b true]) rfl ⟨clt_len (decide_eq_true (by exact ltB lA)), trivial⟩)
            (rn_ok (tr := [.b false, .b true, .iv (enc a), .iv (enc b), .c (.int c), .b false, .iv (enc b)]) rfl ⟨lenSnoc (by exact nle (fk (c3 acc.length r.length t.length) [(1, .add (.add (.var 0) (.add (.var 1) (.num 1))) (.add (.var 2) (.num 1)), .num 100000), (1, .num 0, .var 1), (1, .num 0, .var 2), (1, .add (.num 1048576) (.num 1), .add (.var 0) (.num 1))] rfl (nl hl) (n0 r.length) (n0 t.length))), idxL_enc hB, cle_is (Bool.eq_false_iff.mpr hle), hcall, idxL_enc hB, idxL_enc hA, clt_len (decide_eq_true (by exact ltB lA)), cge_len (decide_eq_false (by exact nlB lB)), trivial⟩) e⟩
theorem merge_ok {m k : Nat} {A B l : List Tm} (hm : 64 ≤ m) (h : merge k A B = some l) (hl : A.length + B.length ≤ 100000) : (Kn m).call 284 [.list (encs A), .list (encs B)] = some (.list (encs l)) := by
  refine e41 (merge_loop (m := m - 1) (by exact leC hm rfl) A B k A B 0 0 [] .un l h rfl rfl (by exact (Nat.zero_add _).symm) (by exact (Nat.zero_add _).symm) (by simp only [List.length_nil]; exact nle (fk (c2 A.length B.length) [(1, .add (.var 0) (.var 1), .num 100000), (1, .add (.num 100000) (.num 1), .add (.add (.num 0) (.var 0)) (.var 1))] rfl (nl hl)))) fun n s3 s4 s5 e => ?_
  exact run_ok (by exact leA hm rfl) (tr := [.w none [.d (.list (encs A)), .d (.list (encs B)), .ol (encs l), s3, s4, s5, .un, .un]]) rfl rfl rfl ⟨⟨n, e⟩, trivial⟩
theorem sort_len : ∀ (n : Nat) (ts s : List Tm), sortT n ts = some s → s.length = ts.length
  | 0, ts, s, h => noS h
  | n + 1, ts, s, h => by
    refine if_or h (fun _ h => bindE h fun a ha h => bindE h fun b hb h => ?_) fun _ h => Option.some.inj h ▸ rfl
    have h1 := sort_len n _ _ ha
    have h2 := sort_len n _ _ hb
    have h3 := merge_len _ _ _ _ h
    exact h3.trans (by rw [h1, h2, ← List.length_append, List.take_append_drop])
theorem upto_half {A : List Tm} (h : A.length ≤ 1000) : uptoV (.list (encs A)) (.int (((encs A).length : Int).fdiv 2)) = some (.list (encs (A.take (A.length / 2)))) := by
  rw [encs_length]
  have e : ((A.length : Nat) : Int).fdiv 2 = ((A.length / 2 : Nat) : Int) := by rw [Int.fdiv_eq_ediv_of_nonneg _ (by exact Int.natCast_nonneg _)]; rfl
  rw [e, uptoV, if_pos (by exact ⟨ile (fk (c1 ((A.length / 2 : Nat))) [(1, .num 0, .var 0), (1, .add (.var 0) (.num 1), .num 0)] rfl (n0 (A.length / 2))), ile (fk (c2 A.length ((A.length / 2 : Nat))) [(1, .var 0, .num 1000), (1, .var 1, .var 0), (1, .add (.num 1048576) (.num 1), .var 1)] rfl (nl h) (nl (Nat.div_le_self A.length 2)))⟩)]
  simp only [Int.toNat_natCast, encs_take]
theorem from_half {A : List Tm} (h : A.length ≤ 1000) : fromV (.list (encs A)) (.int (((encs A).length : Int).fdiv 2)) = some (.list (encs (A.drop (A.length / 2)))) := by
  rw [encs_length]
  have e : ((A.length : Nat) : Int).fdiv 2 = ((A.length / 2 : Nat) : Int) := by rw [Int.fdiv_eq_ediv_of_nonneg _ (by exact Int.natCast_nonneg _)]; rfl
  rw [e, fromV, if_pos (by exact ⟨ile (fk (c1 ((A.length / 2 : Nat))) [(1, .num 0, .var 0), (1, .add (.var 0) (.num 1), .num 0)] rfl (n0 (A.length / 2))), ile (fk (c2 A.length ((A.length / 2 : Nat))) [(1, .var 0, .num 1000), (1, .var 1, .var 0), (1, .add (.num 1048576) (.num 1), .var 1)] rfl (nl h) (nl (Nat.div_le_self A.length 2)))⟩)]
  simp only [Int.toNat_natCast, encs_drop]
theorem sort_ok : ∀ (n m : Nat) (ts s : List Tm), n + 65 ≤ m → ts.length ≤ 1000 → sortT n ts = some s → (Kn m).call 291 [.list (encs ts)] = some (.list (encs s))
  | 0, m, ts, s, hm, hl, h => by exact noS h
  | n + 1, m, ts, s, hm, hl, h => by
    refine if_or h (fun hb h => bindE h fun a ha h => bindE h fun b hb' h => ?_) fun hb h => ?_
    · have h2 : 2 ≤ ts.length := Nat.le_of_ble_eq_true hb
      have la := sort_len n _ _ ha
      have lb := sort_len n _ _ hb'
      simp only [List.length_take, List.length_drop] at la lb
      refine run_ok (by exact leA hm rfl) (tr := [.b false, .vv (.list (encs (ts.take (ts.length / 2)))), .c (.list (encs a)), .vv (.list (encs (ts.drop (ts.length / 2)))), .c (.list (encs b)), .c (.list (encs s))]) rfl rfl rfl
        ⟨merge_ok (by exact leC hm rfl) h (by exact nle (fk (c5 ts.length a.length ((min (ts.length / 2) ts.length : Nat)) b.length ((ts.length - (ts.length / 2) : Nat))) [(2, .var 0, .num 1000), (1, .var 1, .var 2), (1, .var 3, .var 4), (1, .var 2, .var 0), (1, .var 4, .var 0), (1, .add (.num 100000) (.num 1), .add (.var 1) (.var 3))] rfl (nl hl) (ne la) (ne lb) (nl (Nat.min_le_right (ts.length / 2) ts.length)) (nl (Nat.sub_le ts.length (ts.length / 2))))), sort_ok n (m - 1) _ _ (by exact leI hm) (by simp only [List.length_drop]; exact nle (fk (c2 ts.length ((ts.length - (ts.length / 2) : Nat))) [(1, .var 0, .num 1000), (1, .var 1, .var 0), (1, .add (.num 1000) (.num 1), .var 1)] rfl (nl hl) (nl (Nat.sub_le ts.length (ts.length / 2))))) hb', from_half hl, sort_ok n (m - 1) _ _ (by exact leI hm) (by simp only [List.length_take]; exact nle (fk (c2 ts.length ((min (ts.length / 2) ts.length : Nat))) [(1, .var 0, .num 1000), (1, .var 1, .var 0), (1, .add (.num 1000) (.num 1), .var 1)] rfl (nl hl) (nl (Nat.min_le_right (ts.length / 2) ts.length)))) ha, upto_half hl, ⟨by decide, by decide⟩, clt_is (by rw [encs_length]; exact decide_eq_false (by exact fun g0 => fk (c1 ts.length) [(1, .num 2, .var 0), (1, .add (.var 0) (.num 1), .num 2)] rfl (nl h2) (g0))), trivial⟩
    · obtain rfl := Option.some.inj h
      have : ¬ 2 ≤ ts.length := fun q => hb (Nat.ble_eq_true_of_le q)
      exact run_ok (by exact leA hm rfl) (tr := [.b true]) rfl rfl rfl ⟨clt_is (by rw [encs_length]; exact decide_eq_true (by exact ilt (fk (c1 ts.length) [(1, .add (.var 0) (.num 1), .num 2), (1, .num 2, .var 0)] rfl (nt (Nat.not_le.mp this))))), trivial⟩
theorem encC_len {α : Type} (g : α → PyData) (c : List (Tm × α)) : (encC g c).length = c.length := by unfold encC; rw [List.length_map]
theorem delC_len {α : Type} (k : Tm) : ∀ c : List (Tm × α), (delC k c).length ≤ c.length
  | [] => Nat.le_refl _
  | (k', s) :: t => by
    rw [delC]
    have := delC_len k t
    cases teq k' k <;> simp only [List.length_cons] <;> first | exact Nat.succ_le_succ this | exact Nat.le_succ _
theorem lenY {a b c d : Nat} (h1 : a ≤ b + c) (h2 : b ≤ d + 1) : a ≤ d + (c + 1) := by exact nle (fk (c4 a b c d) [(1, .var 0, .add (.var 1) (.var 2)), (1, .var 1, .add (.var 3) (.num 1)), (1, .add (.add (.var 3) (.add (.var 2) (.num 1))) (.num 1), .var 0)] rfl (nl h1) (nl h2))
theorem counts_len : ∀ (ts : List Tm) (c c' : List (Tm × Q)), counts ts c = some c' → c'.length ≤ c.length + ts.length
  | [], c, c', h => by obtain rfl := Option.some.inj h; exact Nat.le_refl _
  | t :: r, c, c', h => bindE h fun x hq h => bindE h fun s hs h => and2 (if_some h) fun _ h => lenY (counts_len r _ _ h) (putC_len x.2 s c)
theorem kept_len : ∀ (c : List (Tm × Q)) (l : List Tm), kept c = some l → l.length ≤ c.length
  | [], l, h => by obtain rfl := Option.some.inj h; exact Nat.le_refl _
  | p :: t, l, h => if_or h (fun _ h => Nat.le_succ_of_le (kept_len t l h)) fun _ h => bindE h fun a ha h => mapE h fun l' hl eq0 => eq0 ▸ Nat.succ_le_succ (kept_len t l' hl)
noncomputable def b_counts : List CS := [.asgU [3, 4] (.call 312 [(.v 2)]), .setv 1 (.v 4) (.call 76 [(.dget 1 (.v 4) (.tup [(.k (.int 0)), (.k (.int 1))])), (.v 3)])]
theorem getD_enc {k : Tm} {c : List (Tm × Q)} : (lookD (encC encQ c) (enc k)).getD (.tuple [.int 0, .int 1]) = encQ ((lookC k c).getD q01) := by
  rw [look_enc]
  cases lookC k c <;> rfl
theorem counts_loop {m : Nat} (hm : 3 ≤ m) (P : Slot) (R : St) : ∀ (ts : List Tm) (c c' : List (Tm × Q)) (s2 s3 s4 : Slot), counts ts c = some c' → c.length + ts.length ≤ 100000 →
    ∃ s2' s3' s4', forL (execs (Kn m) b_counts) (.one 2) (encs ts) (P :: .od (encC encQ c) :: s2 :: s3 :: s4 :: R) = some (none, P :: .od (encC encQ c') :: s2' :: s3' :: s4' :: R)
  | [], c, c', s2, s3, s4, h, _ => by
    obtain rfl := Option.some.inj h
    exact ⟨s2, s3, s4, rfl⟩
  | t :: r, c, c', s2, s3, s4, h, hl => by
    refine bindE h fun ⟨q, rest⟩ hq h => bindE h fun s hs h => and2 (if_some h) fun hk h => ?_
    have h2 := putC_len rest s c
    simp only [List.length_cons] at hl
    refine e31 (counts_loop hm P R r (putC rest s c) c' (.d (enc t)) (.d (encQ q)) (.d (enc rest)) h (by exact nle (fk (c3 c.length r.length ((putC rest s c).length)) [(1, .add (.var 0) (.add (.var 1) (.num 1)), .num 100000), (1, .var 2, .add (.var 0) (.num 1)), (1, .add (.num 100000) (.num 1), .add (.var 2) (.var 1))] rfl (nl hl) (nl h2)))) fun s2' s3' s4' e => ?_
    rw [← put_enc encQ rest s c] at e
    refine ⟨s2', s3', s4', ?_⟩
    exact for_step (st1 := P :: .od (encC encQ c) :: .d (enc t) :: s3 :: s4 :: R) rfl (rn_ok (tr := [.c (.tuple [encQ q, enc rest]), .iv (encQ ((lookC rest c).getD q01)), .c (encQ s)]) rfl
      ⟨by rw [key_enc hk]; exact lenOk_le'.mpr (by rw [encC_len]; exact leF hl rfl), radd_ok hm hs, ⟨key_enc hk, getD_enc⟩, nr_ok (by exact leA hm rfl) hq, trivial⟩) e
theorem kept_comp {m : Nat} (hm : 2 ≤ m) : ∀ (c : List (Tm × Q)) (l : List Tm) (s1 s2 : Slot), kept c = some l →
    ∃ s1' s2', compL (compF (evAll (Kn m) [(.cmp .NotEq (.idx (.v 2) (.k (.int 0))) (.k (.int 0)))]) (ev (Kn m) (.call 319 [(.v 2), (.v 1)]))) (.two 1 2) ((encC encQ c).map fun p => .tuple [p.1, p.2]) [.un, s1, s2, .un] = some (encs l, [.un, s1', s2', .un])
  | [], l, s1, s2, h => by
    obtain rfl := Option.some.inj h
    exact ⟨s1, s2, by exact comp_nil⟩
  | (k, s) :: t, l, s1, s2, h => by
    refine if_or h (fun hz h => ?_) fun hz h => bindE h fun a ha h => mapE h fun l' hl eq0 => ?_
    · refine e21 (kept_comp hm t l (.d (enc k)) (.d (encQ s)) h) fun s1' s2' e => ?_
      exact ⟨s1', s2', comp_none (st1 := [.un, .d (enc k), .d (encQ s), .un]) rfl (compF_f (evAll1 (en_ok (tr := [.b false]) rfl ⟨cne_is hz, trivial⟩))) e⟩
    · subst eq0
      have hz : ieq s.1 0 = false := Bool.eq_false_iff.mpr hz
      refine e21 (kept_comp hm t l' (.d (enc k)) (.d (encQ s)) hl) fun s1' s2' e => ?_
      refine ⟨s1', s2', ?_⟩
      exact comp_some (st1 := [.un, .d (enc k), .d (encQ s), .un]) rfl (compF_t (evAll1 (en_ok (tr := [.b true]) rfl ⟨cne_is hz, trivial⟩)) (en_ok (tr := [.c (enc a)]) rfl ⟨with_number_ok hm ha, trivial⟩)) e
theorem nosum_comp {K : Or} : ∀ (ts : List Tm) (s1 : Slot), ts.any isSum = false → ∃ s1', compL (compF (evAll K [(.cmp .Eq (.idx (.v 1) (.k (.int 0))) (.k (.str "sum")))]) (ev K (.v 1))) (.one 1) (encs ts) [.un, s1] = some ([], [.un, s1'])
  | [], s1, h => ⟨s1, by exact comp_nil⟩
  | t :: r, s1, h => by
    rw [List.any_cons, Bool.or_eq_false_iff] at h
    refine e11 (nosum_comp (K := K) r (.d (enc t)) h.2) fun s1' e => ?_
    refine ⟨s1', ?_⟩
    refine comp_none (st1 := [.un, .d (enc t)]) rfl (compF_f (evAll1 ?_)) e
    rw [enc_kd t]
    exact en_ok (tr := [.qq false]) rfl ⟨not_sum h.1, trivial⟩
theorem addL_enc {a b : List Tm} (h : a.length + b.length ≤ 1048576) : binV .Add (.list (encs a)) (.list (encs b)) = some (.list (encs (a ++ b))) := by
  show (if lenOk (encs a ++ encs b) = true then some (PyData.list (encs a ++ encs b)) else none) = _
  rw [← encs_append, if_pos (lenOk_encs (by rw [List.length_append]; exact h))]
noncomputable def e_gsum : List CS := [.cond (.cmp .Eq (.len (.v 6)) (.k (.int 0))) [.ret (.k (.tuple [(.str "num"), (.int 0), (.int 1)]))] [], .ret (.ite (.cmp .Eq (.len (.v 6)) (.k (.int 1))) (.idx (.v 6) (.k (.int 0))) (.tup [(.k (.str "sum")), (.bif .tuple [(.v 6)])]))]
theorem gsum_end {K : Or} {L : List Tm} {a b c d e f : Slot} {R : St} : execs K e_gsum (a :: b :: c :: d :: e :: f :: .d (.list (encs L)) :: R) = some (some (enc (tSum L)), a :: b :: c :: d :: e :: f :: .d (.list (encs L)) :: R) := by
  match L with
  | [] => exact rn_ok (tr := [.b true]) rfl ⟨ceq_is rfl, trivial⟩
  | [t] => exact rn_ok (tr := [.b false, .b true]) rfl ⟨ceq_is rfl, ceq_is rfl, trivial⟩
  | a :: b :: r => exact rn_ok (tr := [.b false, .b false]) rfl ⟨ceq_is (ieq_f.mpr (len2 a b r).2), ceq_is (ieq_f.mpr (len2 a b r).1), trivial⟩
theorem execs_app {K : Or} {b : List CS} {r : Ans (Option PyData)} : ∀ {a : List CS} {st st1 : St}, execs K a st = some (none, st1) → execs K b st1 = r → execs K (a ++ b) st = r
  | [], st, st1, h, h2 => by cases h; exact h2
  | c :: t, st, st1, h, h2 => by
    rw [execs] at h
    rw [List.cons_append, execs]
    cases hc : exec K c st with
    | none => rw [hc] at h; exact noS h
    | some p =>
      obtain ⟨o, s⟩ := p
      rw [hc] at h
      cases o with
      | some d => exact noP h
      | none => exact execs_app (a := t) h h2
theorem call_ex {m : Nat} {f : FN} {fc : FnC} {args : List PyData} {d : PyData} {st' : St} (hm : 1 ≤ m) (hf : fcOf f = some fc) (hl : args.length = fc.np) (h : execs (Kn (m - 1)) fc.body (fst0 fc args) = some (some d, st')) : (Kn m).call f args = some d := by
  cases m with
  | zero => exact (fk (c1 0) [(1, .num 1, .num 0)] rfl (nl hm)).elim
  | succ n =>
    rw [Kn_call, hf]
    show runF (Kn n) fc args = some d
    unfold runF
    rw [if_pos hl]
    have : execs (Kn n) fc.body (fst0 fc args) = some (some d, st') := h
    unfold fst0 at this
    rw [this]
    rfl
noncomputable def p_gsum : List CS := fc_gathered_sum.body.take 6
theorem gsum_ok {m : Nat} {parts : List Tm} {t : Tm} (hm : 78 ≤ m) (h : gsum parts = some t) : (Kn m).call 331 [.list (encs parts)] = some (enc t) := by
  refine and2 (if_some h) fun hs h => bindE h fun c hc h => bindE h fun found hf h => and2 (if_not h) fun hany h => bindE h fun s hso h => ?_
  have hl := sml_le hs
  have l1 := counts_len _ _ _ hc
  have l2 := delC_len one c
  have l3 := kept_len _ _ hf
  have l4 := sort_len _ _ _ hso
  simp only [List.length_nil] at l1
  refine e31 (counts_loop (m := m - 1) (by exact leC hm rfl) (.d (.list (encs parts))) (List.replicate 12 .un) (flatSum parts) [] c .un .un .un hc (by simp only [List.length_nil]; exact le0 hl rfl)) fun s2 s3 s4 e1 => ?_
  refine e21 (kept_comp (m := m - 1) (by exact leC hm rfl) (delC one c) found .un .un hf) fun u1 u2 e2 => ?_
  refine e11 (nosum_comp (K := Kn (m - 1)) found .un (Bool.eq_false_iff.mpr hany)) fun w1 e3 => ?_
  have c1 := compK_ok (init := [none, none, none, none]) (st := .d (.list (encs parts)) :: .un :: s2 :: s3 :: s4 :: .d (encQ ((lookC one c).getD q01)) :: List.replicate 11 .un) e2 (lenOk_encs (by exact nle (fk (c4 ((flatSum parts).length) c.length ((delC one c).length) found.length) [(1, .var 0, .num 1000), (1, .var 1, .add (.num 0) (.var 0)), (1, .var 2, .var 1), (1, .var 3, .var 2), (1, .add (.num 1048576) (.num 1), .var 3)] rfl (nl hl) (nl l1) (nl l2) (nl l3))))
  have c2 := compK_ok (init := [none, none]) (st := .d (.list (encs parts)) :: .un :: s2 :: s3 :: s4 :: .d (encQ ((lookC one c).getD q01)) :: .d (.list (encs found)) :: List.replicate 10 .un) e3 rfl
  have d1 : keyOk (enc one) = true ∧ (lookD (encC encQ c) (enc one)).getD (.tuple [.int 0, .int 1]) = encQ ((lookC one c).getD q01) ∧ delD (encC encQ c) (enc one) = encC encQ (delC one c) := ⟨key_enc rfl, getD_enc, del_enc encQ one c⟩
  have fin : ∀ L : List Tm, tSum L = t → (∃ a b c d e f R, execs (Kn (m - 1)) p_gsum (fst0 fc_gathered_sum [.list (encs parts)]) = some (none, a :: b :: c :: d :: e :: f :: .d (.list (encs L)) :: R)) → (Kn m).call 331 [.list (encs parts)] = some (enc t) := fun L hL ⟨a, b, c, d, e, f, R, q⟩ => by
    have : execs (Kn (m - 1)) (p_gsum ++ e_gsum) (fst0 fc_gathered_sum [.list (encs parts)]) = _ := execs_app q gsum_end
    rw [hL] at this
    exact call_ex (by exact leA hm rfl) rfl rfl this
  unfold gsumS at h
  cases hz : ieq ((lookC one c).getD q01).1 0 with
  | true =>
    rw [hz] at h
    have ad := addL_enc (a := s) (b := []) (by simp only [List.length_nil]; exact nle (fk (c5 ((flatSum parts).length) c.length ((delC one c).length) found.length s.length) [(1, .var 0, .num 1000), (1, .var 1, .add (.num 0) (.var 0)), (1, .var 2, .var 1), (1, .var 3, .var 2), (1, .var 4, .var 3), (1, .add (.num 1048576) (.num 1), .add (.var 4) (.num 0))] rfl (nl hl) (nl l1) (nl l2) (nl l3) (ne l4)))
    rw [List.append_nil] at ad
    refine fin s (Option.some.inj h) ⟨_, _, _, _, _, _, _, rn_ok (tr := [.c (.list (encs (flatSum parts))), .f none (.d (.list (encs parts)) :: .od (encC encQ c) :: s2 :: s3 :: s4 :: List.replicate 12 .un), .dp (encQ ((lookC one c).getD q01)) (encC encQ (delC one c)), .cv (.list (encs found)), .cv (.list []), .b false, .c (.list (encs s)), .b false, .bv (.list (encs s))]) rfl ?_⟩
    exact ⟨ad, cne_is hz, sort_ok 12 (m - 1) _ _ (by exact leC hm rfl) (by exact nle (fk (c4 ((flatSum parts).length) c.length ((delC one c).length) found.length) [(1, .var 0, .num 1000), (1, .var 1, .add (.num 0) (.var 0)), (1, .var 2, .var 1), (1, .var 3, .var 2), (1, .add (.num 1000) (.num 1), .var 3)] rfl (nl hl) (nl l1) (nl l2) (nl l3))) hso, cgt_is rfl, c2, c1, d1, e1, flatS_ok (by exact leC hm rfl) hs, trivial⟩
  | false =>
    rw [hz] at h
    refine fin (s ++ [.num ((lookC one c).getD q01).1 ((lookC one c).getD q01).2]) (Option.some.inj h) ⟨_, _, _, _, _, _, _, rn_ok (tr := [.c (.list (encs (flatSum parts))), .f none (.d (.list (encs parts)) :: .od (encC encQ c) :: s2 :: s3 :: s4 :: List.replicate 12 .un), .dp (encQ ((lookC one c).getD q01)) (encC encQ (delC one c)), .cv (.list (encs found)), .cv (.list []), .b false, .c (.list (encs s)), .b true, .c (enc (.num ((lookC one c).getD q01).1 ((lookC one c).getD q01).2)), .bv (.list (encs (s ++ [.num ((lookC one c).getD q01).1 ((lookC one c).getD q01).2])))]) rfl ?_⟩
    exact ⟨addL_enc (b := [.num ((lookC one c).getD q01).1 ((lookC one c).getD q01).2]) (by simp only [List.length_cons, List.length_nil]; exact nle (fk (c5 ((flatSum parts).length) c.length ((delC one c).length) found.length s.length) [(1, .var 0, .num 1000), (1, .var 1, .add (.num 0) (.var 0)), (1, .var 2, .var 1), (1, .var 3, .var 2), (1, .var 4, .var 3), (1, .add (.num 1048576) (.num 1), .add (.var 4) (.add (.num 0) (.num 1)))] rfl (nl hl) (nl l1) (nl l2) (nl l3) (ne l4))), number_term_ok (by exact leC hm rfl), cne_is hz, sort_ok 12 (m - 1) _ _ (by exact leC hm rfl) (by exact nle (fk (c4 ((flatSum parts).length) c.length ((delC one c).length) found.length) [(1, .var 0, .num 1000), (1, .var 1, .add (.num 0) (.var 0)), (1, .var 2, .var 1), (1, .var 3, .var 2), (1, .add (.num 1000) (.num 1), .var 3)] rfl (nl hl) (nl l1) (nl l2) (nl l3))) hso, cgt_is rfl, c2, c1, d1, e1, flatS_ok (by exact leC hm rfl) hs, trivial⟩
theorem one_call_is {m : Nat} {t : Tm} {g : Fn} {b : Bool} (hm : 1 ≤ m) (h : isCallOf g t = b) : (Kn m).call 338 [enc t, .str g.str] = some (.bool b) := by
  subst h
  cases t with
  | call f a => exact one_call_ok hm
  | num p q => exact run_ok hm (tr := []) rfl rfl rfl trivial
  | x => exact run_ok hm (tr := []) rfl rfl rfl trivial
  | sum us => exact run_ok hm (tr := []) rfl rfl rfl trivial
  | prod us => exact run_ok hm (tr := []) rfl rfl rfl trivial
  | pow b e => exact run_ok hm (tr := []) rfl rfl rfl trivial
theorem isLog_call {t : Tm} : isLog t = isCallOf .log t := by
  cases t with
  | call f a => cases f <;> rfl
  | _ => rfl
noncomputable def b_exp : List CS := [.asgU [4, 5] (.call 312 [(.v 3)]), .cond (.and [(.call 338 [(.v 5), (.k (.str "log"))]), (.cmp .Eq (.idx (.v 4) (.k (.int 1))) (.k (.int 1)))]) [.app 1 (.call 357 [(.idx (.idx (.v 5) (.k (.int 2))) (.k (.int 0))), (.call 305 [(.v 4)])])] [.app 2 (.v 3)]]
theorem exp_loop {m : Nat} (hm : 1 ≤ m) (P F : Slot) (R : St) : ∀ (ts acc : List Tm) (s3 s4 s5 : Slot), noLogs ts = true → acc.length + ts.length ≤ 100000 →
    ∃ s3' s4' s5', forL (execs (Kn m) b_exp) (.one 3) (encs ts) (P :: F :: .ol (encs acc) :: s3 :: s4 :: s5 :: R) = some (none, P :: F :: .ol (encs (acc ++ ts)) :: s3' :: s4' :: s5' :: R)
  | [], acc, s3, s4, s5, _, _ => ⟨s3, s4, s5, by rw [encs, for_nil, List.append_nil]⟩
  | t :: r, acc, s3, s4, s5, h, hl => by
    refine and2 (andB h) fun h1 h => ?_
    cases hq : numberAndRest t with
    | none => rw [hq] at h1; exact fTr h1
    | some x =>
      obtain ⟨q, rest⟩ := x
      rw [hq] at h1
      have hg : isLog rest = false := notB h1
      simp only [List.length_cons] at hl
      refine e31 (exp_loop hm P F R r (acc ++ [t]) (.d (enc t)) (.d (encQ q)) (.d (enc rest)) h (by simp only [List.length_append, List.length_cons, List.length_nil]; exact leZ hl)) fun s3' s4' s5' e => ?_
      rw [encs_append acc [t], List.append_assoc] at e
      refine ⟨s3', s4', s5', ?_⟩
      exact for_step (st1 := P :: F :: .ol (encs acc) :: .d (enc t) :: s4 :: s5 :: R) rfl (rn_ok (tr := [.c (.tuple [encQ q, enc rest]), .c (.bool false)]) rfl
        ⟨lenSnoc (by exact leP hl rfl), one_call_is (g := .log) hm (by rw [← isLog_call]; exact hg), nr_ok hm hq, trivial⟩) e
theorem exp_ok {m : Nat} {a r : Tm} (hm : 2 ≤ m) (h : callOf .exp a = some r) : (Kn m).call 397 [enc a] = some (enc r) := by
  refine if_or h (fun hz h => ?_) fun hz h => and2 (if_some h) fun hs h => and2 (andB hs) fun h1 h2 => ?_
  · obtain rfl := Option.some.inj h
    exact run_ok (by exact Nat.le_of_lt hm) (tr := [.b true]) rfl rfl rfl ⟨eq_zero hz, trivial⟩
  · have hz := Bool.eq_false_iff.mpr hz
    obtain rfl := Option.some.inj h
    have hl := sml_le h2
    refine e31 (exp_loop (m := m - 1) (by exact leC hm rfl) (.d (enc a)) (.ol []) (List.replicate 10 .un) (sumParts a) [] .un .un .un h1 (by simp only [List.length_nil]; exact le0 hl rfl)) fun s3 s4 s5 e => ?_
    cases a with
    | sum us => exact run_ok (by exact Nat.le_of_lt hm) (tr := [.b false, .f none (.d (enc (.sum us)) :: .ol [] :: .ol (encs ([] ++ sumParts (.sum us))) :: s3 :: s4 :: s5 :: List.replicate 10 .un), .b true]) rfl rfl rfl ⟨ceq_is rfl, e, eq_zero hz, trivial⟩
    | num p q => exact run_ok (by exact Nat.le_of_lt hm) (tr := [.b false, .f none (.d (enc (.num p q)) :: .ol [] :: .ol (encs ([] ++ sumParts (.num p q))) :: s3 :: s4 :: s5 :: List.replicate 10 .un), .b true]) rfl rfl rfl ⟨ceq_is rfl, e, eq_zero hz, trivial⟩
    | x => exact run_ok (by exact Nat.le_of_lt hm) (tr := [.b false, .f none (.d (enc (.x)) :: .ol [] :: .ol (encs ([] ++ sumParts (.x))) :: s3 :: s4 :: s5 :: List.replicate 10 .un), .b true]) rfl rfl rfl ⟨ceq_is rfl, e, eq_zero hz, trivial⟩
    | prod us => exact run_ok (by exact Nat.le_of_lt hm) (tr := [.b false, .f none (.d (enc (.prod us)) :: .ol [] :: .ol (encs ([] ++ sumParts (.prod us))) :: s3 :: s4 :: s5 :: List.replicate 10 .un), .b true]) rfl rfl rfl ⟨ceq_is rfl, e, eq_zero hz, trivial⟩
    | pow b c => exact run_ok (by exact Nat.le_of_lt hm) (tr := [.b false, .f none (.d (enc (.pow b c)) :: .ol [] :: .ol (encs ([] ++ sumParts (.pow b c))) :: s3 :: s4 :: s5 :: List.replicate 10 .un), .b true]) rfl rfl rfl ⟨ceq_is rfl, e, eq_zero hz, trivial⟩
    | call f b => exact run_ok (by exact Nat.le_of_lt hm) (tr := [.b false, .f none (.d (enc (.call f b)) :: .ol [] :: .ol (encs ([] ++ sumParts (.call f b))) :: s3 :: s4 :: s5 :: List.replicate 10 .un), .b true]) rfl rfl rfl ⟨ceq_is rfl, e, eq_zero hz, trivial⟩
theorem log_ok {m : Nat} {a r : Tm} (hm : 2 ≤ m) (h : callOf .log a = some r) : (Kn m).call 404 [enc a] = some (enc r) := by
  refine and2 (if_not h) fun hz h => if_or h (fun ho h => ?_) fun ho h => ?_
  · have hz := Bool.eq_false_iff.mpr hz
    obtain rfl := Option.some.inj h
    exact run_ok (by exact Nat.le_of_lt hm) (tr := [.b false, .b true]) rfl rfl rfl ⟨eq_one ho, eq_zero hz, trivial⟩
  · have hz := Bool.eq_false_iff.mpr hz
    have ho := Bool.eq_false_iff.mpr ho
    have out : isCallOf .exp a = false → (Kn m).call 404 [enc a] = some (enc (.call .log a)) := fun q => run_ok (by exact Nat.le_of_lt hm) (tr := [.b false, .b false, .c (.bool false)]) rfl rfl rfl ⟨one_call_is (g := .exp) (by exact leC hm rfl) q, eq_one ho, eq_zero hz, trivial⟩
    cases a with
    | call g b =>
      cases g with
      | exp => obtain rfl := Option.some.inj h; exact run_ok (by exact Nat.le_of_lt hm) (tr := [.b false, .b false, .c (.bool true)]) rfl rfl rfl ⟨one_call_is (g := .exp) (by exact leC hm rfl) rfl, eq_one ho, eq_zero hz, trivial⟩
      | _ => obtain rfl := Option.some.inj h; exact out rfl
    | _ => obtain rfl := Option.some.inj h; exact out rfl
theorem begins_ok {m : Nat} {t : Tm} {b : Bool} (hm : 2 ≤ m) (h : beginsBelow t = some b) : (Kn m).call 385 [enc t] = some (.bool b) := by
  have out : ∀ (u : Tm) (r : Q × Tm), numberAndRest u = some r → decide (r.1.1 < 0) = b → (u = t ∧ isSum t = false ∨ ∃ l, t = .sum (u :: l)) → (Kn m).call 385 [enc t] = some (.bool b) := fun u r hr hb hu => by
    obtain ⟨q, rest⟩ := r
    rcases hu with ⟨rfl, hs⟩ | ⟨l, rfl⟩
    · cases u with
      | sum us => exact tFa hs
      | num p s => exact run_ok (by exact Nat.le_of_lt hm) (tr := [.c (.tuple [encQ q, enc rest]), .b b]) rfl rfl rfl ⟨clt_is hb, nr_ok (by exact leC hm rfl) hr, trivial⟩
      | x => exact run_ok (by exact Nat.le_of_lt hm) (tr := [.c (.tuple [encQ q, enc rest]), .b b]) rfl rfl rfl ⟨clt_is hb, nr_ok (by exact leC hm rfl) hr, trivial⟩
      | prod us => exact run_ok (by exact Nat.le_of_lt hm) (tr := [.c (.tuple [encQ q, enc rest]), .b b]) rfl rfl rfl ⟨clt_is hb, nr_ok (by exact leC hm rfl) hr, trivial⟩
      | pow u v => exact run_ok (by exact Nat.le_of_lt hm) (tr := [.c (.tuple [encQ q, enc rest]), .b b]) rfl rfl rfl ⟨clt_is hb, nr_ok (by exact leC hm rfl) hr, trivial⟩
      | call f a => exact run_ok (by exact Nat.le_of_lt hm) (tr := [.c (.tuple [encQ q, enc rest]), .b b]) rfl rfl rfl ⟨clt_is hb, nr_ok (by exact leC hm rfl) hr, trivial⟩
    · exact run_ok (by exact Nat.le_of_lt hm) (tr := [.c (.tuple [encQ q, enc rest]), .b b]) rfl rfl rfl ⟨clt_is hb, nr_ok (by exact leC hm rfl) hr, trivial⟩
  have fin : below t = some b → isSum t = false → (Kn m).call 385 [enc t] = some (.bool b) := fun h hs => mapE h fun r hr hb => out _ r hr hb (.inl ⟨rfl, hs⟩)
  cases t with
  | sum ts => cases ts with
    | nil => exact noS h
    | cons a l => exact mapE h fun r hr hb => out a r hr hb (.inr ⟨l, rfl⟩)
  | num => exact fin h rfl
  | x => exact fin h rfl
  | prod => exact fin h rfl
  | pow => exact fin h rfl
  | call => exact fin h rfl
theorem call_of_ok {m : Nat} {f : Fn} {a r : Tm} (hm : 3 ≤ m) (h : callOf f a = some r) : (Kn m).call 418 [.str f.str, .list [enc a]] = some (enc r) := by
  cases f with
  | exp => exact run_ok (by exact leA hm rfl) (tr := [.b false, .c (enc r)]) rfl rfl rfl ⟨exp_ok (by exact leC hm rfl) h, cne_is rfl, trivial⟩
  | log => exact run_ok (by exact leA hm rfl) (tr := [.b false, .c (enc r)]) rfl rfl rfl ⟨log_ok (by exact leC hm rfl) h, cne_is rfl, trivial⟩
  | sin =>
    refine if_or h (fun hz h => ?_) fun hz h => bindE h fun b hb h => and2 (if_not h) fun hf h => ?_
    · obtain rfl := Option.some.inj h
      exact run_ok (by exact leA hm rfl) (tr := [.b false, .b true]) rfl rfl rfl ⟨eq_zero hz, cne_is rfl, trivial⟩
    · have hz := Bool.eq_false_iff.mpr hz
      obtain rfl := Option.some.inj h
      cases b with
      | true => exact absurd rfl hf
      | false => exact run_ok (by exact leA hm rfl) (tr := [.b false, .b false, .c (.bool false)]) rfl rfl rfl ⟨begins_ok (by exact leC hm rfl) hb, eq_zero hz, cne_is rfl, trivial⟩
  | cos =>
    refine if_or h (fun hz h => ?_) fun hz h => bindE h fun b hb h => and2 (if_not h) fun hf h => ?_
    · obtain rfl := Option.some.inj h
      exact run_ok (by exact leA hm rfl) (tr := [.b false, .b true]) rfl rfl rfl ⟨eq_zero hz, cne_is rfl, trivial⟩
    · have hz := Bool.eq_false_iff.mpr hz
      obtain rfl := Option.some.inj h
      cases b with
      | true => exact absurd rfl hf
      | false => exact run_ok (by exact leA hm rfl) (tr := [.b false, .b false, .c (.bool false)]) rfl rfl rfl ⟨begins_ok (by exact leC hm rfl) hb, eq_zero hz, cne_is rfl, trivial⟩
  | sinh => obtain rfl := Option.some.inj h; exact run_ok (by exact leA hm rfl) (tr := [.b false]) rfl rfl rfl ⟨cne_is rfl, trivial⟩
  | cosh => obtain rfl := Option.some.inj h; exact run_ok (by exact leA hm rfl) (tr := [.b false]) rfl rfl rfl ⟨cne_is rfl, trivial⟩
noncomputable def b_expo : List CS := [.cond (.cmp .Eq (.idx (.v 3) (.k (.int 0))) (.k (.str "num"))) [.asg 1 (.e (.call 83 [(.v 1), (.tup [(.idx (.v 3) (.k (.int 1))), (.idx (.v 3) (.k (.int 2)))])]))] [.asgU [4, 5] (.call 345 [(.v 3)]), .setv 2 (.v 4) (.ite (.inv (.v 4) 2) (.call 331 [(.lst [(.idx (.v 2) (.v 4)), (.v 5)])]) (.v 5))]]
noncomputable def b_make : List CS := [.asg 8 (.e (.call 357 [(.v 4), (.v 5)])), .cond (.cmp .Eq (.idx (.v 8) (.k (.int 0))) (.k (.str "num"))) [.asg 1 (.e (.call 83 [(.v 1), (.tup [(.idx (.v 8) (.k (.int 1))), (.idx (.v 8) (.k (.int 2)))])]))] [.asg 7 (.e (.and [(.v 7), (.cmp .NotEq (.idx (.v 8) (.k (.int 0))) (.k (.str "prod"))), (.cmp .Eq (.idx (.call 345 [(.v 8)]) (.k (.int 0))) (.v 4))])), .app 6 (.v 8)]]
theorem expo_loop {m : Nat} (hm : 78 ≤ m) (P : Slot) (R : St) : ∀ (ts : List Tm) (q q' : Q) (es es' : List (Tm × Tm)) (s3 s4 s5 : Slot), expoLoop ts q es = some (q', es') → es.length + ts.length ≤ 100000 →
    ∃ s3' s4' s5', forL (execs (Kn m) b_expo) (.one 3) (encs ts) (P :: .d (encQ q) :: .od (encC enc es) :: s3 :: s4 :: s5 :: R) = some (none, P :: .d (encQ q') :: .od (encC enc es') :: s3' :: s4' :: s5' :: R)
  | [], q, q', es, es', s3, s4, s5, h, _ => by
    obtain ⟨rfl, rfl⟩ := some2 h
    exact ⟨s3, s4, s5, rfl⟩
  | t :: r, q, q', es, es', s3, s4, s5, h, hl => by
    simp only [List.length_cons] at hl
    have other : isNum t = false → (if kf (asPower t).1 then (expoPut t es).bind fun es' => expoLoop r q es' else none) = some (q', es') →
        ∃ s3' s4' s5', forL (execs (Kn m) b_expo) (.one 3) (encs (t :: r)) (P :: .d (encQ q) :: .od (encC enc es) :: s3 :: s4 :: s5 :: R) = some (none, P :: .d (encQ q') :: .od (encC enc es') :: s3' :: s4' :: s5' :: R) := fun hn h => by
      refine and2 (if_some h) fun hk h => bindE h fun es1 hes h => ?_
      have hok : (keyOk (enc (asPower t).1) && lenOk (encC enc es)) = true := by rw [key_enc hk]; exact lenOk_le'.mpr (by rw [encC_len]; exact leF hl rfl)
      have hap := as_power_ok (m := m) (t := t) (by exact leA hm rfl)
      cases hlook : lookC (asPower t).1 es with
      | none =>
        have := putC_len (asPower t).1 (asPower t).2 es
        have he : es1 = putC (asPower t).1 (asPower t).2 es := by unfold expoPut at hes; rw [hlook] at hes; exact (Option.some.inj hes).symm
        subst he
        refine e31 (expo_loop hm P R r q q' _ es' (.d (enc t)) (.d (enc (asPower t).1)) (.d (enc (asPower t).2)) h (by exact nle (fk (c3 es.length r.length ((putC (asPower t).fst (asPower t).snd es).length)) [(1, .add (.var 0) (.add (.var 1) (.num 1)), .num 100000), (1, .var 2, .add (.var 0) (.num 1)), (1, .add (.num 100000) (.num 1), .add (.var 2) (.var 1))] rfl (nl hl) (nl this)))) fun s3' s4' s5' e => ?_
        rw [← put_enc enc] at e
        have hin : keyOk (enc (asPower t).1) = true ∧ (lookD (encC enc es) (enc (asPower t).1)).isSome = false := ⟨key_enc hk, by rw [look_enc, hlook]; rfl⟩
        refine ⟨s3', s4', s5', ?_⟩
        rw [encs]
        refine for_step (st1 := P :: .d (encQ q) :: .od (encC enc es) :: .d (enc t) :: s4 :: s5 :: R) rfl ?_ e
        rw [enc_kd t] at hap ⊢
        exact rn_ok (tr := [.qq false, .c (.tuple [enc (asPower t).1, enc (asPower t).2]), .b false]) rfl ⟨hok, hin, hap, not_num hn, trivial⟩
      | some e0 =>
        have hes2 : (gsum [e0, (asPower t).2]).map (fun e' => putC (asPower t).1 e' es) = some es1 := by unfold expoPut at hes; rw [hlook] at hes; exact hes
        refine mapE hes2 fun e1 hg eq0 => ?_; subst eq0
        have := putC_len (asPower t).1 e1 es
        refine e31 (expo_loop hm P R r q q' _ es' (.d (enc t)) (.d (enc (asPower t).1)) (.d (enc (asPower t).2)) h (by exact nle (fk (c3 es.length r.length ((putC (asPower t).fst e1 es).length)) [(1, .add (.var 0) (.add (.var 1) (.num 1)), .num 100000), (1, .var 2, .add (.var 0) (.num 1)), (1, .add (.num 100000) (.num 1), .add (.var 2) (.var 1))] rfl (nl hl) (nl this)))) fun s3' s4' s5' e => ?_
        rw [← put_enc enc] at e
        have hlk : lookD (encC enc es) (enc (asPower t).1) = some (enc e0) := by rw [look_enc, hlook]; rfl
        have hin : keyOk (enc (asPower t).1) = true ∧ (lookD (encC enc es) (enc (asPower t).1)).isSome = true := ⟨key_enc hk, by rw [hlk]; rfl⟩
        have hgs : (Kn m).call 331 [.list [enc e0, enc (asPower t).2]] = some (enc e1) := gsum_ok hm hg
        refine ⟨s3', s4', s5', ?_⟩
        refine for_step (st1 := P :: .d (encQ q) :: .od (encC enc es) :: .d (enc t) :: s4 :: s5 :: R) rfl ?_ e
        rw [enc_kd t] at hap ⊢
        exact rn_ok (tr := [.qq false, .c (.tuple [enc (asPower t).1, enc (asPower t).2]), .b true, .iv (enc e0), .c (enc e1)]) rfl ⟨hok, hgs, ⟨key_enc hk, hlk⟩, hin, hap, not_num hn, trivial⟩
    cases t with
    | num p s =>
      refine bindE h fun q1 hq h => ?_
      refine e31 (expo_loop hm P R r q1 q' es es' (.d (enc (.num p s))) s4 s5 h (by exact Nat.le_of_lt hl)) fun s3' s4' s5' e => ?_
      refine ⟨s3', s4', s5', ?_⟩
      exact for_step (st1 := P :: .d (encQ q) :: .od (encC enc es) :: .d (enc (.num p s)) :: s4 :: s5 :: R) rfl (rn_ok (tr := [.c (encQ q1)]) rfl ⟨rmul_ok (by exact leA hm rfl) hq, trivial⟩) e
    | x => exact other rfl h
    | sum us => exact other rfl h
    | prod us => exact other rfl h
    | pow u v => exact other rfl h
    | call f u => exact other rfl h
theorem make_loop {m : Nat} (hm : 4 ≤ m) {pw : Tm → Tm → Option Tm} (hp : ∀ b e r, pw b e = some r → (Kn m).call 357 [enc b, enc e] = some (enc r)) (P S2 S3 : Slot) (R : St) : ∀ (es : List (Tm × Tm)) (q q' : Q) (f f' : List Tm) (d d' : Bool) (s4 s5 s8 : Slot), makeLoop pw es q f d = some (q', f', d') → f.length + es.length ≤ 100000 →
    ∃ s4' s5' s8', forL (execs (Kn m) b_make) (.two 4 5) ((encC enc es).map fun p => .tuple [p.1, p.2]) (P :: .d (encQ q) :: S2 :: S3 :: s4 :: s5 :: .ol (encs f) :: .d (.bool d) :: s8 :: R) = some (none, P :: .d (encQ q') :: S2 :: S3 :: s4' :: s5' :: .ol (encs f') :: .d (.bool d') :: s8' :: R)
  | [], q, q', f, f', d, d', s4, s5, s8, h, _ => by
    cases h
    exact ⟨s4, s5, s8, for_nil⟩
  | (b, e) :: t, q, q', f, f', d, d', s4, s5, s8, h, hl => by
    simp only [List.length_cons] at hl
    refine bindE h fun mm hmm h => ?_
    · have hpw := hp b e mm hmm
      have other : isNum mm = false → (if kf b then makeLoop pw t q (f ++ [mm]) (d && !isProd mm && teq (asPower mm).1 b) else none) = some (q', f', d') → ∃ s4' s5' s8', forL (execs (Kn m) b_make) (.two 4 5) ((encC enc ((b, e) :: t)).map fun p => .tuple [p.1, p.2]) (P :: .d (encQ q) :: S2 :: S3 :: s4 :: s5 :: .ol (encs f) :: .d (.bool d) :: s8 :: R) = some (none, P :: .d (encQ q') :: S2 :: S3 :: s4' :: s5' :: .ol (encs f') :: .d (.bool d') :: s8' :: R) := fun hn h => by
        refine and2 (if_some h) fun hk h => ?_
        refine e31 (make_loop hm hp P S2 S3 R t q q' (f ++ [mm]) f' _ d' (.d (enc b)) (.d (enc e)) (.d (enc mm)) h (by simp only [List.length_append, List.length_cons, List.length_nil]; exact leZ hl)) fun s4' s5' s8' e1 => ?_
        rw [encs_append f [mm], show encs [mm] = [enc mm] from rfl] at e1
        refine ⟨s4', s5', s8', for_step (st1 := P :: .d (encQ q) :: S2 :: S3 :: .d (enc b) :: .d (enc e) :: .ol (encs f) :: .d (.bool d) :: s8 :: R) rfl ?_ e1⟩
        have hap := as_power_ok (m := m) (t := mm) (by exact leA hm rfl)
        have hdp : dp b ≤ 64 := by have := Nat.le_of_ble_eq_true hk; exact leE this rfl
        have hls := lenSnoc (acc := f) (x := enc mm) (by exact leP hl rfl)
        cases d with
        | false =>
          rw [enc_kd mm] at hpw hls ⊢
          exact rn_ok (tr := [.c (.tuple (.str (kd mm) :: tl mm)), .qq false]) rfl ⟨hls, not_num hn, hpw, trivial⟩
        | true =>
          cases hpr : isProd mm with
          | true =>
            rw [enc_kd mm] at hpw hls ⊢
            exact rn_ok (tr := [.c (.tuple (.str (kd mm) :: tl mm)), .qq false, .qq false]) rfl ⟨hls, prod_is hpr, not_num hn, hpw, trivial⟩
          | false =>
            cases ht : teq (asPower mm).1 b with
            | true =>
              rw [enc_kd mm] at hpw hls hap ⊢
              exact rn_ok (tr := [.c (.tuple (.str (kd mm) :: tl mm)), .qq false, .qq true, .c (.tuple [enc (asPower mm).1, enc (asPower mm).2]), .qq true]) rfl ⟨hls, eq_enc (.inr hdp) ht, hap, prod_is hpr, not_num hn, hpw, trivial⟩
            | false =>
              rw [enc_kd mm] at hpw hls hap ⊢
              exact rn_ok (tr := [.c (.tuple (.str (kd mm) :: tl mm)), .qq false, .qq true, .c (.tuple [enc (asPower mm).1, enc (asPower mm).2]), .qq false]) rfl ⟨hls, eq_enc (.inr hdp) ht, hap, prod_is hpr, not_num hn, hpw, trivial⟩
      cases mm with
      | num p r =>
        refine bindE h fun q1 hq h => ?_
        refine e31 (make_loop hm hp P S2 S3 R t q1 q' f f' d d' (.d (enc b)) (.d (enc e)) (.d (enc (.num p r))) h (by exact Nat.le_of_lt hl)) fun s4' s5' s8' e1 => ?_
        exact ⟨s4', s5', s8', for_step (st1 := P :: .d (encQ q) :: S2 :: S3 :: .d (enc b) :: .d (enc e) :: .ol (encs f) :: .d (.bool d) :: s8 :: R) rfl (rn_ok (tr := [.c (enc (.num p r)), .c (encQ q1)]) rfl ⟨rmul_ok (by exact Nat.le_of_lt hm) hq, hpw, trivial⟩) e1⟩
      | x => exact other rfl h
      | sum us => exact other rfl h
      | prod us => exact other rfl h
      | pow u v => exact other rfl h
      | call g u => exact other rfl h
noncomputable def GpOk (n : Nat) : Prop := ∀ m, n + 80 ≤ m →
  (∀ ps r, gprod n ps = some r → (Kn m).call 352 [.list (encs ps)] = some (enc r)) ∧ (∀ b e r, powerOf n b e = some r → (Kn m).call 357 [enc b, enc e] = some (enc r))
theorem expoPut_len {t : Tm} {es es' : List (Tm × Tm)} (h : expoPut t es = some es') : es'.length ≤ es.length + 1 := by
  unfold expoPut at h
  cases hl : lookC (asPower t).1 es with
  | none => rw [hl] at h; exact Option.some.inj h ▸ putC_len _ _ _
  | some e0 => rw [hl] at h; exact mapE h fun e1 _ eq0 => eq0 ▸ putC_len _ _ _
theorem lenX {a b c d : Nat} (h1 : a ≤ b + c) (h2 : b ≤ d + 1) : a ≤ d + (c + 1) := by exact nle (fk (c4 a b c d) [(1, .var 0, .add (.var 1) (.var 2)), (1, .var 1, .add (.var 3) (.num 1)), (1, .add (.add (.var 3) (.add (.var 2) (.num 1))) (.num 1), .var 0)] rfl (nl h1) (nl h2))
theorem expoLoop_len : ∀ (ts : List Tm) (q q' : Q) (es es' : List (Tm × Tm)), expoLoop ts q es = some (q', es') → es'.length ≤ es.length + ts.length
  | [], q, q', es, es', h => by obtain ⟨rfl, rfl⟩ := some2 h; exact Nat.le_refl _
  | t :: r, q, q', es, es', h => by
    have other : (if kf (asPower t).1 then (expoPut t es).bind fun es' => expoLoop r q es' else none) = some (q', es') → es'.length ≤ es.length + (t :: r).length := fun h =>
      and2 (if_some h) fun _ h => bindE h fun es1 he h => lenX (expoLoop_len r _ _ _ _ h) (expoPut_len he)
    cases t with
    | num p s => exact bindE h fun q1 _ h => Nat.le_succ_of_le (expoLoop_len r _ _ _ _ h)
    | x => exact other h
    | sum us => exact other h
    | prod us => exact other h
    | pow u v => exact other h
    | call f u => exact other h
theorem makeLoop_len {pw : Tm → Tm → Option Tm} : ∀ (es : List (Tm × Tm)) (q q' : Q) (f f' : List Tm) (d d' : Bool), makeLoop pw es q f d = some (q', f', d') → f'.length ≤ f.length + es.length
  | [], q, q', f, f', d, d', h => by cases h; exact Nat.le_refl _
  | be :: t, q, q', f, f', d, d', h => by
    refine bindE h fun m hm h => ?_
    have other : (if kf be.1 then makeLoop pw t q (f ++ [m]) (d && !isProd m && teq (asPower m).1 be.1) else none) = some (q', f', d') → f'.length ≤ f.length + (be :: t).length := fun h =>
      and2 (if_some h) fun _ h => lenX (makeLoop_len t _ _ _ _ _ _ h) (by rw [List.length_append]; exact Nat.le_refl _)
    cases m with
    | num p s => exact bindE h fun q1 _ h => Nat.le_succ_of_le (makeLoop_len t _ _ _ _ _ _ h)
    | x => exact other h
    | sum us => exact other h
    | prod us => exact other h
    | pow u v => exact other h
    | call f u => exact other h
noncomputable def e_gprod : List CS := fc_gathered_product.body.drop 7
theorem gprod_end {m : Nat} (hm : 3 ≤ m) {s : List Tm} {q : Q} {r : Tm} {a c d e f g h : Slot} {R : St} (hr : gprodT q s = some r) : execs (Kn m) e_gprod (a :: .d (encQ q) :: c :: d :: e :: f :: .d (.list (encs s)) :: g :: h :: R) = some (some (enc r), a :: .d (encQ q) :: c :: d :: e :: f :: .d (.list (encs s)) :: g :: h :: R) := by
  unfold gprodT at hr
  cases hz : ieq q.1 0 with
  | true =>
    rw [hz] at hr
    obtain rfl := Option.some.inj hr
    match s with
    | [] => exact rn_ok (tr := [.b true, .c (enc (.num q.1 q.2))]) rfl ⟨number_term_ok (by exact leA hm rfl), ceq_is rfl, trivial⟩
    | t :: u => exact rn_ok (tr := [.b false, .b true, .c (enc (.num q.1 q.2))]) rfl ⟨number_term_ok (by exact leA hm rfl), ceq_is hz, ceq_is (ieq_f.mpr (by show (((encs (t :: u)).length : Nat) : Int) ≠ 0; rw [encs_length]; simp only [List.length_cons]; exact of_decide_eq_true rfl)), trivial⟩
  | false =>
    rw [hz] at hr
    match s, hr with
    | [], hr => obtain rfl := Option.some.inj hr; exact rn_ok (tr := [.b true, .c (enc (.num q.1 q.2))]) rfl ⟨number_term_ok (by exact leA hm rfl), ceq_is rfl, trivial⟩
    | [t], hr => exact rn_ok (tr := [.b false, .b false, .b true, .c (enc r)]) rfl ⟨with_number_ok (t := t) (by exact Nat.le_of_lt hm) hr, ceq_is rfl, ceq_is hz, ceq_is rfl, trivial⟩
    | t :: u :: w, hr => exact rn_ok (tr := [.b false, .b false, .b false, .c (enc r)]) rfl ⟨with_number_ok (t := .prod (t :: u :: w)) (by exact Nat.le_of_lt hm) hr, ceq_is (ieq_f.mpr (len2 t u w).2), ceq_is hz, ceq_is (ieq_f.mpr (len2 t u w).1), trivial⟩
theorem gprod_ok {n m : Nat} (ih : ∀ k, k < n → GpOk k) (hm : n + 80 ≤ m) {ps : List Tm} {r : Tm} (h : gprod n ps = some r) : (Kn m).call 352 [.list (encs ps)] = some (enc r) := by
  cases n with
  | zero => exact noS h
  | succ n =>
    refine and2 (ih n (by exact Nat.le_refl _) (m - 1) (by exact leI hm)) fun ig ip => ?_
    refine and2 (if_some h) fun hs h => bindE h fun ⟨q, es⟩ he h => ?_
    · have hl := sml_le hs
      have l1 := expoLoop_len _ _ _ _ _ he
      simp only [List.length_nil] at l1
      refine e31 (expo_loop (m := m - 1) (by exact leC hm rfl) (.d (.list (encs ps))) (List.replicate 15 .un) (flatProd ps) q11 q [] es .un .un .un he (by simp only [List.length_nil]; exact le0 hl rfl)) fun s3 s4 s5 e1 => ?_
      have p1 : execs (Kn (m - 1)) (fc_gathered_product.body.take 2) (fst0 fc_gathered_product [.list (encs ps)]) = some (none, .d (.list (encs ps)) :: .d (encQ q) :: .od (encC enc es) :: s3 :: s4 :: s5 :: List.replicate 15 .un) :=
        rn_ok (tr := [.c (.list (encs (flatProd ps))), .f none (.d (.list (encs ps)) :: .d (encQ q) :: .od (encC enc es) :: s3 :: s4 :: s5 :: List.replicate 15 .un)]) rfl ⟨e1, flatP_ok (by exact leC hm rfl) hs, trivial⟩
      refine if_or h (fun hz h => ?_) fun hz h => bindE h fun ⟨q2, found, done⟩ hmk h => ?_
      · obtain rfl := Option.some.inj h
        have p2 : execs (Kn (m - 1)) (fc_gathered_product.body.drop 2) (.d (.list (encs ps)) :: .d (encQ q) :: .od (encC enc es) :: s3 :: s4 :: s5 :: List.replicate 15 .un) = some (some (enc zero), .d (.list (encs ps)) :: .d (encQ q) :: .od (encC enc es) :: s3 :: s4 :: s5 :: List.replicate 15 .un) := rn_ok (tr := [.b true]) rfl ⟨ceq_is hz, trivial⟩
        exact call_ex (by exact leA hm rfl) rfl rfl (execs_app p1 p2)
      · have hz : ieq q.1 0 = false := Bool.eq_false_iff.mpr hz
        · skip
          have l2 := makeLoop_len _ _ _ _ _ _ _ hmk
          simp only [List.length_nil] at l2
          refine e31 (make_loop (m := m - 1) (by exact leC hm rfl) (fun b e r hr => ip b e r hr) (.d (.list (encs ps))) .un s3 (List.replicate 12 .un) es q q2 [] found true done s4 s5 .un hmk (by simp only [List.length_nil]; exact nle (fk (c2 ((flatProd ps).length) es.length) [(1, .var 0, .num 1000), (1, .var 1, .add (.num 0) (.var 0)), (1, .add (.num 100000) (.num 1), .add (.num 0) (.var 1))] rfl (nl hl) (nl l1)))) fun t4 t5 t8 e2 => ?_
          have p2 : execs (Kn (m - 1)) ((fc_gathered_product.body.drop 2).take 3) (.d (.list (encs ps)) :: .d (encQ q) :: .od (encC enc es) :: s3 :: s4 :: s5 :: List.replicate 15 .un) = some (none, .d (.list (encs ps)) :: .d (encQ q2) :: .un :: s3 :: t4 :: t5 :: .ol (encs found) :: .d (.bool done) :: t8 :: List.replicate 12 .un) :=
            rn_ok (tr := [.b false, .f none (.d (.list (encs ps)) :: .d (encQ q2) :: .un :: s3 :: t4 :: t5 :: .ol (encs found) :: .d (.bool done) :: t8 :: List.replicate 12 .un)]) rfl ⟨e2, ceq_is hz, trivial⟩
          cases done with
          | false =>
            refine and2 (if_some h) fun hsf h => ?_
            have p3 : execs (Kn (m - 1)) (fc_gathered_product.body.drop 5) (.d (.list (encs ps)) :: .d (encQ q2) :: .un :: s3 :: t4 :: t5 :: .ol (encs found) :: .d (.bool false) :: t8 :: List.replicate 12 .un) = some (some (enc r), .d (.list (encs ps)) :: .d (encQ q2) :: .un :: s3 :: t4 :: t5 :: .d (.list (encs found)) :: .d (.bool false) :: t8 :: List.replicate 12 .un) :=
              rn_ok (tr := [.c (enc (.num q2.1 q2.2)), .c (enc r)]) rfl ⟨ig (.num q2.1 q2.2 :: found) r h, lenOk_le'.mpr (by rw [List.length_append, encs_length]; simp only [List.length_cons, List.length_nil]; exact nle (fk (c3 ((flatProd ps).length) es.length found.length) [(1, .var 0, .num 1000), (1, .var 1, .add (.num 0) (.var 0)), (1, .var 2, .add (.num 0) (.var 1)), (1, .add (.num 1048576) (.num 1), .add (.add (.num 0) (.num 1)) (.var 2))] rfl (nl hl) (nl l1) (nl l2))), number_term_ok (by exact leC hm rfl), trivial⟩
            exact call_ex (by exact leA hm rfl) rfl rfl (execs_app p1 (execs_app (b := fc_gathered_product.body.drop 5) p2 p3))
          | true =>
            refine bindE h fun s hso h => ?_
            have l3 := sort_len _ _ _ hso
            have p3 : execs (Kn (m - 1)) ((fc_gathered_product.body.drop 5).take 2) (.d (.list (encs ps)) :: .d (encQ q2) :: .un :: s3 :: t4 :: t5 :: .ol (encs found) :: .d (.bool true) :: t8 :: List.replicate 12 .un) = some (none, .d (.list (encs ps)) :: .d (encQ q2) :: .un :: s3 :: t4 :: t5 :: .d (.list (encs s)) :: .d (.bool true) :: t8 :: List.replicate 12 .un) :=
              rn_ok (tr := [.c (.list (encs s))]) rfl ⟨sort_ok 12 (m - 1) _ _ (by exact leC hm rfl) (by exact nle (fk (c3 ((flatProd ps).length) es.length found.length) [(1, .var 0, .num 1000), (1, .var 1, .add (.num 0) (.var 0)), (1, .var 2, .add (.num 0) (.var 1)), (1, .add (.num 1000) (.num 1), .var 2)] rfl (nl hl) (nl l1) (nl l2))) hso, trivial⟩
            exact call_ex (by exact leA hm rfl) rfl rfl (execs_app p1 (execs_app (b := fc_gathered_product.body.drop 5) p2 (execs_app (b := e_gprod) p3 (gprod_end (by exact leC hm rfl) h))))
theorem pow_comp {m n : Nat} (ip : ∀ k, k < n → ∀ b e r, powerOf k b e = some r → (Kn m).call 357 [enc b, enc e] = some (enc r)) {e : Tm} : ∀ (k : Nat), k ≤ n → ∀ (ts l : List Tm) (s1 : Slot), powAll k ts e = some l →
    ∃ s1', compL (compF (evAll (Kn m) []) (ev (Kn m) (.call 357 [(.v 1), (.v 3)]))) (.one 1) (encs ts) [.un, s1, .un, .d (enc e)] = some (encs l, [.un, s1', .un, .d (enc e)])
  | 0, _, ts, l, s1, h => by exact noS h
  | k + 1, hk, ts, l, s1, h => by
    match ts, h with
    | [], h => obtain rfl := Option.some.inj h; exact ⟨s1, by rw [encs]; exact comp_nil⟩
    | t :: r, h =>
      refine bindE h fun a ha h => mapE h fun l' hl eq0 => ?_; subst eq0
      refine e11 (pow_comp ip k (by exact Nat.le_of_lt hk) r l' (.d (enc t)) hl) fun s1' q => ?_
      refine ⟨s1', ?_⟩
      rw [encs, encs]
      exact comp_some (st1 := [.un, .d (enc t), .un, .d (enc e)]) rfl (compF_t evAll0 (en_ok (tr := [.c (enc a)]) rfl ⟨ip k (by exact hk) _ _ _ ha, trivial⟩)) q
theorem powAll_len {e : Tm} : ∀ (k : Nat) (ts l : List Tm), powAll k ts e = some l → l.length = ts.length
  | 0, ts, l, h => noS h
  | k + 1, [], l, h => by obtain rfl := Option.some.inj h; rfl
  | k + 1, t :: r, l, h => bindE h fun a ha h => mapE h fun l' hl eq0 => eq0 ▸ congrArg (· + 1) (powAll_len k r l' hl)
theorem power_rest {m : Nat} {b e : Tm} (hm : 2 ≤ m) (h1 : isZero e = false) (h2 : isOne e = false) (h3 : teq b expOne = false) (hb : (match b with
      | .x => true
      | .sum _ => true
      | .call f _ => !Nat.beq f.code Fn.exp.code
      | _ => false) = true) : (Kn m).call 357 [enc b, enc e] = some (enc (.pow b e)) := by
  have q1 := eq_zero h1
  have q2 := eq_one h2
  have q3 : cmpV .Eq (enc b) (enc expOne) = some false := eq_enc (.inr (by decide)) h3
  have hw := is_whole_ok (m := m - 1) (t := e) (by exact leC hm rfl)
  have hc : (Kn (m - 1)).call 338 [enc b, .str Fn.exp.str] = some (.bool false) := one_call_is (by exact leC hm rfl) (by
    cases b with
    | call f a => cases f <;> first | rfl | exact fTr hb
    | _ => rfl)
  have kb : cmpV .Eq (.str (kd b)) (.str "num") = some false ∧ cmpV .Eq (.str (kd b)) (.str "prod") = some false ∧ cmpV .Eq (.str (kd b)) (.str "pow") = some false ∧ cmpV .In (.str (kd b)) (.tuple [.str "prod", .str "pow"]) = some false := by
    cases b with
    | x => exact ⟨rfl, rfl, rfl, rfl⟩
    | sum => exact ⟨rfl, rfl, rfl, rfl⟩
    | call => exact ⟨rfl, rfl, rfl, rfl⟩
    | _ => exact fTr hb
  have ke : cmpV .Eq (.str (kd e)) (.str "num") = some (isNum e) := by cases e <;> rfl
  have kw : isNum e = false → isWhole e = false := fun h => by cases e <;> first | rfl | exact tFa h
  show _ = some (PyData.tuple [.str "pow", enc b, enc e])
  rw [enc_kd e] at q1 q2 hw
  rw [enc_kd b] at q3 hc
  rw [enc_kd b, enc_kd e]
  have lm : 1 ≤ m := Nat.le_of_lt hm
  cases hn : isNum e with
  | false =>
    rw [hn] at ke
    rw [kw hn] at hw
    exact run_ok lm (tr := [.b false, .b false, .b false, .qq false, .c (.bool false), .c (.bool false), .c (.bool false), .qq false]) rfl rfl rfl ⟨ke, hw, hw, hw, kb.1, q3, q2, q1, trivial⟩
  | true =>
    rw [hn] at ke
    cases hq : isWhole e with
    | true =>
      rw [hq] at hw
      exact run_ok lm (tr := [.b false, .b false, .b false, .qq false, .c (.bool true), .qq false, .c (.bool true), .qq false, .c (.bool true), .c (.bool false), .qq true, .qq false, .c (.bool false)]) rfl rfl rfl ⟨hc, kb.2.2.2, ke, hc, hw, kb.2.2.1, hw, kb.2.1, hw, kb.1, q3, q2, q1, trivial⟩
    | false =>
      rw [hq] at hw
      exact run_ok lm (tr := [.b false, .b false, .b false, .qq false, .c (.bool false), .c (.bool false), .c (.bool false), .qq true, .qq false, .c (.bool false)]) rfl rfl rfl ⟨hc, kb.2.2.2, ke, hw, hw, hw, kb.1, q3, q2, q1, trivial⟩
theorem power_ok {n m : Nat} (ih : ∀ k, k < n → GpOk k) (hm : n + 80 ≤ m) {b e r : Tm} (h : powerOf n b e = some r) : (Kn m).call 357 [enc b, enc e] = some (enc r) := by
  cases n with
  | zero => exact noS h
  | succ n =>
    refine and2 (ih n (by exact Nat.le_refl _) (m - 1) (by exact leI hm)) fun ig ip => ?_
    refine if_or h (fun h1 h => ?_) fun h1 h => if_or h (fun h2 h => ?_) fun h2 h => if_or h (fun h3 h => ?_) fun h3 h => ?_
    · refine and2 (if_not h) fun h0 h => ?_
      have h0 := Bool.eq_false_iff.mpr h0
      obtain rfl := Option.some.inj h
      exact run_ok (by exact leA hm rfl) (tr := [.b true, .b false]) rfl rfl rfl ⟨eq_zero h0, eq_zero h1, trivial⟩
    · have h1 := Bool.eq_false_iff.mpr h1
      obtain rfl := Option.some.inj h
      exact run_ok (by exact leA hm rfl) (tr := [.b false, .b true]) rfl rfl rfl ⟨eq_one h2, eq_zero h1, trivial⟩
    · have h1 := Bool.eq_false_iff.mpr h1
      have h2 := Bool.eq_false_iff.mpr h2
      have q3 : cmpV .Eq (enc b) (enc expOne) = some true := eq_enc (.inr (by decide)) h3
      exact run_ok (by exact leA hm rfl) (tr := [.b false, .b false, .b true, .c (enc r)]) rfl rfl rfl ⟨call_of_ok (f := .exp) (by exact leC hm rfl) h, q3, eq_one h2, eq_zero h1, trivial⟩
    · have h1 := Bool.eq_false_iff.mpr h1
      have h2 := Bool.eq_false_iff.mpr h2
      have h3 := Bool.eq_false_iff.mpr h3
      have q3 : cmpV .Eq (enc b) (enc expOne) = some false := eq_enc (.inr (by decide)) h3
      have rest := fun hb => power_rest (m := m) (b := b) (e := e) (by exact leA hm rfl) h1 h2 h3 hb
      cases b with
      | num p q => exact noS h
      | x => obtain rfl := Option.some.inj h; exact rest rfl
      | sum us => obtain rfl := Option.some.inj h; exact rest rfl
      | prod ts =>
        refine and2 (if_some h) fun hws h => and2 (andB hws) fun hw hs => bindE h fun l hl h => ?_
        have hlen := powAll_len _ _ _ hl
        have hsl := sml_le hs
        refine e11 (pow_comp (m := m - 1) (n := n) (fun k hk b e r hr => (ih k (by exact Nat.le_succ_of_le hk) (m - 1) (by exact nle (fk (c4 n m k ((m - 1 : Nat))) [(1, .add (.add (.var 0) (.num 1)) (.num 80), .var 1), (1, .add (.var 2) (.num 1), .var 0), (1, .var 1, .add (.var 3) (.num 1)), (1, .add (.var 3) (.num 1), .add (.var 2) (.num 80))] rfl (nl hm) (nt hk) (nl (sA m 1))))).2 b e r hr) n (Nat.le_refl _) ts l .un hl) fun s1 hc => ?_
        have ck := compK_ok (init := [none, none, none, some 1]) (st := .d (enc (.prod ts)) :: .d (enc e) :: List.replicate 11 .un) hc (lenOk_encs (by exact eqE hlen hsl rfl))
        exact run_ok (by exact leA hm rfl) (tr := [.b false, .b false, .b false, .c (.bool true), .cv (.list (encs l)), .c (enc r)]) rfl rfl rfl ⟨ig l r h, ck, hw ▸ is_whole_ok (by exact leC hm rfl), q3, eq_one h2, eq_zero h1, trivial⟩
      | pow b' e' =>
        refine and2 (if_some h) fun hw h => bindE h fun e2 he2 h => ?_
        exact run_ok (by exact leA hm rfl) (tr := [.b false, .b false, .b false, .c (.bool true), .c (.bool true), .c (enc e2), .c (enc r)]) rfl rfl rfl ⟨ip b' e2 r h, ig [e', e] e2 he2, hw ▸ is_whole_ok (by exact leC hm rfl), hw ▸ is_whole_ok (by exact leC hm rfl), q3, eq_one h2, eq_zero h1, trivial⟩
      | call f a =>
        cases f with
        | exp =>
          refine and2 (if_some h) fun hw h => bindE h fun a2 ha2 h => ?_
          exact run_ok (by exact leA hm rfl) (tr := [.b false, .b false, .b false, .c (.bool true), .c (.bool true), .c (.bool true), .c (.bool true), .c (enc a2), .c (enc r)]) rfl rfl rfl ⟨call_of_ok (f := .exp) (by exact leC hm rfl) h, ig [a, e] a2 ha2, one_call_is (g := .exp) (by exact leC hm rfl) rfl, hw ▸ is_whole_ok (by exact leC hm rfl), hw ▸ is_whole_ok (by exact leC hm rfl), hw ▸ is_whole_ok (by exact leC hm rfl), q3, eq_one h2, eq_zero h1, trivial⟩
        | sin => obtain rfl := Option.some.inj h; exact rest rfl
        | cos => obtain rfl := Option.some.inj h; exact rest rfl
        | log => obtain rfl := Option.some.inj h; exact rest rfl
        | sinh => obtain rfl := Option.some.inj h; exact rest rfl
        | cosh => obtain rfl := Option.some.inj h; exact rest rfl
theorem gps_all (n : Nat) : GpOk n := by
  induction n using Nat.strongRecOn with
  | ind n ih => exact fun m hm => ⟨fun ps r h => gprod_ok ih hm h, fun b e r h => power_ok ih hm h⟩
noncomputable def SimpOk (n : Nat) : Prop := ∀ m, n + 82 ≤ m → ∀ t r, simp n t = some r → (Kn m).call 423 [enc t] = some (enc r)
theorem simps_comp {m n : Nat} (ih : ∀ k, k < n → SimpOk k) (hm : n + 81 ≤ m) : ∀ (k : Nat), k ≤ n → ∀ (ts l : List Tm) (s1 : Slot), simps k ts = some l →
    ∃ s1', compL (compF (evAll (Kn m) []) (ev (Kn m) (.call 423 [(.v 1)]))) (.one 1) (encs ts) [.un, s1, .un] = some (encs l, [.un, s1', .un]) ∧ l.length = ts.length
  | 0, _, ts, l, s1, h => noS h
  | k + 1, hk, ts, l, s1, h => by
    match ts, h with
    | [], h => obtain rfl := Option.some.inj h; exact ⟨s1, by rw [encs]; exact comp_nil, rfl⟩
    | t :: r, h =>
      refine bindE h fun a ha h => mapE h fun l' hl eq0 => ?_; subst eq0
      refine e12 (simps_comp ih hm k (by exact Nat.le_of_lt hk) r l' (.d (enc t)) hl) fun s1' q hlen => ?_
      refine ⟨s1', ?_, by simp only [List.length_cons, hlen]⟩
      rw [encs, encs]
      exact comp_some (st1 := [.un, .d (enc t), .un]) rfl (compF_t evAll0 (en_ok (tr := [.c (enc a)]) rfl ⟨ih k (by exact hk) m (by exact nle (fk (c3 n m k) [(1, .add (.var 0) (.num 81), .var 1), (1, .add (.var 2) (.num 1), .var 0), (1, .add (.var 1) (.num 1), .add (.var 2) (.num 82))] rfl (nl hm) (nl hk))) _ _ ha, trivial⟩)) q
theorem simp_ok {n m : Nat} (ih : ∀ k, k < n → SimpOk k) (hm : n + 82 ≤ m) {t r : Tm} (h : simp n t = some r) : (Kn m).call 423 [enc t] = some (enc r) := by
  cases n with
  | zero => exact noS h
  | succ n =>
    have is := fun t r h => ih n (by exact Nat.le_refl _) (m - 1) (by exact leI hm) t r h
    have gp := gps_all n (m - 1) (by exact nle (fk (c3 n m ((m - 1 : Nat))) [(1, .add (.add (.var 0) (.num 1)) (.num 82), .var 1), (1, .var 1, .add (.var 2) (.num 1)), (1, .add (.var 2) (.num 1), .add (.var 0) (.num 80))] rfl (nl hm) (nl (sA m 1))))
    cases t with
    | num p q =>
      refine mapE h fun r' hr eq0 => ?_; subst eq0
      exact run_ok (by exact leA hm rfl) (tr := [.c (encQ r'), .c (enc (.num r'.1 r'.2))]) rfl rfl rfl ⟨number_term_ok (by exact leC hm rfl), rat_ok (by exact leC hm rfl) hr, trivial⟩
    | x => obtain rfl := Option.some.inj h; exact run_ok (by exact leA hm rfl) (tr := []) rfl rfl rfl trivial
    | pow b e =>
      refine bindE h fun b' hb h => bindE h fun e' he h => ?_
      exact run_ok (by exact leA hm rfl) (tr := [.c (enc b'), .c (enc e'), .c (enc r)]) rfl rfl rfl ⟨gp.2 b' e' r h, is e e' he, is b b' hb, trivial⟩
    | call f a =>
      refine bindE h fun a' ha h => ?_
      have ev1 : ev (Kn (m - 1)) (.call 423 [(.v 1)]) [.un, .d (enc a), .un] = some (enc a', [.un, .d (enc a), .un]) := en_ok (tr := [.c (enc a')]) rfl ⟨is a a' ha, trivial⟩
      have cp : compL (compF (evAll (Kn (m - 1)) []) (ev (Kn (m - 1)) (.call 423 [(.v 1)]))) (.one 1) (encs [a]) [.un, .un, .un] = some (encs [a'], [.un, .d (enc a), .un]) := comp_some (st1 := [.un, .d (enc a), .un]) rfl (compF_t evAll0 ev1) comp_nil
      have ck := compK_ok (init := [none, none, none]) (st := .d (enc (.call f a)) :: .d (.str "call") :: List.replicate 9 .un) cp rfl
      exact run_ok (by exact leA hm rfl) (tr := [.cv (.list (encs [a'])), .c (enc r)]) rfl rfl rfl ⟨call_of_ok (by exact leC hm rfl) h, ck, trivial⟩
    | sum ts =>
      refine and2 (if_some h) fun hs h => bindE h fun l hl h => ?_
      refine e12 (simps_comp (m := m - 1) (n := n) (fun k hk => ih k (by exact Nat.le_succ_of_le hk)) (by exact nle (fk (c3 n m ((m - 1 : Nat))) [(1, .add (.add (.var 0) (.num 1)) (.num 82), .var 1), (1, .var 1, .add (.var 2) (.num 1)), (1, .add (.var 2) (.num 1), .add (.var 0) (.num 81))] rfl (nl hm) (nl (sA m 1)))) n (Nat.le_refl _) ts l .un hl) fun s1 hc hlen => ?_
      have hsl := sml_le hs
      have ck := compK_ok (init := [none, none, none]) (st := .d (enc (.sum ts)) :: .d (.str "sum") :: List.replicate 9 .un) hc (lenOk_encs (by exact eqE hlen hsl rfl))
      exact run_ok (by exact leA hm rfl) (tr := [.cv (.list (encs l)), .c (enc r)]) rfl rfl rfl ⟨gsum_ok (by exact leC hm rfl) h, ck, trivial⟩
    | prod ts =>
      refine and2 (if_some h) fun hs h => bindE h fun l hl h => ?_
      refine e12 (simps_comp (m := m - 1) (n := n) (fun k hk => ih k (by exact Nat.le_succ_of_le hk)) (by exact nle (fk (c3 n m ((m - 1 : Nat))) [(1, .add (.add (.var 0) (.num 1)) (.num 82), .var 1), (1, .var 1, .add (.var 2) (.num 1)), (1, .add (.var 2) (.num 1), .add (.var 0) (.num 81))] rfl (nl hm) (nl (sA m 1)))) n (Nat.le_refl _) ts l .un hl) fun s1 hc hlen => ?_
      have hsl := sml_le hs
      have ck := compK_ok (init := [none, none, none]) (st := .d (enc (.prod ts)) :: .d (.str "prod") :: List.replicate 9 .un) hc (lenOk_encs (by exact eqE hlen hsl rfl))
      exact run_ok (by exact leA hm rfl) (tr := [.cv (.list (encs l)), .c (enc r)]) rfl rfl rfl ⟨gp.1 l r h, ck, trivial⟩
theorem simp_all (n : Nat) : SimpOk n := by
  induction n using Nat.strongRecOn with
  | ind n ih => exact fun m hm t r h => simp_ok ih hm h
theorem inner_ok {m : Nat} {t : Tm} (hm : 1 ≤ m) : (Kn m).call 184 [enc t] = some (.list (encs (inner t))) := by
  cases t with
  | num p q => exact run_ok hm (tr := []) rfl rfl rfl trivial
  | x => exact run_ok hm (tr := []) rfl rfl rfl trivial
  | sum us => exact run_ok hm (tr := []) rfl rfl rfl trivial
  | prod us => exact run_ok hm (tr := []) rfl rfl rfl trivial
  | pow b e => exact run_ok hm (tr := []) rfl rfl rfl trivial
  | call f a => exact run_ok hm (tr := []) rfl rfl rfl trivial
mutual
noncomputable def pre : Tm → List Tm
  | .num p q => [.num p q]
  | .x => [.x]
  | .sum ts => .sum ts :: pres ts
  | .prod ts => .prod ts :: pres ts
  | .pow b e => .pow b e :: (pre b ++ pre e)
  | .call f a => .call f a :: pre a
noncomputable def pres : List Tm → List Tm
  | [] => []
  | t :: r => pre t ++ pres r
end
theorem pres_append (a b : List Tm) : pres (a ++ b) = pres a ++ pres b := by
  induction a with
  | nil => rfl
  | cons t r ih => rw [List.cons_append, pres, pres, ih, List.append_assoc]
theorem szs_append (a b : List Tm) : szs (a ++ b) = szs a + szs b := by
  induction a with
  | nil => rw [List.nil_append, szs, Nat.zero_add]
  | cons t r ih => rw [List.cons_append, szs, szs, ih]; exact Nat.le_antisymm (nle (fk (c3 (sz t) (szs r) (szs b)) [(1, .add (.add (.add (.var 0) (.var 1)) (.var 2)) (.num 1), .add (.var 0) (.add (.var 1) (.var 2)))] rfl )) (nle (fk (c3 (sz t) (szs r) (szs b)) [(1, .add (.add (.var 0) (.add (.var 1) (.var 2))) (.num 1), .add (.add (.var 0) (.var 1)) (.var 2))] rfl ))
theorem pre_inner (t : Tm) : pre t = t :: pres (inner t) := by
  cases t <;> simp [pre, inner, pres]
theorem sz_inner (t : Tm) : sz t = szs (inner t) + 1 := by
  cases t <;> simp [sz, inner, szs]
theorem sz_pos (t : Tm) : 1 ≤ sz t := by rw [sz_inner]; exact Nat.succ_pos _
theorem len_szs (l : List Tm) : l.length ≤ szs l := by
  induction l with
  | nil => simp
  | cons t r ih => have := sz_pos t; rw [szs, List.length_cons]; exact nle (fk (c3 r.length (szs r) (sz t)) [(1, .var 0, .var 1), (1, .num 1, .var 2), (1, .add (.add (.var 2) (.var 1)) (.num 1), .add (.var 0) (.num 1))] rfl (nl ih) (nl this))
theorem encs_reverse (l : List Tm) : encs l.reverse = (encs l).reverse := by
  induction l with
  | nil => simp [encs]
  | cons t r ih => simp [encs, encs_append, ih]
noncomputable def t_all : CE := .cmp .Gt (.len (.v 1)) (.k (.int 0))
noncomputable def b_all : List CS := [.asg 3 (.e (.pop 1)), .app 2 (.v 3), .ext 1 (.rev (.call 184 [(.v 3)]))]
theorem all_loop {m : Nat} (hm : 1 ≤ m) (P : PyData) : ∀ (k : Nat) (S acc : List Tm) (s3 : Slot), szs S ≤ k → acc.length + szs S ≤ 100000 →
    ∃ n s3', whileN (ev (Kn m) t_all) (execs (Kn m) b_all) n [.d P, .ol (encs S.reverse), .ol (encs acc), s3, .un, .un] = some (none, [.d P, .ol [], .ol (encs (acc ++ pres S)), s3', .un, .un])
  | k, [], acc, s3, hk, hl => ⟨1, s3, by rw [pres, List.append_nil]; exact while_stop (en_ok (tr := [.b false]) rfl ⟨cgt_is rfl, trivial⟩)⟩
  | 0, t :: r, acc, s3, hk, hl => by have := sz_pos t; rw [szs] at hk; exact (fk (c2 (sz t) (szs r)) [(1, .add (.var 0) (.var 1), .num 0), (1, .num 1, .var 0), (1, .num 0, .var 1)] rfl (nl hk) (nl this) (n0 (szs r))).elim
  | k + 1, t :: r, acc, s3, hk, hl => by
    rw [szs] at hk hl
    have h1 := sz_inner t
    have h2 := len_szs (inner t)
    have h3 := len_szs r
    refine e21 (all_loop hm P k (inner t ++ r) (acc ++ [t]) (.d (enc t)) (by rw [szs_append]; exact nle (fk (c4 (sz t) (szs r) k (szs (inner t))) [(1, .add (.var 0) (.var 1), .add (.var 2) (.num 1)), (1, .add (.var 3) (.num 1), .var 0), (1, .add (.var 2) (.num 1), .add (.var 3) (.var 1))] rfl (nl hk) (ne h1.symm))) (by rw [szs_append, List.length_append]; simp only [List.length_cons, List.length_nil]; exact nle (fk (c4 acc.length (sz t) (szs r) (szs (inner t))) [(1, .add (.var 0) (.add (.var 1) (.var 2)), .num 100000), (1, .add (.var 3) (.num 1), .var 1), (1, .add (.num 100000) (.num 1), .add (.add (.var 0) (.add (.num 0) (.num 1))) (.add (.var 3) (.var 2)))] rfl (nl hl) (ne h1.symm)))) fun n s3' e => ?_
    rw [encs_append acc [t], List.append_assoc, pres_append] at e
    have e3 : encs (inner t ++ r).reverse = encs r.reverse ++ (encs (inner t)).reverse := by rw [List.reverse_append, encs_append, encs_reverse (inner t)]
    rw [e3] at e
    have e4 : [t] ++ (pres (inner t) ++ pres r) = pres (t :: r) := by rw [pres, pre_inner]; rfl
    rw [e4] at e
    have e5 : encs (t :: r).reverse = encs r.reverse ++ [enc t] := by rw [List.reverse_cons, encs_append]; simp [encs]
    refine ⟨n + 1, s3', while_step (st1 := [.d P, .ol (encs (t :: r).reverse), .ol (encs acc), s3, .un, .un]) (en_ok (tr := [.b true]) rfl ⟨cgt_is (decide_eq_true (by rw [encs_length, List.length_reverse, List.length_cons]; exact ilt (fk (c1 r.length) [(1, .num 0, .var 0), (1, .add (.var 0) (.num 1), .num 0)] rfl (n0 r.length)))), trivial⟩)
      (rn_ok (tr := [.po (enc t) (encs r.reverse), .c (.list (encs (inner t)))]) rfl ⟨lenOk_le'.mpr (by rw [List.length_append, List.length_reverse, encs_length, encs_length, List.length_reverse]; exact nle (fk (c6 acc.length (sz t) (szs r) (szs (inner t)) ((inner t).length) r.length) [(1, .add (.var 0) (.add (.var 1) (.var 2)), .num 100000), (1, .add (.var 3) (.num 1), .var 1), (1, .var 4, .var 3), (1, .var 5, .var 2), (1, .num 0, .var 0), (1, .add (.num 1048576) (.num 1), .add (.var 5) (.var 4))] rfl (nl hl) (ne h1.symm) (nl h2) (nl h3) (n0 acc.length))), inner_ok hm, lenSnoc (by exact leP hl rfl), ⟨by rw [e5, List.getLast?_concat], by rw [e5, List.dropLast_concat]⟩, trivial⟩) e⟩
theorem all_ok {m : Nat} {t : Tm} (hm : 2 ≤ m) (hs : sz t ≤ 50000) : (Kn m).call 191 [enc t] = some (.list (encs (pre t))) := by
  refine e21 (all_loop (m := m - 1) (by exact leC hm rfl) (enc t) (szs [t]) [t] [] .un (Nat.le_refl _) (by simp only [szs, List.length_nil]; exact le0 hs rfl)) fun n s3 e => ?_
  have e4 : ([] : List Tm) ++ pres [t] = pre t := by simp [pres]
  rw [e4] at e
  exact run_ok (by exact Nat.le_of_lt hm) (tr := [.w none [.d (enc t), .ol [], .ol (encs (pre t)), s3, .un, .un]]) rfl rfl rfl ⟨⟨n, e⟩, trivial⟩
noncomputable def isX : Tm → Bool
  | .x => true
  | _ => false
mutual
theorem any_pre : ∀ t : Tm, (pre t).any isX = hasX t
  | .num p q => rfl
  | .x => rfl
  | .sum ts => by exact any_pres ts
  | .prod ts => by exact any_pres ts
  | .pow b e => by simp only [pre, List.any_cons, List.any_append, isX, hasX, Bool.false_or]; rw [any_pre b, any_pre e]
  | .call f a => by exact any_pre a
theorem any_pres : ∀ ts : List Tm, (pres ts).any isX = hasXs ts
  | [] => rfl
  | t :: r => by simp only [pres, List.any_append, hasXs]; rw [any_pre t, any_pres r]
end
noncomputable def xs (b : Bool) : PyData := .list (match b with
  | true => [.str "x"]
  | false => [])
theorem sdcF_t {c f : St → Ans PyData} {st st1 st2 : St} {d : PyData} (h : c st = some (.bool true, st1)) (h2 : f st1 = some (d, st2)) : sdcF c f st = some (some d, st2) := by
  unfold sdcF
  rw [h]
  show bd (f st1) someK = _
  rw [h2]
  rfl
theorem sdcF_f {c f : St → Ans PyData} {st st1 : St} (h : c st = some (.bool false, st1)) : sdcF c f st = some (none, st1) := by
  unfold sdcF
  rw [h]
  rfl
theorem put_x (b : Bool) : putKey (xs b) (.str "x") = some (xs true) := by cases b <;> rfl
theorem sdcL_none {f : St → Ans (Option PyData)} {i : Nat} {d acc : PyData} {r : List PyData} {st st' : St} (h : f (st.put i (.d d)) = some (none, st')) : sdcL f i (d :: r) acc st = sdcL f i r acc st' := by
  rw [sdcL, h]
theorem sdcL_some {f : St → Ans (Option PyData)} {i : Nat} {d k acc acc' : PyData} {r : List PyData} {st st' : St} (h : f (st.put i (.d d)) = some (some k, st')) (h2 : putKey acc k = some acc') : sdcL f i (d :: r) acc st = sdcL f i r acc' st' := by
  rw [sdcL, h]
  dsimp only
  rw [h2]
theorem sdc_loop {K : Or} : ∀ (L : List Tm) (b : Bool) (s1 : Slot), sdcL (sdcF (ev K (.cmp .Eq (.idx (.v 1) (.k (.int 0))) (.k (.str "sym")))) (ev K (.idx (.v 1) (.k (.int 1))))) 1 (encs L) (xs b) [.un, s1] = some (xs (b || L.any isX))
  | [], b, s1 => by rw [encs, sdcL, List.any_nil, Bool.or_false]
  | t :: r, b, s1 => by
    rw [encs]
    have other : isX t = false → ev K (.cmp .Eq (.idx (.v 1) (.k (.int 0))) (.k (.str "sym"))) [.un, .d (enc t)] = some (.bool false, [.un, .d (enc t)]) → sdcL (sdcF (ev K (.cmp .Eq (.idx (.v 1) (.k (.int 0))) (.k (.str "sym")))) (ev K (.idx (.v 1) (.k (.int 1))))) 1 (enc t :: encs r) (xs b) [.un, s1] = some (xs (b || (t :: r).any isX)) := fun hx he => by
      rw [sdcL_none (st := [.un, s1]) (i := 1) (sdcF_f (st := [.un, .d (enc t)]) he), sdc_loop r b, List.any_cons, hx, Bool.false_or]
    cases t with
    | x =>
      have h1 : ev K (.cmp .Eq (.idx (.v 1) (.k (.int 0))) (.k (.str "sym"))) [.un, .d (enc .x)] = some (.bool true, [.un, .d (enc .x)]) := en_ok (tr := []) rfl trivial
      have h2 : ev K (.idx (.v 1) (.k (.int 1))) [.un, .d (enc .x)] = some (.str "x", [.un, .d (enc .x)]) := en_ok (tr := []) rfl trivial
      rw [sdcL_some (st := [.un, s1]) (i := 1) (sdcF_t (st := [.un, .d (enc .x)]) h1 h2) (put_x b), sdc_loop r true, List.any_cons]
      simp [isX]
    | num p q => exact other rfl (en_ok (tr := []) rfl trivial)
    | sum us => exact other rfl (en_ok (tr := []) rfl trivial)
    | prod us => exact other rfl (en_ok (tr := []) rfl trivial)
    | pow u v => exact other rfl (en_ok (tr := []) rfl trivial)
    | call g u => exact other rfl (en_ok (tr := []) rfl trivial)
theorem letters_ok {m : Nat} {t : Tm} (hm : 3 ≤ m) (hs : sz t ≤ 50000) : (Kn m).call 201 [enc t] = some (xs (hasX t)) := by
  have h := sdc_loop (K := Kn (m - 1)) (pre t) false .un
  rw [Bool.false_or, any_pre] at h
  refine run_ok (by exact leA hm rfl) (tr := [.c (.list (encs (pre t))), .cv (xs (hasX t))]) rfl rfl rfl ⟨?_, all_ok (by exact leC hm rfl) hs, trivial⟩
  show lift (sdcL _ 1 (encs (pre t)) (xs false) [.un, .un]) _ = _
  rw [h]
  rfl
theorem contains_ok {m : Nat} {t : Tm} {b : Bool} (hm : 4 ≤ m) (hs : sz t ≤ 50000) (h : hasX t = b) : (Kn m).call 208 [enc t, .str "x"] = some (.bool b) := by
  have hl := letters_ok (m := m - 1) (by exact leC hm rfl) hs
  rw [h] at hl
  cases b with
  | true => exact run_ok (by exact leA hm rfl) (tr := [.c (xs true)]) rfl rfl rfl ⟨hl, trivial⟩
  | false => exact run_ok (by exact leA hm rfl) (tr := [.c (xs false)]) rfl rfl rfl ⟨hl, trivial⟩
noncomputable def SlOk (n : Nat) : Prop := ∀ m, 2 * n + 10 ≤ m → ∀ t r, sz t ≤ 5000 → slope n t = some r → (Kn m).call 463 [enc t, .str "x"] = some (enc r)
theorem t_pow_ok {m : Nat} {a b : Tm} (hm : 1 ≤ m) : (Kn m).call 142 [enc a, enc b] = some (enc (.pow a b)) := by
  match m, hm with
  | n + 1, _ => kernel_rfl
theorem call_slope_ok {m : Nat} {f : Fn} {a : Tm} (hm : 2 ≤ m) : (Kn m).call 446 [.str f.str, enc a] = some (enc (callSlope f a)) := by
  match m, hm with
  | n + 2, _ => cases f <;> kernel_rfl
set_option tactic.hygienic true in
theorem slopes_comp {m n : Nat} (ih : ∀ k, k < n → ∀ t r, sz t ≤ 5000 → slope k t = some r → (Kn m).call 463 [enc t, .str "x"] = some (enc r)) (hm : 4 ≤ m) : ∀ (k : Nat), k ≤ n → ∀ (ts l : List Tm) (s1 : Slot), szs ts ≤ 5000 → slopesX k ts = some l →
    ∃ s1', compL (compF (evAll (Kn m) [(.call 208 [(.v 1), (.v 4)])]) (ev (Kn m) (.call 463 [(.v 1), (.v 4)]))) (.one 1) (encs ts) [.un, s1, .un, .un, .d (.str "x")] = some (encs l, [.un, s1', .un, .un, .d (.str "x")]) ∧ l.length ≤ ts.length
  | 0, _, ts, l, s1, _, h => by exact noS h
  | k + 1, hk, ts, l, s1, hz, h => by
    unfold slopesX at h
    match ts, hz, h with
    | [], _, h => obtain rfl := Option.some.inj h; exact ⟨s1, by rw [encs]; exact comp_nil, Nat.le_refl _⟩
    | t :: r, hz, h =>
      rw [szs] at hz
      dsimp only at h
      split at h
      · rename_i hx
        split at h
        · rename_i a l' ha hl
          obtain rfl := Option.some.inj h
          refine e12 (slopes_comp ih hm k (by exact Nat.le_of_lt hk) r l' (.d (enc t)) (by exact leG hz rfl) hl) fun s1' q hlen => ?_
          refine ⟨s1', ?_, by simp only [List.length_cons]; exact Nat.succ_le_succ hlen⟩
          rw [encs, encs]
          exact comp_some (st1 := [.un, .d (enc t), .un, .un, .d (.str "x")]) rfl (compF_t (evAll1 (en_ok (tr := [.c (.bool true)]) rfl ⟨contains_ok hm (by exact leF hz rfl) hx, trivial⟩)) (en_ok (tr := [.c (enc a)]) rfl ⟨ih k (by exact hk) t a (by exact leF hz rfl) ha, trivial⟩)) q
        · exact noS h
      · rename_i hx
        refine e12 (slopes_comp ih hm k (by exact Nat.le_of_lt hk) r l (.d (enc t)) (by exact leG hz rfl) h) fun s1' q hlen => ?_
        refine ⟨s1', ?_, by simp only [List.length_cons]; exact Nat.le_succ_of_le hlen⟩
        exact comp_none (st1 := [.un, .d (enc t), .un, .un, .d (.str "x")]) rfl (compF_f (evAll1 (en_ok (tr := [.c (.bool false)]) rfl ⟨contains_ok hm (by exact leF hz rfl) hx, trivial⟩))) q
theorem turns_comp {m : Nat} (hm : 4 ≤ m) : ∀ (ts : List Tm) (s1 : Slot), szs ts ≤ 5000 → ∃ k s1', k ≤ ts.length ∧ compL (compF (evAll (Kn m) [(.call 208 [(.v 1), (.v 3)])]) (ev (Kn m) (.k (.int 1)))) (.one 1) (encs ts) [.un, s1, .un, .d (.str "x")] = some (List.replicate k (.int 1), [.un, s1', .un, .d (.str "x")])
  | [], s1, _ => ⟨0, s1, Nat.le_refl _, by exact comp_nil⟩
  | t :: r, s1, hz => by
    rw [szs] at hz
    refine e22 (turns_comp hm r (.d (enc t)) (by exact leG hz rfl)) fun k s1' hk q => ?_
    cases hx : hasX t with
    | true =>
      refine ⟨k + 1, s1', by simp only [List.length_cons]; exact Nat.succ_le_succ hk, ?_⟩
      rw [encs, List.replicate_succ]
      exact comp_some (st1 := [.un, .d (enc t), .un, .d (.str "x")]) rfl (compF_t (evAll1 (en_ok (tr := [.c (.bool true)]) rfl ⟨contains_ok hm (by exact leF hz rfl) hx, trivial⟩)) (en_ok (tr := []) rfl trivial)) q
    | false =>
      refine ⟨k, s1', by simp only [List.length_cons]; exact Nat.le_succ_of_le hk, ?_⟩
      rw [encs]
      exact comp_none (st1 := [.un, .d (enc t), .un, .d (.str "x")]) rfl (compF_f (evAll1 (en_ok (tr := [.c (.bool false)]) rfl ⟨contains_ok hm (by exact leF hz rfl) hx, trivial⟩))) q
noncomputable def b_prodS : List CS := [.asg 6 (.e (.call 463 [(.v 2), (.v 1)])), .cond (.cmp .NotEq (.v 6) (.k (.tuple [(.str "num"), (.int 0), (.int 1)]))) [.app 3 (.call 135 [(.bin .Add (.bin .Add (.bif .list [(.upto (.v 0) (.v 5))]) (.lst [(.v 6)])) (.bif .list [(.from (.v 0) (.bin .Add (.v 5) (.k (.int 1))))]))])] []]
theorem upto_pre {pr r : List Tm} {t : Tm} (h : pr.length ≤ 1000) : uptoV (.tuple (encs (pr ++ t :: r))) (.int (pr.length : Nat)) = some (.tuple (encs pr)) := by
  rw [uptoV, if_pos (by rw [encs_length, List.length_append, List.length_cons]; exact ⟨ile (fk (c1 pr.length) [(1, .num 0, .var 0), (1, .add (.var 0) (.num 1), .num 0)] rfl (n0 pr.length)), ilt (fk (c2 pr.length r.length) [(1, .num 0, .var 1), (1, .add (.var 0) (.add (.var 1) (.num 1)), .var 0)] rfl (n0 r.length))⟩)]
  simp only [Int.toNat_natCast, encs_take, List.take_left]
theorem from_post {pr r : List Tm} {t : Tm} : fromV (.tuple (encs (pr ++ t :: r))) (.int ((pr.length : Int) + 1)) = some (.tuple (encs r)) := by
  rw [fromV, if_pos (by rw [encs_length, List.length_append, List.length_cons]; exact ⟨ile (fk (c1 pr.length) [(1, .num 0, .var 0), (1, .add (.add (.var 0) (.num 1)) (.num 1), .num 1)] rfl (n0 pr.length)), ile (fk (c2 pr.length r.length) [(1, .num 0, .var 1), (1, .add (.add (.var 0) (.add (.var 1) (.num 1))) (.num 1), .add (.var 0) (.num 1))] rfl (n0 r.length))⟩)]
  have e : ((pr.length : Int) + 1).toNat = pr.length + 1 := by exact rfl
  rw [e, encs_drop, ← List.drop_drop, List.drop_left]
  rfl
theorem add3 {pr r : List Tm} {s : Tm} (h : pr.length + r.length ≤ 100000) : binV .Add (.list (encs pr ++ [enc s])) (.list (encs r)) = some (.list (encs (pr ++ s :: r))) := by
  have e : encs pr ++ [enc s] = encs (pr ++ [s]) := by rw [encs_append]; simp [encs]
  rw [e, addL_enc (by rw [List.length_append]; simp only [List.length_cons, List.length_nil]; exact nle (fk (c2 pr.length r.length) [(1, .add (.var 0) (.var 1), .num 100000), (1, .add (.num 1048576) (.num 1), .add (.add (.var 0) (.add (.num 0) (.num 1))) (.var 1))] rfl (nl h))), List.append_assoc]
  rfl
set_option tactic.hygienic true in
theorem prodS_loop {m n : Nat} (ih : ∀ k, k < n → ∀ t r, sz t ≤ 5000 → slope k t = some r → (Kn m).call 463 [enc t, .str "x"] = some (enc r)) (hm : 4 ≤ m) (T : List Tm) (hT : T.length ≤ 1000) (s4 : Slot) (R : St) : ∀ (k : Nat), k ≤ n → ∀ (pr ra l acc : List Tm) (s2 s5 s6 : Slot), T = pr ++ ra → szs ra ≤ 5000 → acc.length + ra.length ≤ 1000 → prodSlopes k pr ra = some l →
    ∃ s2' s5' s6', forL (execs (Kn m) b_prodS) (.two 5 2) (enumD pr.length (encs ra)) (.d (.tuple (encs T)) :: .d (.str "x") :: s2 :: .ol (encs acc) :: s4 :: s5 :: s6 :: R) = some (none, .d (.tuple (encs T)) :: .d (.str "x") :: s2' :: .ol (encs (acc ++ l)) :: s4 :: s5' :: s6' :: R)
  | 0, _, pr, ra, l, acc, s2, s5, s6, _, _, _, h => by exact noS h
  | k + 1, hk, pr, ra, l, acc, s2, s5, s6, hp, hz, hl, h => by
    unfold prodSlopes at h
    match ra, hp, hz, hl, h with
    | [], _, _, _, h => obtain rfl := Option.some.inj h; exact ⟨s2, s5, s6, by rw [encs, enumD, List.append_nil]; exact for_nil⟩
    | t :: r, hp, hz, hl, h =>
      rw [szs] at hz
      simp only [List.length_cons] at hl
      have hpl : pr.length + r.length + 1 ≤ 1000 := by rw [hp, List.length_append, List.length_cons] at hT; exact hT
      dsimp only at h
      split at h
      · rename_i s l' hs hl'
        have hcall := ih k (by exact hk) t s (by exact leF hz rfl) hs
        have elen : (pr ++ [t]).length = pr.length + 1 := by rw [List.length_append]; rfl
        split at h
        · rename_i h0
          cases h
          obtain ⟨s2', s5', s6', e⟩ := prodS_loop ih hm T hT s4 R k (by exact Nat.le_of_lt hk) (pr ++ [t]) r l acc (.d (enc t)) (.d (.int (pr.length : Nat))) (.d (enc s)) (by rw [hp, List.append_assoc]; rfl) (by exact leG hz rfl) (by exact Nat.le_of_lt hl) hl'
          rw [elen] at e
          refine ⟨s2', s5', s6', ?_⟩
          rw [encs, enumD]
          exact for_step (st1 := .d (.tuple (encs T)) :: .d (.str "x") :: .d (enc t) :: .ol (encs acc) :: s4 :: .d (.int (pr.length : Nat)) :: s6 :: R) rfl (rn_ok (tr := [.c (enc s), .b false]) rfl ⟨ne_zero h0, hcall, trivial⟩) e
        · rename_i h0
          obtain rfl := Option.some.inj h
          refine e31 (prodS_loop ih hm T hT s4 R k (by exact Nat.le_of_lt hk) (pr ++ [t]) r l' (acc ++ [tProd (pr ++ s :: r)]) (.d (enc t)) (.d (.int (pr.length : Nat))) (.d (enc s)) (by rw [hp, List.append_assoc]; rfl) (by exact leG hz rfl) (by rw [List.length_append]; simp only [List.length_cons, List.length_nil]; exact leZ hl) hl') fun s2' s5' s6' e => ?_
          rw [elen] at e
          rw [encs_append acc, List.append_assoc] at e
          refine ⟨s2', s5', s6', ?_⟩
          rw [encs, enumD]
          subst hp
          exact for_step (st1 := .d (.tuple (encs (pr ++ t :: r))) :: .d (.str "x") :: .d (enc t) :: .ol (encs acc) :: s4 :: .d (.int (pr.length : Nat)) :: s6 :: R) rfl (rn_ok (tr := [.c (enc s), .b true, .vv (.tuple (encs pr)), .sk, .vv (.tuple (encs r)), .sk, .bv (.list (encs (pr ++ s :: r))), .c (enc (tProd (pr ++ s :: r)))]) rfl
            ⟨lenSnoc (by exact leP hl rfl), t_prod_ok (by exact leA hm rfl), add3 (by exact leF hpl rfl), from_post, lenSnoc (by exact leW hpl rfl), upto_pre (by exact nle (fk (c2 pr.length r.length) [(1, .add (.add (.var 0) (.var 1)) (.num 1), .num 1000), (1, .num 0, .var 1), (1, .add (.num 1000) (.num 1), .var 0)] rfl (nl hpl) (n0 r.length))), ne_zero h0, hcall, trivial⟩) e
      · exact noS h
theorem prod_slope_ok {m n : Nat} (ih : ∀ k, k < n → ∀ t r, sz t ≤ 5000 → slope k t = some r → (Kn (m - 1)).call 463 [enc t, .str "x"] = some (enc r)) (hm : 5 ≤ m) {ts l : List Tm} (hz : szs ts ≤ 5000) (hl : ts.length ≤ 300) (h : prodSlopes n [] ts = some l) : (Kn m).call 451 [.tuple (encs ts), .str "x"] = some (enc (tSum l)) := by
  refine e22 (turns_comp (m := m - 1) (by exact leC hm rfl) ts .un hz) fun k u1 hk hc => ?_
  have ck := compK_ok (init := [none, none, none, some 1]) (st := .d (.tuple (encs ts)) :: .d (.str "x") :: List.replicate 14 .un) hc (lenOk_le'.mpr (by rw [List.length_replicate]; exact leT hk hl rfl))
  refine e31 (prodS_loop (m := m - 1) ih (by exact leC hm rfl) ts (by exact leE hl rfl) (.d (.int ((List.replicate k (PyData.int 1)).length : Nat))) (List.replicate 9 .un) n (Nat.le_refl _) [] ts l [] .un .un .un rfl hz (by simp only [List.length_nil]; exact le0 hl rfl) h) fun s2 s5 s6 e => ?_
  refine run_ok (by exact leA hm rfl) (tr := [.cv (.list (List.replicate k (.int 1))), .b false, .f none (.d (.tuple (encs ts)) :: .d (.str "x") :: s2 :: .ol (encs l) :: .d (.int ((List.replicate k (PyData.int 1)).length : Nat)) :: s5 :: s6 :: List.replicate 9 .un), .c (enc (tSum l))]) rfl rfl rfl
    ⟨t_sum_ok (by exact leC hm rfl), e, cgt_is ?_, ?_, ck, trivial⟩
  · rw [encs_length, List.length_replicate]
    refine decide_eq_false ?_
    have : ts.length * k ≤ 300 * 300 := Nat.mul_le_mul hl (by exact Nat.le_trans hk hl)
    omega
  · rw [encs_length, List.length_replicate]
    have : sm (ts.length : Int) = true := sm_lt'.mpr (by exact ltE hl rfl)
    rw [this]; rfl
theorem pow_slope_ok {m : Nat} {b e s : Tm} (hm : 5 ≤ m) (hs : (Kn (m - 1)).call 463 [enc b, .str "x"] = some (enc s)) (hz : sz e ≤ 5000) (hx : hasX e = false) : (Kn m).call 458 [enc (.pow b e), .str "x"] = some (enc (.prod [e, .pow b (.sum [e, mone]), s])) :=
  run_ok (by exact leA hm rfl) (tr := [.c (.bool false), .c (enc (.sum [e, mone])), .c (enc (.pow b (.sum [e, mone]))), .c (enc s), .c (enc (.prod [e, .pow b (.sum [e, mone]), s]))]) rfl rfl rfl
    ⟨t_prod_ok (l := [e, .pow b (.sum [e, mone]), s]) (by exact leC hm rfl), hs, t_pow_ok (by exact leC hm rfl), t_sum_ok (l := [e, mone]) (by exact leC hm rfl), contains_ok (by exact leC hm rfl) (by exact leE hz rfl) hx, trivial⟩
set_option tactic.hygienic true in
theorem slope_ok {n m : Nat} (ih : ∀ k, k < n → SlOk k) (hm : 2 * n + 10 ≤ m) {t r : Tm} (hz : sz t ≤ 5000) (h : slope n t = some r) : (Kn m).call 463 [enc t, .str "x"] = some (enc r) := by
  cases n with
  | zero => exact noS h
  | succ n =>
    have is1 := fun k (hk : k < n + 1) => ih k hk (m - 1) (by exact nle (fk (c4 n m k ((m - 1 : Nat))) [(2, .add (.mulL 2 (.add (.var 0) (.num 1))) (.num 10), .var 1), (4, .add (.var 2) (.num 1), .add (.var 0) (.num 1)), (2, .var 1, .add (.var 3) (.num 1)), (2, .add (.var 3) (.num 1), .add (.mulL 2 (.var 2)) (.num 10))] rfl (nl hm) (nt hk) (nl (sA m 1))))
    have is2 := fun k (hk : k < n + 1) => ih k hk (m - 2) (by exact nle (fk (c4 n m k ((m - 2 : Nat))) [(2, .add (.mulL 2 (.add (.var 0) (.num 1))) (.num 10), .var 1), (4, .add (.var 2) (.num 1), .add (.var 0) (.num 1)), (2, .var 1, .add (.var 3) (.num 2)), (2, .add (.var 3) (.num 1), .add (.mulL 2 (.var 2)) (.num 10))] rfl (nl hm) (nt hk) (nl (sA m 2))))
    unfold slope at h
    have hc := fun b (q : hasX t = b) => contains_ok (m := m - 1) (t := t) (by exact leC hm rfl) (by exact leE hz rfl) q
    cases hx : hasX t with
    | false =>
      rw [hx] at h
      obtain rfl := Option.some.inj h
      have hc := hc false hx
      cases t with
      | num p q => exact run_ok (by exact leA hm rfl) (tr := [.c (.bool false)]) rfl rfl rfl ⟨hc, trivial⟩
      | x => exact run_ok (by exact leA hm rfl) (tr := [.c (.bool false)]) rfl rfl rfl ⟨hc, trivial⟩
      | sum us => exact run_ok (by exact leA hm rfl) (tr := [.c (.bool false)]) rfl rfl rfl ⟨hc, trivial⟩
      | prod us => exact run_ok (by exact leA hm rfl) (tr := [.c (.bool false)]) rfl rfl rfl ⟨hc, trivial⟩
      | pow u v => exact run_ok (by exact leA hm rfl) (tr := [.c (.bool false)]) rfl rfl rfl ⟨hc, trivial⟩
      | call f u => exact run_ok (by exact leA hm rfl) (tr := [.c (.bool false)]) rfl rfl rfl ⟨hc, trivial⟩
    | true =>
      rw [hx] at h
      have hc := hc true hx
      cases t with
      | num p q => exact noS h
      | x => obtain rfl := Option.some.inj h; exact run_ok (by exact leA hm rfl) (tr := [.c (.bool true)]) rfl rfl rfl ⟨hc, trivial⟩
      | sum ts =>
        rw [sz] at hz
        dsimp only at h
        split at h
        · rename_i l hl
          obtain rfl := Option.some.inj h
          have hlen := len_szs ts
          refine e12 (slopes_comp (m := m - 1) (n := n) (fun k hk => is1 k (by exact Nat.le_succ_of_le hk)) (by exact leC hm rfl) n (Nat.le_refl _) ts l .un (by exact Nat.le_of_lt hz) hl) fun s1 q hl2 => ?_
          have ck := compK_ok (init := [none, none, none, none, some 1]) (st := .d (enc (.sum ts)) :: .d (.str "x") :: .d (.str "sum") :: List.replicate 14 .un) q (lenOk_encs (by exact nle (fk (c3 (szs ts) ts.length l.length) [(1, .add (.var 0) (.num 1), .num 5000), (1, .var 1, .var 0), (1, .var 2, .var 1), (1, .add (.num 1048576) (.num 1), .var 2)] rfl (nl hz) (nl hlen) (nl hl2))))
          exact run_ok (by exact leA hm rfl) (tr := [.c (.bool true), .cv (.list (encs l)), .c (enc (tSum l))]) rfl rfl rfl ⟨t_sum_ok (by exact leC hm rfl), ck, hc, trivial⟩
        · exact noS h
      | prod ts =>
        rw [sz] at hz
        dsimp only at h
        split at h
        · rename_i l hl hb
          obtain rfl := Option.some.inj h
          have ps := prod_slope_ok (m := m - 1) (n := n) (fun k hk => is2 k (by exact Nat.le_succ_of_le hk)) (by exact leC hm rfl) (by exact Nat.le_of_lt hz) (Nat.le_of_ble_eq_true hb) hl
          exact run_ok (by exact leA hm rfl) (tr := [.c (.bool true), .c (enc (tSum l))]) rfl rfl rfl ⟨ps, hc, trivial⟩
        · exact noS h
      | pow b e =>
        rw [sz] at hz
        dsimp only at h
        split at h
        · exact noS h
        · rename_i hxe
          split at h
          · exact noS h
          · rename_i s hs
            obtain rfl := Option.some.inj h
            have ps := pow_slope_ok (m := m - 1) (b := b) (e := e) (s := s) (by exact leC hm rfl) (is2 n (by exact Nat.le_refl _) b s (by exact nle (fk (c2 (sz b) (sz e)) [(1, .add (.add (.var 0) (.var 1)) (.num 1), .num 5000), (1, .num 0, .var 1), (1, .add (.num 5000) (.num 1), .var 0)] rfl (nl hz) (n0 (sz e)))) hs) (by exact nle (fk (c2 (sz b) (sz e)) [(1, .add (.add (.var 0) (.var 1)) (.num 1), .num 5000), (1, .num 0, .var 0), (1, .add (.num 5000) (.num 1), .var 1)] rfl (nl hz) (n0 (sz b)))) hxe
            exact run_ok (by exact leA hm rfl) (tr := [.c (.bool true), .c (enc (.prod [e, .pow b (.sum [e, mone]), s]))]) rfl rfl rfl ⟨ps, hc, trivial⟩
      | call f a =>
        rw [sz] at hz
        dsimp only at h
        split at h
        · exact noS h
        · rename_i s hs
          obtain rfl := Option.some.inj h
          have is := is1 n (by exact Nat.le_refl _) a s (by exact Nat.le_of_lt hz) hs
          cases f with
          | sin => exact run_ok (by exact leA hm rfl) (tr := [.c (.bool true), .b true, .c (enc (callSlope .sin a)), .c (enc s), .c (enc (.prod [callSlope .sin a, s]))]) rfl rfl rfl ⟨t_prod_ok (l := [callSlope .sin a, s]) (by exact leC hm rfl), is, call_slope_ok (f := .sin) (by exact leC hm rfl), ceq_is rfl, hc, trivial⟩
          | cos => exact run_ok (by exact leA hm rfl) (tr := [.c (.bool true), .b true, .c (enc (callSlope .cos a)), .c (enc s), .c (enc (.prod [callSlope .cos a, s]))]) rfl rfl rfl ⟨t_prod_ok (l := [callSlope .cos a, s]) (by exact leC hm rfl), is, call_slope_ok (f := .cos) (by exact leC hm rfl), ceq_is rfl, hc, trivial⟩
          | log => exact run_ok (by exact leA hm rfl) (tr := [.c (.bool true), .b true, .c (enc (callSlope .log a)), .c (enc s), .c (enc (.prod [callSlope .log a, s]))]) rfl rfl rfl ⟨t_prod_ok (l := [callSlope .log a, s]) (by exact leC hm rfl), is, call_slope_ok (f := .log) (by exact leC hm rfl), ceq_is rfl, hc, trivial⟩
          | exp => exact run_ok (by exact leA hm rfl) (tr := [.c (.bool true), .b true, .c (enc (callSlope .exp a)), .c (enc s), .c (enc (.prod [callSlope .exp a, s]))]) rfl rfl rfl ⟨t_prod_ok (l := [callSlope .exp a, s]) (by exact leC hm rfl), is, call_slope_ok (f := .exp) (by exact leC hm rfl), ceq_is rfl, hc, trivial⟩
          | sinh => exact run_ok (by exact leA hm rfl) (tr := [.c (.bool true), .b true, .c (enc (callSlope .sinh a)), .c (enc s), .c (enc (.prod [callSlope .sinh a, s]))]) rfl rfl rfl ⟨t_prod_ok (l := [callSlope .sinh a, s]) (by exact leC hm rfl), is, call_slope_ok (f := .sinh) (by exact leC hm rfl), ceq_is rfl, hc, trivial⟩
          | cosh => exact run_ok (by exact leA hm rfl) (tr := [.c (.bool true), .b true, .c (enc (callSlope .cosh a)), .c (enc s), .c (enc (.prod [callSlope .cosh a, s]))]) rfl rfl rfl ⟨t_prod_ok (l := [callSlope .cosh a, s]) (by exact leC hm rfl), is, call_slope_ok (f := .cosh) (by exact leC hm rfl), ceq_is rfl, hc, trivial⟩
theorem slope_all (n : Nat) : SlOk n := by
  induction n using Nat.strongRecOn with
  | ind n ih => exact fun m hm t r hz h => slope_ok ih hm hz h
noncomputable def t_bits : CE := .cmp .GtE (.v 0) (.v 3)
noncomputable def b_bits : List CS := [.asgT [0, 1] [(.e (.bin .FloorDiv (.v 0) (.v 3))), (.e (.bin .Add (.v 1) (.v 2)))]]
theorem bits1 {K : Or} : ∀ (k n f : Nat), n < 2 ^ k → ∃ N n' f' : Nat, whileN (ev K t_bits) (execs K b_bits) N [.d (.int n), .d (.int f), .d (.int 1), .d (.int 2)] = some (none, [.d (.int n'), .d (.int f'), .d (.int 1), .d (.int 2)]) ∧ n' ≤ 1 ∧ f' ≤ f + k := by
  intro k
  induction k with
  | zero =>
    intro n f h
    have h0 : n = 0 := by simp at h; exact h
    subst h0
    exact ⟨1, 0, f, while_stop (en_ok (tr := [.b false]) rfl ⟨cge_is rfl, trivial⟩), by exact Nat.le_succ _, by exact Nat.le_refl _⟩
  | succ k ih =>
    intro n f h
    by_cases hn : n < 2
    · exact ⟨1, n, f, while_stop (en_ok (tr := [.b false]) rfl ⟨cge_is (decide_eq_false (by exact fun g0 => fk (c1 n) [(1, .add (.var 0) (.num 1), .num 2), (1, .num 2, .var 0)] rfl (nt hn) (g0))), trivial⟩), by exact Nat.le_of_lt_succ hn, by exact Nat.le_add_right _ _⟩
    · refine e33 (ih (n / 2) (f + 1) ((Nat.div_lt_iff_lt_mul (Nat.succ_pos 1)).mpr h)) fun N n' f' e h1 h2 => ?_
      refine ⟨N + 1, n', f', while_step (en_ok (tr := [.b true]) rfl ⟨cge_is (decide_eq_true (by exact ile (fk (c1 n) [(1, .num 2, .var 0), (1, .add (.var 0) (.num 1), .num 2)] rfl (nl (Nat.not_lt.mp hn))))), trivial⟩) (rn_ok (tr := []) rfl ⟨⟨by exact of_decide_eq_true rfl, rfl⟩, trivial⟩) ?_, h1, by exact nle (fk (c3 f' f k) [(1, .var 0, .add (.add (.var 1) (.num 1)) (.var 2)), (1, .add (.add (.var 1) (.add (.var 2) (.num 1))) (.num 1), .var 0)] rfl (nl h2))⟩
      have e1 : ((n : Nat) : Int).fdiv 2 = ((n / 2 : Nat) : Int) := by rw [Int.fdiv_eq_ediv_of_nonneg _ (by exact Int.natCast_nonneg _)]; rfl
      rw [e1]
      exact e
noncomputable def f_bits : List CS := [.asg 3 (.e (.bin .Pow (.k (.int 2)) (.v 2))), .whl t_bits b_bits]
theorem bits_far {K : Or} {n f b : Nat} {s3 : Slot} (hb : 62 ≤ b) (hb2 : b ≤ 10000) (hn : n < 4611686018427387904) : execs K f_bits [.d (.int n), .d (.int f), .d (.int b), s3] = some (none, [.d (.int n), .d (.int f), .d (.int b), .d (.int (2 ^ b))]) := by
  have hp : ((2 : Int) ^ b) = ((2 ^ b : Nat) : Int) := by rfl
  have h2 : (2 : Nat) ^ 62 ≤ 2 ^ b := Nat.pow_le_pow_right (by exact Nat.le_succ _) hb
  have h3 : (2 : Nat) ^ 62 = 4611686018427387904 := by decide
  have p1 : execs K [.asg 3 (.e (.bin .Pow (.k (.int 2)) (.v 2)))] [.d (.int n), .d (.int f), .d (.int b), s3] = some (none, [.d (.int n), .d (.int f), .d (.int b), .d (.int (2 ^ b))]) := rn_ok (tr := []) rfl ⟨by simp only [Bool.and_eq_true, decide_eq_true_eq]; exact ⟨⟨rfl, by exact Int.natCast_nonneg _⟩, by exact ile (fk (c1 b) [(1, .var 0, .num 10000), (1, .add (.num 100000) (.num 1), .var 0)] rfl (nl hb2))⟩, trivial⟩
  have p2 : execs K [.whl t_bits b_bits] [.d (.int n), .d (.int f), .d (.int b), .d (.int (2 ^ b))] = some (none, [.d (.int n), .d (.int f), .d (.int b), .d (.int (2 ^ b))]) :=
    rn_ok (tr := [.w none [.d (.int n), .d (.int f), .d (.int b), .d (.int (2 ^ b))]]) rfl ⟨⟨1, while_stop (en_ok (tr := [.b false]) rfl ⟨cge_is (decide_eq_false (by exact fun g0 => fk (c3 n (2 ^ b) ((2 ^ b : Nat))) [(1, .add (.var 0) (.num 1), .num 4611686018427387904), (1, .var 2, .var 1), (1, .num 4611686018427387904, .var 2), (1, .var 1, .var 0)] rfl (nt hn) (Int.le_of_eq hp.symm) (nl h2) (g0))), trivial⟩)⟩, trivial⟩
  exact execs_app p1 p2
theorem bits_ok {m n : Nat} (hm : 1 ≤ m) (hn : n < 4611686018427387904) : ∃ r : Nat, r ≤ 100 ∧ (Kn m).call 48 [.int n] = some (.int r) := by
  refine e33 (bits1 (K := Kn (m - 1)) 62 n 0 (by rw [show (2 : Nat) ^ 62 = 4611686018427387904 by decide]; exact hn)) fun N n' f' e h1 h2 => ?_
  have q3 : execs (Kn (m - 1)) f_bits [.d (.int n), .d (.int (0 : Nat)), .d (.int 1), .d (.int (2 ^ 64))] = some (none, [.d (.int n'), .d (.int f'), .d (.int 1), .d (.int 2)]) := rn_ok (tr := [.w none [.d (.int n'), .d (.int f'), .d (.int 1), .d (.int 2)]]) rfl ⟨⟨N, e⟩, rfl, trivial⟩
  have lp : forL (execs (Kn (m - 1)) f_bits) (.one 2) [.int 4096, .int 64, .int 1] [.d (.int n), .d (.int (0 : Nat)), .un, .un] = some (none, [.d (.int n'), .d (.int f'), .d (.int 1), .d (.int 2)]) :=
    for_step (st1 := [.d (.int n), .d (.int (0 : Nat)), .d (.int (4096 : Nat)), .un]) rfl (bits_far (b := 4096) (by exact Nat.le_add_left _ _) (by exact Nat.le_add_left _ _) hn)
      (for_step (st1 := [.d (.int n), .d (.int (0 : Nat)), .d (.int (64 : Nat)), .d (.int (2 ^ 4096))]) rfl (bits_far (b := 64) (by exact Nat.le_add_left _ _) (by exact Nat.le_add_left _ _) hn)
        (for_step (st1 := [.d (.int n), .d (.int (0 : Nat)), .d (.int 1), .d (.int (2 ^ 64))]) rfl q3 for_nil))
  exact ⟨f' + n', by exact nle (fk (c2 n' f') [(1, .var 0, .num 1), (1, .var 1, .add (.num 0) (.num 62)), (1, .add (.num 100) (.num 1), .add (.var 1) (.var 0))] rfl (nl h1) (nl h2)), run_ok hm (tr := [.f none [.d (.int n'), .d (.int f'), .d (.int 1), .d (.int 2)]]) rfl rfl rfl ⟨lp, trivial⟩⟩
noncomputable def c_great : CE := .and [(.cmp .Eq (.idx (.v 1) (.k (.int 0))) (.k (.str "num"))), (.cmp .Gt (.call 48 [(.bif .max [(.bif .abs [(.idx (.v 1) (.k (.int 1)))]), (.idx (.v 1) (.k (.int 2)))])]) (.k (.int 200000)))]
theorem nogreat {m : Nat} (hm : 1 ≤ m) {t : Tm} (h : numOk t = true) {R : St} : ev (Kn m) c_great (.un :: .d (enc t) :: R) = some (.bool false, .un :: .d (enc t) :: R) := by
  cases t with
  | num p q =>
    unfold numOk at h
    rw [Bool.and_eq_true] at h
    have hp := sm_lt'.mp h.1
    have hq := sm_lt'.mp h.2
    have hmax : ∃ k : Nat, k < 4611686018427387904 ∧ bifV .max [.int ((p.natAbs : Nat) : Int), .int q] = some (.int (k : Int)) := by
      by_cases hc : q > (p.natAbs : Int)
      · refine ⟨q.natAbs, hq, ?_⟩
        show some (PyData.int (if q > (p.natAbs : Int) then q else (p.natAbs : Int))) = _
        rw [if_pos hc, Int.natAbs_of_nonneg (Int.le_of_lt (Int.lt_of_le_of_lt (n0 _) hc))]
      · refine ⟨p.natAbs, by exact hp, ?_⟩
        show some (PyData.int (if q > (p.natAbs : Int) then q else (p.natAbs : Int))) = _
        rw [if_neg hc]
    refine e12 hmax fun k hk hmx => ?_
    refine e12 (bits_ok hm hk) fun r hr hb => ?_
    have habs : bifV .abs [.int p] = some (.int ((p.natAbs : Nat) : Int)) := by
      show some (PyData.int (if p < 0 then -p else p)) = _
      rw [abs_eq]
    exact en_ok (tr := [.vv (.int ((p.natAbs : Nat) : Int)), .vv (.int (k : Int)), .c (.int (r : Int)), .b false]) rfl ⟨cgt_is (decide_eq_false (by exact fun g0 => fk (c1 r) [(1, .var 0, .num 100), (1, .add (.num 200000) (.num 1), .var 0)] rfl (nl hr) (g0))), hb, hmx, habs, trivial⟩
  | x => exact en_ok (tr := []) rfl trivial
  | sum us => exact en_ok (tr := []) rfl trivial
  | prod us => exact en_ok (tr := []) rfl trivial
  | pow u v => exact en_ok (tr := []) rfl trivial
  | call f u => exact en_ok (tr := []) rfl trivial
theorem great_comp {m : Nat} (hm : 1 ≤ m) (R : St) : ∀ (ts : List Tm) (s1 : Slot), ts.all numOk = true → ∃ s1', compL (compF (evAll (Kn m) [c_great]) (ev (Kn m) (.k (.int 1)))) (.one 1) (encs ts) (.un :: s1 :: R) = some ([], .un :: s1' :: R)
  | [], s1, _ => ⟨s1, by exact comp_nil⟩
  | t :: r, s1, h => by
    rw [List.all_cons, Bool.and_eq_true] at h
    refine e11 (great_comp hm R r (.d (enc t)) h.2) fun s1' q => ?_
    refine ⟨s1', ?_⟩
    exact comp_none (st1 := .un :: .d (enc t) :: R) rfl (compF_f (evAll1 (nogreat hm h.1))) q
theorem comp2_nil {f : St → Ans (List PyData)} {tgt : Nat} {st : St} : comp2L f tgt [] st = some ([], st) := rfl
theorem comp2_cons {f : St → Ans (List PyData)} {tgt : Nat} {d : PyData} {x r l : List PyData} {st st2 st3 : St} (h2 : f (st.put tgt (.d d)) = some (x, st2)) (h3 : comp2L f tgt r st2 = some (l, st3)) : comp2L f tgt (d :: r) st = some (x ++ l, st3) := by
  show bd2 (f (st.put tgt (.d d))) _ _ = _
  rw [h2]
  unfold bd2 bd
  dsimp only
  rw [h3]
  rfl
theorem comp2K_ok {init : List (Option Nat)} {F : St → Ans (List PyData)} {tgt : Nat} {ds l : List PyData} {st st' : St} (h : comp2L F tgt ds (initSt init st) = some (l, st')) (hl : lenOk l = true) : comp2K init F tgt ds st = some (.list l, st) := by
  unfold comp2K
  rw [h]
  show (if lenOk l = true then _ else _) = _
  rw [if_pos hl]
theorem copy_comp {K : Or} {a : Slot} : ∀ (us : List Tm) (s2 : Slot), ∃ s2', compL (oneF (ev K (.v 2))) (.one 2) (encs us) [.un, a, s2, .un] = some (encs us, [.un, a, s2', .un])
  | [], s2 => ⟨s2, by exact comp_nil⟩
  | t :: r, s2 => by
    refine e11 (copy_comp (K := K) (a := a) r (.d (enc t))) fun s2' q => ?_
    refine ⟨s2', ?_⟩
    refine comp_some (st1 := [.un, a, .d (enc t), .un]) rfl ?_ q
    have := en_ok (K := K) (c := .v 2) (st := [.un, a, .d (enc t), .un]) (tr := []) rfl trivial
    rfl
theorem inner_comp {m : Nat} (hm : 1 ≤ m) : ∀ (ts : List Tm) (s1 s2 : Slot), ∃ s1' s2', comp2L (comp2F (ev (Kn m) (.call 184 [(.v 1)])) (ev (Kn m) (.v 2)) 2) 1 (encs ts) [.un, s1, s2, .un] = some (encs (inners ts), [.un, s1', s2', .un])
  | [], s1, s2 => ⟨s1, s2, by rw [encs, inners, encs]; exact comp2_nil⟩
  | t :: r, s1, s2 => by
    refine e11 (copy_comp (K := Kn m) (a := .d (enc t)) (inner t) s2) fun u2 q => ?_
    refine e21 (inner_comp hm r (.d (enc t)) u2) fun s1' s2' q2 => ?_
    refine ⟨s1', s2', ?_⟩
    rw [encs, inners, encs_append]
    refine comp2_cons (st2 := [.un, .d (enc t), u2, .un]) ?_ q2
    have h1 : ev (Kn m) (.call 184 [(.v 1)]) [.un, .d (enc t), s2, .un] = some (.list (encs (inner t)), [.un, .d (enc t), s2, .un]) := en_ok (tr := [.c (.list (encs (inner t)))]) rfl ⟨inner_ok hm, trivial⟩
    show bd (ev (Kn m) (.call 184 [(.v 1)]) [.un, .d (enc t), s2, .un]) _ = _
    rw [h1]
    exact q
noncomputable def t_great : CE := .cmp .Gt (.len (.v 3)) (.k (.int 0))
noncomputable def b_great : List CS := [.asgT [4, 5] [(.e (.bin .Add (.v 4) (.k (.int 1)))), (.e (.bin .Add (.v 5) (.len (.v 3))))], .cond (.or [(.cmp .Gt (.v 4) (.v 1)), (.cmp .Gt (.v 5) (.v 2))]) [.ret (.k (.bool true))] [], .cond (.cmp .Gt (.len (.comp [none, none, none, none, none, none] (.one 1) .it [(.v 3)] [c_great] (.k (.int 1)))) (.k (.int 0))) [.ret (.k (.bool true))] [], .cond (.and [(.cmp .Gt (.len (.v 3)) (.k (.int 100))), (.cmp .Gt (.bin .Add (.v 5) (.bif .sum [(.comp [none, none, none, none] (.one 1) .it [(.v 3)] [] (.len (.call 184 [(.v 1)])))])) (.v 2))]) [.ret (.k (.bool true))] [], .asgC 3 (.comp2 [none, none, none, none] 1 .it [(.v 3)] 2 (.call 184 [(.v 1)]) (.v 2))]
theorem great_loop {m : Nat} (hm : 1 ≤ m) (P : PyData) : ∀ (k : Nat) (ts : List Tm) (many here : Nat), levels k ts = true → many + k ≤ 100 → here + 100 * k ≤ 19000 →
    ∃ N many' here' : Nat, whileN (ev (Kn m) t_great) (execs (Kn m) b_great) N [.d P, .d (.int 120), .d (.int 20000), .ol (encs ts), .d (.int many), .d (.int here), .un, .un, .un] = some (none, [.d P, .d (.int 120), .d (.int 20000), .ol [], .d (.int many'), .d (.int here'), .un, .un, .un])
  | 0, ts, many, here, h, _, _ => by exact fTr h
  | k + 1, ts, many, here, h, h1, h2 => by
    unfold levels at h
    match ts, h with
    | [], h => exact ⟨1, many, here, while_stop (en_ok (tr := [.b false]) rfl ⟨cgt_is rfl, trivial⟩)⟩
    | t :: r, h =>
      dsimp only at h
      rw [Bool.and_eq_true, Bool.and_eq_true] at h
      refine and3 h fun h3 h4 h5 => ?_
      have h3 := Nat.le_of_ble_eq_true h3
      refine e31 (great_loop hm P k (inners (t :: r)) (many + 1) (here + (t :: r).length) h5 (by exact leZ h1) (by exact nle (fk (c3 here k ((t :: r).length)) [(1, .add (.var 0) (.mulL 100 (.add (.var 1) (.num 1))), .num 19000), (1, .var 2, .num 100), (1, .add (.num 19000) (.num 1), .add (.add (.var 0) (.var 2)) (.mulL 100 (.var 1)))] rfl (nl h2) (nl h3)))) fun N many' here' e => ?_
      have hil : (inners (t :: r)).length ≤ 100 := by
        cases k with
        | zero => exact fTr h5
        | succ k =>
          unfold levels at h5
          cases hi : inners (t :: r) with
          | nil => simp
          | cons a b =>
            rw [hi] at h5
            dsimp only at h5
            rw [Bool.and_eq_true] at h5
            exact Nat.le_of_ble_eq_true h5.1
      refine e11 (great_comp hm (List.replicate 4 .un) (t :: r) .un h4) fun u1 c1 => ?_
      refine e21 (inner_comp hm (t :: r) .un .un) fun v1 v2 c2 => ?_
      have len : ((encs (t :: r)).length : Nat) = (t :: r).length := encs_length _
      have k1 := compK_ok (init := [none, none, none, none, none, none]) (st := [.d P, .d (.int 120), .d (.int 20000), .d (.list (encs (t :: r))), .d (.int ((many : Int) + 1)), .d (.int ((here : Int) + ((encs (t :: r)).length : Nat))), .un, .un, .un]) c1 rfl
      have k2 := comp2K_ok (init := [none, none, none, none]) (st := [.d P, .d (.int 120), .d (.int 20000), .d (.list (encs (t :: r))), .d (.int ((many : Int) + 1)), .d (.int ((here : Int) + ((encs (t :: r)).length : Nat))), .un, .un, .un]) c2 (lenOk_encs (by exact leE hil rfl))
      refine ⟨N + 1, many', here', while_step (st1 := [.d P, .d (.int 120), .d (.int 20000), .ol (encs (t :: r)), .d (.int many), .d (.int here), .un, .un, .un]) (en_ok (tr := [.b true]) rfl ⟨cgt_is (decide_eq_true (by rw [len, List.length_cons]; omega)), trivial⟩)
        (st2 := [.d P, .d (.int 120), .d (.int 20000), .ol (encs (inners (t :: r))), .d (.int ((many : Int) + 1)), .d (.int ((here : Int) + ((encs (t :: r)).length : Nat))), .un, .un, .un])
        (rn_ok (tr := [.b false, .b false, .cv (.list []), .b false, .b false, .cv (.list (encs (inners (t :: r))))]) rfl ⟨k2, cgt_is (decide_eq_false (by omega)), cgt_is rfl, k1, cgt_is (decide_eq_false (by exact fun g0 => fk (c4 here k ((t :: r).length) ((encs (t :: r)).length)) [(1, .add (.var 0) (.mulL 100 (.add (.var 1) (.num 1))), .num 19000), (1, .var 2, .num 100), (1, .var 3, .var 2), (1, .add (.num 20000) (.num 1), .add (.var 0) (.var 3)), (100, .num 0, .var 1)] rfl (nl h2) (nl h3) (ne len) (g0) (n0 k))), cgt_is (decide_eq_false (by omega)), trivial⟩) ?_⟩
      rw [len]
      exact e
theorem great_ok {m : Nat} {t : Tm} (hm : 2 ≤ m) (h : levels 60 [t] = true) : (Kn m).call 196 [enc t, .int 120, .int 20000] = some (.bool false) := by
  refine e31 (great_loop (m := m - 1) (by exact leC hm rfl) (enc t) 60 [t] 0 0 h (by exact Nat.le_add_left _ _) (by exact Nat.le_add_left _ _)) fun N a b e => ?_
  exact run_ok (by exact Nat.le_of_lt hm) (tr := [.w none [.d (enc t), .d (.int 120), .d (.int 20000), .ol [], .d (.int a), .d (.int b), .un, .un, .un]]) rfl rfl rfl ⟨⟨N, e⟩, trivial⟩
set_option tactic.hygienic true in
theorem dterm_ok {m : Nat} {t r : Tm} (hm : 143 ≤ m) (h : dterm t = some r) : (Kn m).call 470 [enc t, .str "x"] = some (enc r) := by
  unfold dterm at h
  split at h
  · exact noS h
  · rename_i a ha
    split at h
    · exact noS h
    · rename_i hs
      split at h
      · exact noS h
      · rename_i b hb
        exact run_ok (by exact leA hm rfl) (tr := [.c (enc a), .c (enc b), .c (enc r)]) rfl rfl rfl ⟨simp_all 60 (m - 1) (by exact leC hm rfl) b r h, slope_all 60 (m - 1) (by exact leC hm rfl) a b (Nat.le_of_ble_eq_true hs) hb, simp_all 60 (m - 1) (by exact leC hm rfl) t a ha, trivial⟩
set_option tactic.hygienic true in
theorem derive_step {n : Nat} {t l : Tm} (h : derive (n + 1) t = some l) : ∃ f, derive n t = some f ∧ dterm f = some l ∧ teq l f = false ∧ levels 60 [l] = true ∧ dp l ≤ 64 := by
  rw [derive] at h
  split at h
  · exact noS h
  · rename_i f hf
    split at h
    · exact noS h
    · rename_i l' hl
      split at h
      · rename_i h1 h2
        obtain rfl := Option.some.inj h
        rw [Bool.and_eq_true] at h2
        exact ⟨f, hf, hl, h1, h2.1, Nat.le_of_ble_eq_true h2.2⟩
      · exact noS h
theorem derive_down {t : Tm} : ∀ (j k : Nat) {l : Tm}, derive (k + j) t = some l → ∃ f, derive k t = some f
  | 0, k, l, h => ⟨l, h⟩
  | j + 1, k, l, h => by
    refine e12 (derive_step (n := k + j) h) fun f hf _ => ?_
    exact derive_down j k hf
noncomputable def t_up : CE := .cmp .Lt (.v 5) (.v 2)
noncomputable def b_up : List CS := [.asg 6 (.e (.call 470 [(.v 4), (.v 1)])), .cond (.cmp .Eq (.v 6) (.v 4)) [.ret (.v 4)] [], .cond (.or [(.cmp .GtE (.v 5) (.v 3)), (.call 196 [(.v 6), (.k (.int 120)), (.k (.int 20000))])]) [.raise] [], .asgT [4, 5] [(.e (.v 6)), (.e (.bin .Add (.v 5) (.k (.int 1))))]]
theorem up_loop {m : Nat} (hm : 143 ≤ m) {t : Tm} (P : PyData) (R : St) : ∀ (j k : Nat) (f fn : Tm) (s6 : Slot), derive k t = some f → derive (k + j) t = some fn → k + j ≤ 900 →
    ∃ N s6', whileN (ev (Kn m) t_up) (execs (Kn m) b_up) N (.d P :: .d (.str "x") :: .d (.int (k + j : Nat)) :: .d (.int 1000) :: .d (enc f) :: .d (.int k) :: s6 :: R) = some (none, .d P :: .d (.str "x") :: .d (.int (k + j : Nat)) :: .d (.int 1000) :: .d (enc fn) :: .d (.int (k + j : Nat)) :: s6' :: R)
  | 0, k, f, fn, s6, hf, hn, hl => by
    have e : derive k t = some fn := hn
    rw [hf] at e
    obtain rfl := Option.some.inj e
    exact ⟨1, s6, while_stop (en_ok (tr := [.b false]) rfl ⟨clt_is (decide_eq_false (by exact fun g0 => fk (c1 k) [(1, .add (.var 0) (.num 1), .add (.var 0) (.num 0))] rfl (g0))), trivial⟩)⟩
  | j + 1, k, f, fn, s6, hf, hn, hl => by
    have e1 : k + (j + 1) = (k + 1) + j := by exact Nat.le_antisymm (nle (fk (c2 k j) [(1, .add (.add (.add (.var 0) (.num 1)) (.var 1)) (.num 1), .add (.var 0) (.add (.var 1) (.num 1)))] rfl )) (nle (fk (c2 k j) [(1, .add (.add (.var 0) (.add (.var 1) (.num 1))) (.num 1), .add (.add (.var 0) (.num 1)) (.var 1))] rfl ))
    rw [e1] at hn ⊢
    refine e11 (derive_down j (k + 1) hn) fun l hl1 => ?_
    refine e15 (derive_step hl1) fun f' hf' hd hte hlv hdp => ?_
    rw [hf] at hf'
    obtain rfl := Option.some.inj hf'
    refine e21 (up_loop hm P R j (k + 1) l fn (.d (enc l)) hl1 hn (by exact leZ hl)) fun N s6' q => ?_
    exact ⟨N + 1, s6', while_step (en_ok (tr := [.b true]) rfl ⟨clt_is (decide_eq_true (by exact ilt (fk (c2 k j) [(1, .num 0, .var 1), (1, .add (.add (.var 0) (.num 1)) (.var 1), .var 0)] rfl (n0 j)))), trivial⟩)
      (rn_ok (tr := [.c (enc l), .qq false, .b false, .c (.bool false)]) rfl ⟨great_ok (by exact leA hm rfl) hlv, cge_is (decide_eq_false (by exact fun g0 => fk (c2 k j) [(1, .add (.var 0) (.add (.var 1) (.num 1)), .num 900), (1, .num 1000, .var 0), (1, .num 0, .var 1)] rfl (nl hl) (g0) (n0 j))), eq_enc (.inl hdp) hte, dterm_ok hm hd, trivial⟩) q⟩
theorem up_ok {m n : Nat} {t r : Tm} (hm : 144 ≤ m) (hn : n ≤ 900) (h : derive n t = some r) : (Kn m).call 477 [enc t, .str "x", .int n, .int 1000] = some (enc r) := by
  have h' : derive (0 + n) t = some r := by rw [Nat.zero_add]; exact h
  refine e11 (derive_down n 0 h') fun f0 h0 => ?_
  refine e21 (up_loop (m := m - 1) (by exact leC hm rfl) (enc t) (List.replicate 6 .un) n 0 f0 r .un h0 h' (by exact le0 hn rfl)) fun N s6 e => ?_
  rw [Nat.zero_add] at e
  exact run_ok (by exact leA hm rfl) (tr := [.c (enc f0), .w none (.d (enc t) :: .d (.str "x") :: .d (.int n) :: .d (.int 1000) :: .d (enc r) :: .d (.int n) :: s6 :: List.replicate 6 .un)]) rfl rfl rfl ⟨⟨N, e⟩, simp_all 60 (m - 1) (by exact leC hm rfl) t f0 h0, trivial⟩
theorem many_ok {m n : Nat} {t r : Tm} (hm : 145 ≤ m) (hn : n ≤ 900) (h : derive n t = some r) : (Kn m).call 484 [enc t, .str "x", .int n] = some (enc r) :=
  run_ok (by exact leA hm rfl) (tr := [.c (enc r)]) rfl rfl rfl ⟨up_ok (by exact leC hm rfl) hn h, trivial⟩
theorem smN_lt {v : Nat} (h : smN v = true) : v < 1000000 := by simpa [smN, Nat.blt_eq] using h
theorem sm_nat {v : Nat} (h : v < 4611686018427387904) : sm (v : Int) = true := sm_lt'.mpr (by exact h)
theorem fmod_nat (a : Nat) : ((a : Nat) : Int).fmod 251 = ((a % 251 : Nat) : Int) := by rw [Int.fmod_eq_emod_of_nonneg _ (by exact Int.natCast_nonneg _)]; rfl
theorem powK (v k : Nat) : ((v : Nat) : Int) ^ k = ((v ^ k : Nat) : Int) := rfl
theorem under_ok {m v : Nat} (hm : 1 ≤ m) (hv : v < 1000000) : (Kn m).call 499 [.int v] = some (.int (under v : Nat)) := by
  have e : (((v : Nat) : Int) ^ 249).fmod 251 = ((under v : Nat) : Int) := by rw [powK, fmod_nat]; rfl
  have h : (Kn m).call 499 [.int v] = some (.int ((((v : Nat) : Int) ^ 249).fmod 251)) := run_ok hm (tr := []) rfl rfl rfl ⟨⟨by decide, rfl⟩, by rw [sm_nat (by exact leE hv rfl)]; rfl, trivial⟩
  rw [h, e]
theorem under_lt (v : Nat) : under v < 251 := Nat.mod_lt _ (by decide)
theorem atV_lt (f : Fn) (v : Nat) : f.atV v < 251 := by cases f <;> exact Nat.mod_lt _ (by decide)
theorem l_call_ok {m v : Nat} {f : Fn} (hm : 1 ≤ m) (hv : v < 1000000) : (Kn m).call 506 [.str f.str, .int v] = some (.int (f.atV v : Nat)) := by
  have hs := sm_nat (v := v) (by exact leE hv rfl)
  have ob : (sm (v : Int) || sm (v : Int)) = true := by rw [hs]; rfl
  have go : ∀ e : Int, e.fmod 251 = ((f.atV v : Nat) : Int) → (Kn m).call 506 [.str f.str, .int v] = some (.int (e.fmod 251)) → (Kn m).call 506 [.str f.str, .int v] = some (.int (f.atV v : Nat)) := fun e he h => by rw [h, he]
  cases f with
  | sin => exact go (2 * v) (fmod_nat (2 * v)) (run_ok hm (tr := []) rfl rfl rfl ⟨⟨by decide, rfl⟩, ob, rfl, rfl, ob, rfl, trivial⟩)
  | cos => exact go (1 + v * v) (fmod_nat (1 + v * v)) (run_ok hm (tr := []) rfl rfl rfl ⟨⟨by decide, rfl⟩, ob, rfl, rfl, ob, rfl, trivial⟩)
  | log =>
    refine go (v - 1) ?_ (run_ok hm (tr := []) rfl rfl rfl ⟨⟨by decide, rfl⟩, ob, rfl, rfl, ob, rfl, trivial⟩)
    show ((v : Int) - 1).fmod 251 = (((v + 250) % 251 : Nat) : Int)
    rw [Int.fmod_eq_emod_of_nonneg _ (by exact Int.natCast_nonneg _)]
    rw [← Int.add_emod_right, show (v : Int) - 1 + 251 = ((v + 250 : Nat) : Int) from Int.le_antisymm (ile (fk (c1 v) [(1, .add (.add (.var 0) (.num 250)) (.num 1), .add (.sub (.var 0) (.num 1)) (.num 251))] rfl)) (ile (fk (c1 v) [(1, .add (.add (.sub (.var 0) (.num 1)) (.num 251)) (.num 1), .add (.var 0) (.num 250))] rfl))]; rfl
  | exp => exact go (1 + 3 * v) (fmod_nat (1 + 3 * v)) (run_ok hm (tr := []) rfl rfl rfl ⟨⟨by decide, rfl⟩, ob, rfl, rfl, ob, rfl, trivial⟩)
  | sinh => exact go (7 * v + 2) (fmod_nat (7 * v + 2)) (run_ok hm (tr := []) rfl rfl rfl ⟨⟨by decide, rfl⟩, ob, rfl, rfl, ob, rfl, trivial⟩)
  | cosh => exact go (v * v + 5) (fmod_nat (v * v + 5)) (run_ok hm (tr := []) rfl rfl rfl ⟨⟨by decide, rfl⟩, ob, rfl, rfl, ob, rfl, trivial⟩)
noncomputable def b_val : List CS := [.asg 6 (.e (.call 513 [(.v 5), (.v 1)])), .asg 4 (.e (.bin .Mod (.ite (.cmp .Eq (.idx (.v 0) (.k (.int 0))) (.k (.str "sum"))) (.bin .Add (.v 4) (.v 6)) (.bin .Mult (.v 4) (.v 6))) (.k (.int 251))))]
theorem ipow_lt {v : Nat} {m : Int} {r : Nat} (h : ipow v m = some r) : r < 251 := by
  cases m with
  | ofNat k => cases k with
    | zero => exact Option.some.inj h ▸ Nat.mod_lt _ (by decide)
    | succ k => exact and2 (if_some h) fun _ h => Option.some.inj h ▸ Nat.mod_lt _ (by decide)
  | negSucc k => exact and2 (if_some h) fun _ h => Option.some.inj h ▸ Nat.mod_lt _ (by decide)
theorem pow_val_ok {m v : Nat} {b : Tm} {p q : Int} {r x : Nat} (hm : 2 ≤ m) (hb : (Kn (m - 1)).call 513 [enc b, .int x] = some (.int v)) (hv : v < 1000000) (h : ipow v p = some r) : (Kn m).call 513 [enc (.pow b (.num p q)), .int x] = some (.int r) := by
  have hu := under_ok (m := m - 1) (v := v) (by exact leC hm rfl) hv
  have hsv := sm_nat (v := v) (by exact leE hv rfl)
  have hsu := sm_nat (v := under v) (by have := under_lt v; exact leE this rfl)
  cases p with
  | ofNat k => cases k with
    | zero =>
      obtain rfl := Option.some.inj h
      have e : (((under v : Nat) : Int) ^ 0).fmod 251 = ((under v ^ 0 % 251 : Nat) : Int) := by rw [powK, fmod_nat]
      have q : (Kn m).call 513 [enc (.pow b (.num (Int.ofNat 0) q)), .int x] = some (.int ((((under v : Nat) : Int) ^ 0).fmod 251)) := run_ok (by exact Nat.le_of_lt hm) (tr := [.c (.int v), .b false, .c (.int (under v))]) rfl rfl rfl ⟨⟨by decide, rfl⟩, by rw [hsu]; rfl, hu, cgt_is rfl, hb, trivial⟩
      rw [q, e]
    | succ k =>
      refine and2 (if_some h) fun hk h => ?_
      have hk := Nat.le_of_ble_eq_true hk
      obtain rfl := Option.some.inj h
      have e : (((v : Nat) : Int) ^ (k + 1)).fmod 251 = ((v ^ (k + 1) % 251 : Nat) : Int) := by rw [powK, fmod_nat]
      have q : (Kn m).call 513 [enc (.pow b (.num (Int.ofNat (k + 1)) q)), .int x] = some (.int ((((v : Nat) : Int) ^ (k + 1)).fmod 251)) := run_ok (by exact Nat.le_of_lt hm) (tr := [.c (.int v), .b true]) rfl rfl rfl ⟨⟨by decide, rfl⟩, by
        rw [hsv]
        simp only [Bool.true_and, Bool.and_eq_true, decide_eq_true_eq]
        have e9 : Int.ofNat (k + 1) = ((k + 1 : Nat) : Int) := rfl
        constructor
        · show (0 : Int) ≤ ((k + 1 : Nat) : Int); exact Int.natCast_nonneg _
        · exact ile (fk (c2 k (Int.ofNat (k + 1))) [(1, .var 0, .num 1000), (1, .var 1, .add (.var 0) (.num 1)), (1, .add (.num 100000) (.num 1), .var 1)] rfl (nl hk) (Int.le_of_eq e9)), cgt_is (decide_eq_true (by show (0 : Int) < ((k + 1 : Nat) : Int); exact ilt (fk (c1 k) [(1, .num 0, .var 0), (1, .add (.var 0) (.num 1), .num 0)] rfl (n0 k)))), hb, trivial⟩
      rw [q, e]
  | negSucc k =>
    refine and2 (if_some h) fun hk h => ?_
    have hk := Nat.le_of_ble_eq_true hk
    obtain rfl := Option.some.inj h
    have e0 : (0 : Int) - Int.negSucc k = ((k + 1 : Nat) : Int) := (Int.zero_sub _).trans rfl
    have e : (((under v : Nat) : Int) ^ ((0 : Int) - Int.negSucc k).toNat).fmod 251 = ((under v ^ (k + 1) % 251 : Nat) : Int) := by rw [e0, Int.toNat_natCast, powK, fmod_nat]
    have q : (Kn m).call 513 [enc (.pow b (.num (Int.negSucc k) q)), .int x] = some (.int ((((under v : Nat) : Int) ^ ((0 : Int) - Int.negSucc k).toNat).fmod 251)) := run_ok (by exact Nat.le_of_lt hm) (tr := [.c (.int v), .b false, .c (.int (under v))]) rfl rfl rfl ⟨⟨by decide, rfl⟩, by
      rw [hsu, e0]
      simp only [Bool.true_and, Bool.and_eq_true, decide_eq_true_eq]
      exact ⟨ile (fk (c1 k) [(1, .num 0, .var 0), (1, .add (.add (.var 0) (.num 1)) (.num 1), .num 0)] rfl (n0 k)), ile (fk (c1 k) [(1, .var 0, .num 1000), (1, .add (.num 100000) (.num 1), .add (.var 0) (.num 1))] rfl (nl hk))⟩, hu, cgt_is (decide_eq_false (by exact of_decide_eq_true rfl)), hb, trivial⟩
    rw [q, e]
mutual
theorem value_ok (x : Nat) (hx : x < 1000) : ∀ (t : Tm) (m v : Nat), dp t + 1 ≤ m → value x t = some v → (Kn m).call 513 [enc t, .int x] = some (.int v) ∧ v < 1000
  | .num p q, m, v, hm, h => by
    rw [dp] at hm
    cases q with
    | negSucc => exact noS h
    | ofNat k =>
      refine and2 (if_some h) fun hk h => ?_
      obtain rfl := Option.some.inj h
      have hk := smN_lt hk
      have hu := under_lt k
      have h0 : 0 ≤ (p * ((under k : Nat) : Int)).fmod 251 := Int.fmod_nonneg_of_pos _ (by exact Int.natCast_nonneg _)
      have h1 : (p * ((under k : Nat) : Int)).fmod 251 < 251 := Int.fmod_lt_of_pos _ (by exact Int.natCast_nonneg _)
      have e : (((p * ((under k : Nat) : Int)).fmod 251).toNat : Int) = (p * ((under k : Nat) : Int)).fmod 251 := Int.toNat_of_nonneg h0
      refine ⟨?_, (Int.toNat_lt h0).mpr (Int.lt_trans h1 (by decide))⟩
      rw [e]
      exact run_ok (by exact Nat.le_of_lt hm) (tr := [.c (.int (under k))]) rfl rfl rfl ⟨⟨by decide, rfl⟩, by rw [sm_nat (v := under k) (by exact leE hu rfl), Bool.or_true], under_ok (by exact leC hm rfl) hk, trivial⟩
  | .x, m, v, hm, h => by
    obtain rfl := Option.some.inj h
    exact ⟨run_ok (by exact Nat.le_of_lt hm) (tr := []) rfl rfl rfl trivial, hx⟩
  | .call f a, m, v, hm, h => by
    rw [dp] at hm
    refine bindE h fun w hw h => and2 (if_some h) fun hs h => ?_
    obtain rfl := Option.some.inj h
    have hs := smN_lt hs
    refine and2 (value_ok x hx a (m - 1) w (by exact nle (fk (c3 (dp a) m ((m - 1 : Nat))) [(1, .add (.add (.var 0) (.num 2)) (.num 1), .var 1), (1, .var 1, .add (.var 2) (.num 1)), (1, .add (.var 2) (.num 1), .add (.var 0) (.num 1))] rfl (nl hm) (nl (sA m 1)))) hw) fun ha _ => ?_
    have := atV_lt f w
    exact ⟨run_ok (by exact leA hm rfl) (tr := [.c (.int w), .c (.int (f.atV w))]) rfl rfl rfl ⟨l_call_ok (by exact leC hm rfl) hs, ha, trivial⟩, by exact leE this rfl⟩
  | .pow b e, m, v, hm, h => by
    rw [dp] at hm
    have hm1 : dp b + 1 ≤ m - 1 := by have := Nat.le_max_left (dp b) (dp e); have h9 : (dp b).max (dp e) = max (dp b) (dp e) := rfl; exact nle (fk (c5 ((dp b).max (dp e)) m ((max (dp b) (dp e) : Nat)) ((m - 1 : Nat)) (dp b)) [(1, .add (.add (.var 0) (.num 1)) (.num 1), .var 1), (1, .var 2, .var 0), (1, .var 4, .var 2), (1, .var 1, .add (.var 3) (.num 1)), (1, .add (.var 3) (.num 1), .add (.var 4) (.num 1))] rfl (nl hm) (ne h9.symm) (nl (Nat.le_max_left (dp b) (dp e))) (nl (sA m 1)))
    refine bindE h fun w hw h => and2 (if_some h) fun hs h => ?_
    cases e with
    | num p q =>
      refine and2 (value_ok x hx b (m - 1) w hm1 hw) fun hb _ => ?_
      have := ipow_lt h
      exact ⟨pow_val_ok (by exact leA hm rfl) hb (smN_lt hs) h, by exact leE this rfl⟩
    | _ => exact noS h
  | .sum ts, m, v, hm, h => by
    rw [dp] at hm
    refine e22 (sumV_ok x hx ts (m - 1) (enc (.sum ts)) 0 v .un .un (by exact nle (fk (c3 (dps ts) m ((m - 1 : Nat))) [(1, .add (.add (.var 0) (.num 2)) (.num 1), .var 1), (1, .var 1, .add (.var 2) (.num 1)), (1, .add (.var 2) (.num 1), .add (.var 0) (.num 1))] rfl (nl hm) (nl (sA m 1)))) (by exact Nat.succ_pos _) ⟨ts, rfl⟩ h) fun s5 s6 e hv => ?_
    exact ⟨run_ok (by exact leA hm rfl) (tr := [.f none (.d (enc (.sum ts)) :: .d (.int x) :: .un :: .un :: .d (.int v) :: s5 :: s6 :: List.replicate 3 .un)]) rfl rfl rfl ⟨e, trivial⟩, hv⟩
  | .prod ts, m, v, hm, h => by
    rw [dp] at hm
    refine e22 (prodV_ok x hx ts (m - 1) (enc (.prod ts)) 1 v .un .un (by exact nle (fk (c3 (dps ts) m ((m - 1 : Nat))) [(1, .add (.add (.var 0) (.num 2)) (.num 1), .var 1), (1, .var 1, .add (.var 2) (.num 1)), (1, .add (.var 2) (.num 1), .add (.var 0) (.num 1))] rfl (nl hm) (nl (sA m 1)))) (by exact Nat.le_add_left _ _) ⟨ts, rfl⟩ h) fun s5 s6 e hv => ?_
    exact ⟨run_ok (by exact leA hm rfl) (tr := [.f none (.d (enc (.prod ts)) :: .d (.int x) :: .un :: .un :: .d (.int v) :: s5 :: s6 :: List.replicate 3 .un)]) rfl rfl rfl ⟨e, trivial⟩, hv⟩
theorem sumV_ok (x : Nat) (hx : x < 1000) : ∀ (ts : List Tm) (m : Nat) (P : PyData) (f v : Nat) (s5 s6 : Slot), dps ts + 1 ≤ m → f < 1000 → (∃ us, P = enc (.sum us)) → sumVL x ts f = some v →
    ∃ s5' s6', forL (execs (Kn m) b_val) (.one 5) (encs ts) (.d P :: .d (.int x) :: .un :: .un :: .d (.int f) :: s5 :: s6 :: List.replicate 3 .un) = some (none, .d P :: .d (.int x) :: .un :: .un :: .d (.int v) :: s5' :: s6' :: List.replicate 3 .un) ∧ v < 1000
  | [], m, P, f, v, s5, s6, hm, hf, hP, h => by
    obtain rfl := Option.some.inj h
    exact ⟨s5, s6, by exact for_nil, hf⟩
  | t :: r, m, P, f, v, s5, s6, hm, hf, hP, h => by
    rw [dps] at hm
    have h9 : (dp t).max (dps r) = max (dp t) (dps r) := rfl
    refine bindE h fun w hw h => ?_
    refine and2 (value_ok x hx t m w (by exact mxA hm) hw) fun ht hwl => ?_
    have hlt : (f + w) % 251 < 251 := Nat.mod_lt _ (by decide)
    refine e22 (sumV_ok x hx r m P ((f + w) % 251) v (.d (enc t)) (.d (.int w)) (by exact mxB hm) (by exact leE hlt rfl) hP h) fun s5' s6' e hv => ?_
    refine ⟨s5', s6', ?_, hv⟩
    refine e11 hP fun us eq1 => ?_; subst eq1
    have e1 : (((f : Nat) : Int) + (w : Nat)).fmod 251 = (((f + w) % 251 : Nat) : Int) := fmod_nat (f + w)
    rw [← e1] at e
    exact for_step (st1 := .d (enc (.sum us)) :: .d (.int x) :: .un :: .un :: .d (.int f) :: .d (enc t) :: s6 :: List.replicate 3 .un) rfl (rn_ok (tr := [.c (.int w)]) rfl ⟨⟨by decide, rfl⟩, ht, trivial⟩) e
theorem prodV_ok (x : Nat) (hx : x < 1000) : ∀ (ts : List Tm) (m : Nat) (P : PyData) (f v : Nat) (s5 s6 : Slot), dps ts + 1 ≤ m → f < 1000 → (∃ us, P = enc (.prod us)) → prodV x ts f = some v →
    ∃ s5' s6', forL (execs (Kn m) b_val) (.one 5) (encs ts) (.d P :: .d (.int x) :: .un :: .un :: .d (.int f) :: s5 :: s6 :: List.replicate 3 .un) = some (none, .d P :: .d (.int x) :: .un :: .un :: .d (.int v) :: s5' :: s6' :: List.replicate 3 .un) ∧ v < 1000
  | [], m, P, f, v, s5, s6, hm, hf, hP, h => by
    obtain rfl := Option.some.inj h
    exact ⟨s5, s6, by exact for_nil, hf⟩
  | t :: r, m, P, f, v, s5, s6, hm, hf, hP, h => by
    rw [dps] at hm
    have h9 : (dp t).max (dps r) = max (dp t) (dps r) := rfl
    refine bindE h fun w hw h => and2 (if_some h) fun _ h => ?_
    refine and2 (value_ok x hx t m w (by exact mxA hm) hw) fun ht hwl => ?_
    have hlt : f * w % 251 < 251 := Nat.mod_lt _ (by decide)
    refine e22 (prodV_ok x hx r m P (f * w % 251) v (.d (enc t)) (.d (.int w)) (by exact mxB hm) (by exact leE hlt rfl) hP h) fun s5' s6' e hv => ?_
    refine ⟨s5', s6', ?_, hv⟩
    refine e11 hP fun us eq1 => ?_; subst eq1
    have e1 : (((f : Nat) : Int) * (w : Nat)).fmod 251 = ((f * w % 251 : Nat) : Int) := fmod_nat (f * w)
    rw [← e1] at e
    exact for_step (st1 := .d (enc (.prod us)) :: .d (.int x) :: .un :: .un :: .d (.int f) :: .d (enc t) :: s6 :: List.replicate 3 .un) rfl (rn_ok (tr := [.c (.int w)]) rfl ⟨⟨by decide, rfl⟩, by rw [sm_nat (v := f) (by exact leE hf rfl)]; rfl, ht, trivial⟩) e
end
theorem factor_ok {m : Nat} {k : Nm} {a : Int} (hm : 1 ≤ m) : (Kn m).call 520 [.str k.str, .int a] = some (enc (factorT k a)) := by
  match m, hm with
  | n + 1, _ => cases k <;> kernel_rfl
abbrev iL (l : List Int) : List PyData := l.map .int
theorem iL_append (a b : List Int) : iL (a ++ b) = iL a ++ iL b := List.map_append
theorem lenOk_iL {l : List Int} (h : l.length ≤ 1000) : lenOk (iL l) = true := lenOk_le'.mpr (by rw [List.length_map]; exact leE h rfl)
theorem lenOk_snoc {l : List Int} {d : PyData} (h : l.length ≤ 1000) : lenOk (iL l ++ [d]) = true := lenOk_le'.mpr (by rw [List.length_append, List.length_map]; simp only [List.length_cons, List.length_nil]; exact ltE h rfl)
theorem idx_last {l : List Int} {a : Int} : idxV (.list (iL (l ++ [a]))) (.int (-1)) = some (.int a) := by
  rw [iL_append]
  show itemV (iL l ++ [.int a]) (-1) = _
  unfold itemV seqIndex?
  have e : ((iL l ++ [PyData.int a]).length : Int) = (l.length : Int) + 1 := by rw [List.length_append, List.length_map]; simp
  rw [e]
  have h1 : ((-1 : Int) < 0) := by exact Int.natCast_nonneg _
  simp only [h1, if_true]
  have h2 : (decide ((0 : Int) ≤ -1 + ((l.length : Int) + 1)) && decide (-1 + ((l.length : Int) + 1) < (l.length : Int) + 1)) = true := by
    rw [Bool.and_eq_true, decide_eq_true_eq, decide_eq_true_eq]; exact ⟨ile (fk (c1 l.length) [(1, .num 0, .var 0), (1, .add (.add (.neg (.num 1)) (.add (.var 0) (.num 1))) (.num 1), .num 0)] rfl (n0 l.length)), ilt (fk (c1 l.length) [(1, .add (.var 0) (.num 1), .add (.neg (.num 1)) (.add (.var 0) (.num 1)))] rfl )⟩
  rw [if_pos h2]
  have e2 : (-1 + ((l.length : Int) + 1)).toNat = (iL l).length := by rw [List.length_map]; omega
  dsimp only
  rw [e2, List.getElem?_append_right (Nat.le_refl _), Nat.sub_self]
  rfl
noncomputable def b_by : List CS := [.app 5 (.bin .Sub (.k (.int 0)) (.bin .Mult (.bin .Mult (.v 6) (.idx (.v 5) (.neg (.k (.int 1))))) (.v 4)))]
theorem by_loop {K : Or} {w : Int} (hw : sm w = true) (a b c d : Slot) (R : St) : ∀ (j i : Nat) (acc : List Int) (last : Int) (s6 : Slot), acc.length + j ≤ 900 → i + j ≤ 900 →
    ∃ s6', forL (execs K b_by) (.one 6) (rangeD ((i + 1 : Nat) : Int) j) (a :: b :: c :: d :: .d (.int w) :: .ol (iL (acc ++ [last])) :: s6 :: R) = some (none, a :: b :: c :: d :: .d (.int w) :: .ol (iL (acc ++ [last] ++ byT w j last i)) :: s6' :: R)
  | 0, i, acc, last, s6, _, _ => ⟨s6, by rw [rangeD, byT, List.append_nil]; exact for_nil⟩
  | j + 1, i, acc, last, s6, h1, h2 => by
    obtain ⟨s6', e⟩ := by_loop hw a b c d R j (i + 1) (acc ++ [last]) (0 - ((i + 1 : Nat) : Int) * last * w) (.d (.int ((i + 1 : Nat) : Int))) (by rw [List.length_append]; simp only [List.length_cons, List.length_nil]; exact leZ h1) (by exact leZ h2)
    rw [iL_append (acc ++ [last]), List.append_assoc (acc ++ [last])] at e
    refine ⟨s6', ?_⟩
    rw [rangeD, byT]
    exact for_step (st1 := a :: b :: c :: d :: .d (.int w) :: .ol (iL (acc ++ [last])) :: .d (.int ((i + 1 : Nat) : Int)) :: R) rfl (rn_ok (tr := [.iv (.int last)]) rfl ⟨lenOk_snoc (by rw [List.length_append]; simp only [List.length_cons, List.length_nil]; exact leP h1 rfl), by rw [hw, Bool.or_true], by rw [sm_nat (by exact nlt (fk (c2 i j) [(1, .add (.var 0) (.add (.var 1) (.num 1)), .num 900), (1, .num 0, .var 1), (1, .num 4611686018427387904, .add (.var 0) (.num 1))] rfl (nl h2) (n0 j)))]; rfl, idx_last, trivial⟩) e
noncomputable def b_row : List CS := [.asgU [9, 10] (.idx (.v 8) (.bin .Mod (.v 6) (.len (.v 8)))), .app 5 (.bin .Mult (.bin .Mult (.v 10) (.bin .Pow (.v 1) (.v 6))) (.call 506 [(.v 9), (.bin .Mult (.v 1) (.v 2))]))]
noncomputable def rowP (f : Fn) (s : Int) : PyData := .tuple [.str f.str, .int s]
noncomputable def rows (k : Nm) : List PyData := match k with
  | .sin => [rowP .sin 1, rowP .cos 1, rowP .sin (-1), rowP .cos (-1)]
  | .cos => [rowP .cos 1, rowP .sin (-1), rowP .cos (-1), rowP .sin 1]
  | .sinh => [rowP .sinh 1, rowP .cosh 1]
  | _ => [rowP .exp 1]
theorem fmod_k (i n : Nat) : ((i : Nat) : Int).fmod (n : Nat) = ((i % n : Nat) : Int) := by rw [Int.fmod_eq_emod_of_nonneg _ (by exact Int.natCast_nonneg _)]; rfl
theorem row_at (k : Nm) (i : Nat) : idxV (.list (rows k)) (.int (((i : Nat) : Int).fmod ((rows k).length : Nat))) = some (rowP (row k i).1 (row k i).2) := by
  rw [fmod_k]
  refine (itemV_nat' _ _).trans ?_
  have h1 : ∀ j, j % 1 = 0 := fun j => Nat.mod_one j
  have h2 := Nat.mod_lt i (show 2 > 0 by exact Nat.le_succ _)
  have h4 := Nat.mod_lt i (show 4 > 0 by exact Nat.succ_pos _)
  cases k with
  | sin =>
    unfold row
    match h : i % 4, h4 with
    | 0, _ => rfl
    | 1, _ => rfl
    | 2, _ => rfl
    | 3, _ => rfl
  | cos =>
    unfold row
    match h : i % 4, h4 with
    | 0, _ => rfl
    | 1, _ => rfl
    | 2, _ => rfl
    | 3, _ => rfl
  | sinh =>
    unfold row
    match h : i % 2, h2 with
    | 0, _ => rfl
    | 1, _ => rfl
  | log => show (rows .log)[i % 1]? = _; rw [h1]; rfl
  | byl => show (rows .byl)[i % 1]? = _; rw [h1]; rfl
  | exp => show (rows .exp)[i % 1]? = _; rw [h1]; rfl
theorem rows_len (k : Nm) : (rows k).length ≠ 0 ∧ (rows k).length < 100 := by cases k <;> (constructor <;> decide)
theorem row_loop {m : Nat} (hm : 1 ≤ m) {k : Nm} {a x : Nat} (ha : a ≤ 100) (hx : x ≤ 100) (s0 s3 s4 s7 : Slot) (R : St) : ∀ (j i : Nat) (acc : List Int) (s6 s9 s10 : Slot), acc.length + j ≤ 900 → i + j ≤ 900 →
    ∃ s6' s9' s10', forL (execs (Kn m) b_row) (.one 6) (rangeD ((i : Nat) : Int) j) (s0 :: .d (.int a) :: .d (.int x) :: s3 :: s4 :: .ol (iL acc) :: s6 :: s7 :: .d (.list (rows k)) :: s9 :: s10 :: R) = some (none, s0 :: .d (.int a) :: .d (.int x) :: s3 :: s4 :: .ol (iL (acc ++ slT k a x j i)) :: s6' :: s7 :: .d (.list (rows k)) :: s9' :: s10' :: R)
  | 0, i, acc, s6, s9, s10, _, _ => ⟨s6, s9, s10, by rw [rangeD, slT, List.append_nil]; exact for_nil⟩
  | j + 1, i, acc, s6, s9, s10, h1, h2 => by
    have hax : a * x < 1000000 := by have : a * x ≤ 100 * 100 := Nat.mul_le_mul ha hx; exact ltE this rfl
    refine e31 (row_loop hm (k := k) ha hx s0 s3 s4 s7 R j (i + 1) (acc ++ [(row k i).2 * (a : Int) ^ i * (((row k i).1.atV (a * x) : Nat) : Int)]) (.d (.int i)) (.d (.str (row k i).1.str)) (.d (.int (row k i).2)) (by rw [List.length_append]; simp only [List.length_cons, List.length_nil]; exact leZ h1) (by exact leZ h2)) fun s6' s9' s10' e => ?_
    rw [iL_append acc, List.append_assoc] at e
    refine ⟨s6', s9', s10', ?_⟩
    rw [rangeD, slT]
    have hsm : sm (row k i).2 = true := by unfold row; cases k <;> (dsimp only; (try split) <;> rfl)
    have hlc := l_call_ok (m := m) (v := a * x) (f := (row k i).1) hm hax
    refine and2 (rows_len k) fun r1 r2 => ?_
    exact for_step (st1 := s0 :: .d (.int a) :: .d (.int x) :: s3 :: s4 :: .ol (iL acc) :: .d (.int i) :: s7 :: .d (.list (rows k)) :: s9 :: s10 :: R) rfl
      (rn_ok (tr := [.iv (rowP (row k i).1 (row k i).2), .c (.int ((row k i).1.atV (a * x) : Nat))]) rfl ⟨lenOk_snoc (by exact leF h1 rfl), by rw [sm_nat (v := (row k i).1.atV (a * x)) (by have := atV_lt (row k i).1 (a * x); exact leE this rfl), Bool.or_true], hlc, by rw [sm_nat (by exact ltE ha rfl)]; rfl, by rw [hsm]; rfl, by
        rw [sm_nat (by exact ltE ha rfl)]
        simp only [Bool.true_and, Bool.and_eq_true, decide_eq_true_eq]
        exact ⟨ile (fk (c1 i) [(1, .num 0, .var 0), (1, .add (.var 0) (.num 1), .num 0)] rfl (n0 i)), ile (fk (c2 i j) [(1, .add (.var 0) (.add (.var 1) (.num 1)), .num 900), (1, .num 0, .var 1), (1, .add (.num 100000) (.num 1), .var 0)] rfl (nl h2) (n0 j))⟩, row_at k i, ⟨by exact fun g0 => fk (c1 ((rows k).length)) [(1, .add (.num 0) (.num 1), .var 0), (1, .var 0, .num 0)] rfl (nt (Nat.pos_of_ne_zero r1)) (Int.le_of_eq g0), sm_nat (by exact leE r2 rfl)⟩, trivial⟩) e
theorem upto_iL {l : List Int} {n : Nat} (h : n ≤ 1000) : uptoV (.list (iL l)) (.int (n : Nat)) = some (.list (iL (l.take n))) := by
  rw [uptoV, if_pos (by exact ⟨ile (fk (c1 n) [(1, .num 0, .var 0), (1, .add (.var 0) (.num 1), .num 0)] rfl (n0 n)), ile (fk (c1 n) [(1, .var 0, .num 1000), (1, .add (.num 1048576) (.num 1), .var 0)] rfl (nl h))⟩), Int.toNat_natCast]
  simp only [iL, List.map_take]
noncomputable def tabS : List (Str × PyData) := [("sin", .list (rows .sin)), ("cos", .list (rows .cos)), ("exp", .list (rows .exp)), ("sinh", .list (rows .sinh))]
theorem slopes_by {m a x n : Nat} (hm : 2 ≤ m) (ha : a ≤ 100) (hx : x ≤ 100) (hn : n ≤ 100) (k : Nm) (hk : k = .byl ∨ k = .log) : ∃ s6, execs (Kn (m - 1)) (match fc_l_slopes.body with
    | .cond _ b _ :: _ => b.take 3
    | _ => []) (fst0 fc_l_slopes [.str k.str, .int a, .int x, .int n]) = some (none, .d (.str k.str) :: .d (.int a) :: .d (.int x) :: .d (.int n) :: .d (.int (under (x + a) : Nat)) :: .ol (iL (((under (x + a) : Nat) : Int) :: byT (under (x + a) : Nat) n (under (x + a) : Nat) 0)) :: s6 :: List.replicate 8 .un) := by
  have hu := under_lt (x + a)
  refine e11 (by_loop (K := Kn (m - 1)) (w := (under (x + a) : Nat)) (sm_nat (by exact leE hu rfl)) (.d (.str k.str)) (.d (.int a)) (.d (.int x)) (.d (.int n)) (List.replicate 8 .un) n 0 [] (under (x + a) : Nat) .un (by simp only [List.length_nil]; exact le0 hn rfl) (by exact le0 hn rfl)) fun s6 e => ?_
  have e2 : (((n : Nat) : Int) + 1 - 1).toNat = n := congrArg Int.toNat (Int.add_sub_cancel _ _)
  have e4 : rangeD ((0 + 1 : Nat) : Int) n = rangeD 1 (((n : Nat) : Int) + 1 - 1).toNat := by rw [e2]; rfl
  rw [e4] at e
  exact ⟨s6, rn_ok (tr := [.c (.int (under (x + a) : Nat)), .f none (.d (.str k.str) :: .d (.int a) :: .d (.int x) :: .d (.int n) :: .d (.int (under (x + a) : Nat)) :: .ol (iL (((under (x + a) : Nat) : Int) :: byT (under (x + a) : Nat) n (under (x + a) : Nat) 0)) :: s6 :: List.replicate 8 .un)]) rfl ⟨e, by omega, under_ok (m := m - 1) (by exact leC hm rfl) (by exact nlt (fk (c2 a x) [(1, .var 0, .num 100), (1, .var 1, .num 100), (1, .num 1000000, .add (.var 1) (.var 0))] rfl (nl ha) (nl hx))), trivial⟩⟩
noncomputable def e_slopes : List CS := match fc_l_slopes.body with
  | .cond _ b _ :: _ => b.drop 3
  | _ => []
theorem slopes_in {m a x n : Nat} (hm : 2 ≤ m) {k : Nm} (hk : k = .byl ∨ k = .log) {d : PyData} {st1 st2 : St} (h1 : execs (Kn (m - 1)) (match fc_l_slopes.body with
    | .cond _ b _ :: _ => b.take 3
    | _ => []) (fst0 fc_l_slopes [.str k.str, .int a, .int x, .int n]) = some (none, st1)) (h2 : execs (Kn (m - 1)) e_slopes st1 = some (some d, st2)) : (Kn m).call 527 [.str k.str, .int a, .int x, .int n] = some d := by
  refine call_ex (st' := st2) (by exact Nat.le_of_lt hm) rfl rfl ?_
  have hb := execs_app h1 h2
  have ht : ev (Kn (m - 1)) (.cmp .In (.v 0) (.tup [(.k (.str "log")), (.k (.str "by"))])) (fst0 fc_l_slopes [.str k.str, .int a, .int x, .int n]) = some (.bool true, fst0 fc_l_slopes [.str k.str, .int a, .int x, .int n]) := by
    rcases hk with rfl | rfl <;> exact en_ok (tr := []) rfl trivial
  show execs (Kn (m - 1)) (.cond (.cmp .In (.v 0) (.tup [(.k (.str "log")), (.k (.str "by"))])) _ _ :: _) _ = _
  rw [show ∀ (K : Or) t a b r st, execs K (.cond t a b :: r) st = seqK (iteK (ev K t st) (execs K a) (execs K b)) (execs K r) from fun _ _ _ _ _ _ => rfl, ht]
  refine Eq.trans (congrArg (fun z => seqK z _) hb) ?_
  rfl
theorem slopes_ok {m a x n : Nat} {k : Nm} (hm : 2 ≤ m) (ha : a ≤ 100) (hx : x ≤ 100) (hn : n ≤ 100) : (Kn m).call 527 [.str k.str, .int a, .int x, .int n] = some (.list (iL (slopesL k a x n))) := by
  have other : ∀ {p1 : execs (Kn (m - 1)) (fc_l_slopes.body.take 3) (fst0 fc_l_slopes [.str k.str, .int a, .int x, .int n]) = some (none, .d (.str k.str) :: .d (.int a) :: .d (.int x) :: .d (.int n) :: .un :: .ol (iL []) :: .un :: .os tabS :: .d (.list (rows k)) :: List.replicate 6 .un)}, slopesL k a x n = slT k a x (n + 1) 0 → (Kn m).call 527 [.str k.str, .int a, .int x, .int n] = some (.list (iL (slopesL k a x n))) := fun {p1} hs => by
    refine e31 (row_loop (m := m - 1) (by exact leC hm rfl) (k := k) ha hx (.d (.str k.str)) (.d (.int n)) .un (.os tabS) (List.replicate 4 .un) (n + 1) 0 [] .un .un .un (by simp only [List.length_nil]; exact nle (fk (c1 n) [(1, .var 0, .num 100), (1, .add (.num 900) (.num 1), .add (.num 0) (.add (.var 0) (.num 1)))] rfl (nl hn))) (by exact nle (fk (c1 n) [(1, .var 0, .num 100), (1, .add (.num 900) (.num 1), .add (.num 0) (.add (.var 0) (.num 1)))] rfl (nl hn)))) fun s6 s9 s10 e => ?_
    rw [hs]
    have p2 : execs (Kn (m - 1)) (fc_l_slopes.body.drop 3) (.d (.str k.str) :: .d (.int a) :: .d (.int x) :: .d (.int n) :: .un :: .ol (iL []) :: .un :: .os tabS :: .d (.list (rows k)) :: List.replicate 6 .un) = some (some (.list (iL (slT k a x (n + 1) 0))), .d (.str k.str) :: .d (.int a) :: .d (.int x) :: .d (.int n) :: .un :: .d (.list (iL (slT k a x (n + 1) 0))) :: s6 :: .os tabS :: .d (.list (rows k)) :: s9 :: s10 :: List.replicate 4 .un) :=
      rn_ok (tr := [.f none (.d (.str k.str) :: .d (.int a) :: .d (.int x) :: .d (.int n) :: .un :: .ol (iL (slT k a x (n + 1) 0)) :: s6 :: .os tabS :: .d (.list (rows k)) :: s9 :: s10 :: List.replicate 4 .un)]) rfl ⟨e, rg1 hn, trivial⟩
    exact call_ex (by exact Nat.le_of_lt hm) rfl rfl (execs_app p1 p2)
  cases k with
  | sin => exact other (p1 := rn_ok (tr := []) rfl trivial) rfl
  | cos => exact other (p1 := rn_ok (tr := []) rfl trivial) rfl
  | exp => exact other (p1 := rn_ok (tr := []) rfl trivial) rfl
  | sinh => exact other (p1 := rn_ok (tr := []) rfl trivial) rfl
  | byl =>
    refine e11 (slopes_by hm ha hx hn .byl (.inl rfl)) fun s6 p1 => ?_
    exact slopes_in hm (.inl rfl) p1 (rn_ok (tr := []) rfl trivial)
  | log =>
    refine e11 (slopes_by hm ha hx hn .log (.inr rfl)) fun s6 p1 => ?_
    have hl : ((((under (x + a) : Nat) : Int) :: byT (under (x + a) : Nat) n (under (x + a) : Nat) 0).take n).length ≤ n := by rw [List.length_take]; exact Nat.min_le_left _ _
    exact slopes_in hm (.inr rfl) p1 (rn_ok (tr := [.c (.int (Fn.log.atV (x + a) : Nat)), .vv (.list (iL ((((under (x + a) : Nat) : Int) :: byT (under (x + a) : Nat) n (under (x + a) : Nat) 0).take n)))]) rfl ⟨lenOk_le'.mpr (by rw [List.length_append, List.length_map]; simp only [List.length_cons, List.length_nil]; omega), upto_iL (by exact leE hn rfl), l_call_ok (f := .log) (by exact leC hm rfl) (by exact nlt (fk (c2 a x) [(1, .var 0, .num 100), (1, .var 1, .num 100), (1, .num 1000000, .add (.var 1) (.var 0))] rfl (nl ha) (nl hx))), trivial⟩)
noncomputable def b_pow : List CS := [.asg 6 (.e (.bin .Sub (.v 0) (.v 5))), .app 3 (.bin .Mult (.v 4) (.ite (.cmp .GtE (.v 6) (.k (.int 0))) (.bin .Pow (.v 1) (.v 6)) (.bin .Pow (.call 499 [(.v 1)]) (.bin .Sub (.k (.int 0)) (.v 6))))), .asg 4 (.e (.bin .Mult (.v 4) (.v 6)))]
set_option tactic.hygienic true in
theorem pow_loop {m : Nat} (hm : 1 ≤ m) {many : Int} {x : Nat} (hx : x ≤ 100) (s2 : Slot) (R : St) : ∀ (j i : Nat) (acc l : List Int) (num : Int) (s5 s6 : Slot), acc.length + j ≤ 900 → powT many x j i num = some l →
    ∃ s4 s5' s6', forL (execs (Kn m) b_pow) (.one 5) (rangeD ((i : Nat) : Int) j) (.d (.int many) :: .d (.int x) :: s2 :: .ol (iL acc) :: .d (.int num) :: s5 :: s6 :: R) = some (none, .d (.int many) :: .d (.int x) :: s2 :: .ol (iL (acc ++ l)) :: s4 :: s5' :: s6' :: R)
  | 0, i, acc, l, num, s5, s6, _, h => by
    unfold powT at h
    obtain rfl := Option.some.inj h
    exact ⟨.d (.int num), s5, s6, by rw [rangeD, List.append_nil]; exact for_nil⟩
  | j + 1, i, acc, l, num, s5, s6, h1, h => by
    unfold powT at h
    split at h
    · rename_i hs
      split at h
      · rename_i l' hl
        obtain rfl := Option.some.inj h
        simp only [Bool.and_eq_true, decide_eq_true_eq] at hs
        obtain ⟨hs1, ⟨hs2, hs3⟩, hs4⟩ := hs
        refine e31 (pow_loop hm hx s2 R j (i + 1) (acc ++ [num * powE many x i]) l' (num * (many - (i : Int))) (.d (.int i)) (.d (.int (many - (i : Int)))) (by rw [List.length_append]; simp only [List.length_cons, List.length_nil]; exact leZ h1) hl) fun s4 s5' s6' e => ?_
        rw [iL_append acc, List.append_assoc] at e
        refine ⟨s4, s5', s6', ?_⟩
        rw [rangeD]
        have o1 : ∀ z, (sm num || sm z) = true := fun z => by rw [hs1]; rfl
        have hsx := sm_nat (v := x) (by exact ltE hx rfl)
        have hsu := sm_nat (v := under x) (by have := under_lt x; exact leE this rfl)
        cases hd : decide (0 ≤ many - (i : Int)) with
        | true =>
          have hp : powE many x i = (x : Int) ^ (many - (i : Int)).toNat := by unfold powE; rw [hd]
          have hd' := of_decide_eq_true hd
          rw [hp] at e ⊢
          exact for_step (st1 := .d (.int many) :: .d (.int x) :: s2 :: .ol (iL acc) :: .d (.int num) :: .d (.int i) :: s6 :: R) rfl
            (rn_ok (tr := [.b true]) rfl ⟨o1 _, lenOk_snoc (by exact leF h1 rfl), o1 _, by rw [hsx]; simp only [Bool.true_and, Bool.and_eq_true, decide_eq_true_eq]; exact ⟨ile (fk (c2 many i) [(1, .num 0, .sub (.var 0) (.var 1)), (1, .add (.sub (.var 0) (.var 1)) (.num 1), .num 0)] rfl (hd')), ile (fk (c2 many i) [(1, .sub (.var 0) (.var 1), .num 1000), (1, .add (.num 100000) (.num 1), .sub (.var 0) (.var 1))] rfl (hs3))⟩, cge_is hd, trivial⟩) e
        | false =>
          have hp : powE many x i = ((under x : Nat) : Int) ^ (0 - (many - (i : Int))).toNat := by unfold powE; rw [hd]
          have hd' := of_decide_eq_false hd
          rw [hp] at e ⊢
          exact for_step (st1 := .d (.int many) :: .d (.int x) :: s2 :: .ol (iL acc) :: .d (.int num) :: .d (.int i) :: s6 :: R) rfl
            (rn_ok (tr := [.b false, .c (.int (under x))]) rfl ⟨o1 _, lenOk_snoc (by exact leF h1 rfl), o1 _, by rw [hsu]; simp only [Bool.true_and, Bool.and_eq_true, decide_eq_true_eq]; exact ⟨ile (fk (c2 many i) [(1, .add (.sub (.var 0) (.var 1)) (.num 1), .num 0), (1, .add (.sub (.num 0) (.sub (.var 0) (.var 1))) (.num 1), .num 0)] rfl ((Int.not_le.mp hd'))), ile (fk (c2 many i) [(1, .neg (.num 1000), .sub (.var 0) (.var 1)), (1, .add (.num 100000) (.num 1), .sub (.num 0) (.sub (.var 0) (.var 1)))] rfl (hs4))⟩, under_ok hm (by exact ltE hx rfl), cge_is hd, trivial⟩) e
      · exact noS h
    · exact noS h
theorem powers_ok {m x n : Nat} {many : Int} {l : List Int} (hm : 2 ≤ m) (hx : x ≤ 100) (hn : n ≤ 100) (h : powersL many x n = some l) : (Kn m).call 534 [.int many, .int x, .int n] = some (.list (iL l)) := by
  refine e31 (pow_loop (m := m - 1) (by exact leC hm rfl) hx (.d (.int n)) (List.replicate 2 .un) (n + 1) 0 [] l 1 .un .un (by simp only [List.length_nil]; exact nle (fk (c1 n) [(1, .var 0, .num 100), (1, .add (.num 900) (.num 1), .add (.num 0) (.add (.var 0) (.num 1)))] rfl (nl hn))) h) fun s4 s5 s6 e => ?_
  exact run_ok (by exact Nat.le_of_lt hm) (tr := [.f none (.d (.int many) :: .d (.int x) :: .d (.int n) :: .ol (iL l) :: s4 :: s5 :: s6 :: List.replicate 2 .un)]) rfl rfl rfl ⟨e, rg1 hn, trivial⟩
theorem take_of {n : Nat} {xs xs' : List PyData} {y d : PyData} {r : St} (h : execs (Kn n) fc_l_take.body [.ol xs, .d y, .un, .un] = some (some d, .ol xs' :: r)) : (Kn (n + 1)).take xs y = some (d, xs') := by
  show retT (execs (Kn n) fc_l_take.body [.ol xs, .d y, .un, .un]) = _
  rw [h]
  rfl
theorem take_ok (n : Nat) {is : List Int} {k many : Nat} (hl : is.length ≤ 6) (hk : k ≤ 100) (hm : 0 < many) (hm2 : many ≤ 100) : ∃ r : Nat, r < many ∧ (Kn (n + 1)).take [.list (iL is), .int k] (.int many) = some (.int r, [.list (iL is), .int ((k + 1 : Nat) : Int)]) := by
  have mo : (((many : Nat) : Int) ≠ 0 ∧ sm ((many : Nat) : Int) = true) := ⟨by exact fun g0 => fk (c1 many) [(1, .add (.num 0) (.num 1), .var 0), (1, .var 0, .num 0)] rfl (nt hm) (Int.le_of_eq g0), sm_nat (by exact ltE hm2 rfl)⟩
  have l2 : (0 : Int) ≤ 1 ∧ (1 : Int) < (([PyData.list (iL is), .int k] : List PyData).length : Nat) := ⟨by decide, by show (1 : Int) < ((2 : Nat) : Int); decide⟩
  by_cases h : k + 1 ≤ is.length
  · have hi : k < is.length := by exact h
    have hidx : idxV (.list (iL is)) (.int (((k : Nat) : Int) + 1 - 1)) = some (.int is[k]) := by
      have e : ((k : Nat) : Int) + 1 - 1 = ((k : Nat) : Int) := by exact Int.le_antisymm (ile (fk (c1 k) [(1, .add (.var 0) (.num 1), .sub (.add (.var 0) (.num 1)) (.num 1))] rfl )) (ile (fk (c1 k) [(1, .add (.sub (.add (.var 0) (.num 1)) (.num 1)) (.num 1), .var 0)] rfl ))
      rw [e]
      exact (itemV_nat' _ _).trans (by rw [List.getElem?_map, List.getElem?_eq_getElem hi]; rfl)
    have e : (if is[k] < 0 then -is[k] else is[k]).fmod (many : Nat) = ((is[k].natAbs % many : Nat) : Int) := by rw [abs_eq, fmod_k]
    refine ⟨is[k].natAbs % many, Nat.mod_lt _ hm, ?_⟩
    rw [← e]
    exact take_of (rn_ok (tr := [.sk, .sk, .b true, .sk, .sk, .iv (.int is[k])]) rfl ⟨mo, hidx, cle_is (decide_eq_true (by rw [List.length_map]; exact ile (fk (c2 k is.length) [(1, .add (.var 0) (.num 1), .var 1), (1, .add (.var 1) (.num 1), .add (.var 0) (.num 1))] rfl (nl h)))), l2, trivial⟩)
  · have e1 : (((k : Nat) : Int) + 1).fdiv 3 = (((k + 1) / 3 : Nat) : Int) := by rw [Int.fdiv_eq_ediv_of_nonneg _ (by exact Int.natCast_nonneg _)]; rfl
    have e : (5 * (((k : Nat) : Int) + 1) + (((k : Nat) : Int) + 1).fdiv 3).fmod (many : Nat) = (((5 * (k + 1) + (k + 1) / 3) % many : Nat) : Int) := by rw [e1, ← fmod_k]; rfl
    refine ⟨(5 * (k + 1) + (k + 1) / 3) % many, Nat.mod_lt _ hm, ?_⟩
    rw [← e]
    exact take_of (rn_ok (tr := [.sk, .sk, .b false]) rfl ⟨mo, ⟨by decide, rfl⟩, rfl, cle_is (decide_eq_false (by rw [List.length_map]; exact fun g0 => fk (c2 is.length k) [(1, .add (.var 0) (.num 1), .add (.var 1) (.num 1)), (1, .add (.var 1) (.num 1), .var 0)] rfl (nt (Nat.not_le.mp h)) (g0))), l2, trivial⟩)
theorem idx_get {xs : List PyData} {i : Nat} {d : PyData} (h : xs[i]? = some d) : idxV (.tuple xs) (.int (i : Nat)) = some d := (itemV_nat' _ _).trans h
theorem nm_at {d : Nat} (h : d < 6) : idxV (.tuple [.str "sin", .str "cos", .str "log", .str "by", .str "exp", .str "sinh"]) (.int (d : Nat)) = some (.str (nmOf d).str) := by
  refine (itemV_nat' _ _).trans ?_
  match d, h with
  | 0, _ => rfl
  | 1, _ => rfl
  | 2, _ => rfl
  | 3, _ => rfl
  | 4, _ => rfl
  | 5, _ => rfl
theorem n_at {d : Nat} (h : d < 3) : ∃ n : Nat, (n = 1 ∨ n = 2 ∨ n = 3) ∧ idxV (.tuple [.int 1, .int 3, .int 2]) (.int (d : Nat)) = some (.int (n : Nat)) := by
  match d, h with
  | 0, _ => exact ⟨1, .inl rfl, idx_get rfl⟩
  | 1, _ => exact ⟨3, .inr (.inr rfl), idx_get rfl⟩
  | 2, _ => exact ⟨2, .inr (.inl rfl), idx_get rfl⟩
theorem upto6 (is : List Int) : uptoV (.list (iL is)) (.int 6) = some (.list (iL (is.take 6))) := upto_iL (n := 6) (by exact Nat.le_add_left _ _)
theorem rng {a k : Nat} (h : a < k) : 1 ≤ 1 + a ∧ 1 + a ≤ k := ⟨Nat.le_add_right _ _, Nat.add_comm a 1 ▸ h⟩
theorem n3 {n i : Nat} (h : n = 1 ∨ n = 2 ∨ n = 3) (hi : 3 < i) : 1 ≤ n ∧ n ≤ 3 ∧ (i ≤ 3 → n ≤ 2) := by
  rcases h with rfl | rfl | rfl <;> exact ⟨by decide, by decide, fun z => absurd z (Nat.not_le.mpr hi)⟩
theorem draws (m : Nat) (is : List Int) : ∃ (i d a b n x : Nat) (s1 : Slot), i < 8 ∧ d < 6 ∧ (1 ≤ a ∧ a ≤ 3) ∧ (1 ≤ b ∧ b ≤ 3) ∧ (1 ≤ n ∧ n ≤ 3 ∧ (i ≤ 3 → n ≤ 2)) ∧ (1 ≤ x ∧ x ≤ 9) ∧
    execs (Kn (m + 1)) (fc_law.body.take 5) (.d (.list (iL is)) :: List.replicate 25 .un) = some (none, .d (.list (iL is)) :: s1 :: .d (.int (i : Nat)) :: .d (.str (nmOf d).str) :: .d (.int (a : Nat)) :: .d (.int (b : Nat)) :: .d (.int (n : Nat)) :: .d (.int (x : Nat)) :: List.replicate 18 .un) := by
  have hl : (is.take 6).length ≤ 6 := by rw [List.length_take]; exact Nat.min_le_left _ _
  refine e12 (take_ok m (k := 0) (many := 8) hl (by exact Nat.zero_le _) (by exact Nat.succ_pos _) (by exact Nat.le_add_left _ _)) fun i hi t0 => ?_
  refine e12 (take_ok m (k := 1) (many := 6) hl (by exact Nat.succ_pos _) (by exact Nat.succ_pos _) (by exact Nat.le_add_left _ _)) fun d hd t1 => ?_
  refine e12 (take_ok m (k := 2) (many := 3) hl (by exact Nat.le_add_left _ _) (by exact Nat.succ_pos _) (by exact Nat.le_add_left _ _)) fun a ha t2 => ?_
  refine e12 (take_ok m (k := 3) (many := 3) hl (by exact Nat.le_add_left _ _) (by exact Nat.succ_pos _) (by exact Nat.le_add_left _ _)) fun b hb t3 => ?_
  refine e12 (take_ok m (k := 5) (many := 9) hl (by exact Nat.le_add_left _ _) (by exact Nat.succ_pos _) (by exact Nat.le_add_left _ _)) fun x hx t5 => ?_
  have len : lenOk (iL (is.take 6)) = true := lenOk_iL (by exact leE hl rfl)
  have q0 : execs (Kn (m + 1)) (fc_law.body.take 1) (.d (.list (iL is)) :: List.replicate 25 .un) = some (none, .d (.list (iL is)) :: .ol [.list (iL (is.take 6)), .int ((0 : Nat) : Int)] :: List.replicate 24 .un) := rn_ok (tr := [.vv (.list (iL (is.take 6))), .sk]) rfl ⟨upto6 is, trivial⟩
  have q1 : execs (Kn (m + 1)) ((fc_law.body.drop 1).take 1) (.d (.list (iL is)) :: .ol [.list (iL (is.take 6)), .int ((0 : Nat) : Int)] :: List.replicate 24 .un) = some (none, .d (.list (iL is)) :: .ol [.list (iL (is.take 6)), .int ((2 : Nat) : Int)] :: .d (.int (i : Nat)) :: .d (.str (nmOf d).str) :: List.replicate 22 .un) :=
    rn_ok (tr := [.tk (.int i) [.list (iL (is.take 6)), .int ((1 : Nat) : Int)], .tk (.int d) [.list (iL (is.take 6)), .int ((2 : Nat) : Int)], .iv (.str (nmOf d).str)]) rfl ⟨nm_at hd, t1, t0, trivial⟩
  have q2 : execs (Kn (m + 1)) ((fc_law.body.drop 2).take 1) (.d (.list (iL is)) :: .ol [.list (iL (is.take 6)), .int ((2 : Nat) : Int)] :: .d (.int (i : Nat)) :: .d (.str (nmOf d).str) :: List.replicate 22 .un) = some (none, .d (.list (iL is)) :: .ol [.list (iL (is.take 6)), .int ((4 : Nat) : Int)] :: .d (.int (i : Nat)) :: .d (.str (nmOf d).str) :: .d (.int (1 + a : Nat)) :: .d (.int (1 + b : Nat)) :: List.replicate 20 .un) :=
    rn_ok (tr := [.tk (.int a) [.list (iL (is.take 6)), .int ((3 : Nat) : Int)], .tk (.int b) [.list (iL (is.take 6)), .int ((4 : Nat) : Int)]]) rfl ⟨t3, t2, trivial⟩
  have q4 : ∀ n : Nat, execs (Kn (m + 1)) ((fc_law.body.drop 4).take 1) (.d (.list (iL is)) :: .ol [.list (iL (is.take 6)), .int ((5 : Nat) : Int)] :: .d (.int (i : Nat)) :: .d (.str (nmOf d).str) :: .d (.int (1 + a : Nat)) :: .d (.int (1 + b : Nat)) :: .d (.int (n : Nat)) :: List.replicate 19 .un) = some (none, .d (.list (iL is)) :: .ol [.list (iL (is.take 6)), .int ((6 : Nat) : Int)] :: .d (.int (i : Nat)) :: .d (.str (nmOf d).str) :: .d (.int (1 + a : Nat)) :: .d (.int (1 + b : Nat)) :: .d (.int (n : Nat)) :: .d (.int (1 + x : Nat)) :: List.replicate 18 .un) := fun n =>
    rn_ok (tr := [.tk (.int x) [.list (iL (is.take 6)), .int ((6 : Nat) : Int)]]) rfl ⟨t5, trivial⟩
  by_cases h : 3 < i
  · refine e12 (take_ok m (k := 4) (many := 3) hl (by exact Nat.le_add_left _ _) (by exact Nat.succ_pos _) (by exact Nat.le_add_left _ _)) fun e he t4 => ?_
    refine e12 (n_at he) fun n hn hidx => ?_
    refine ⟨i, d, 1 + a, 1 + b, n, 1 + x, .ol [.list (iL (is.take 6)), .int ((6 : Nat) : Int)], hi, hd, rng ha, rng hb, n3 hn h, rng hx, ?_⟩
    have q3 : execs (Kn (m + 1)) ((fc_law.body.drop 3).take 1) (.d (.list (iL is)) :: .ol [.list (iL (is.take 6)), .int ((4 : Nat) : Int)] :: .d (.int (i : Nat)) :: .d (.str (nmOf d).str) :: .d (.int (1 + a : Nat)) :: .d (.int (1 + b : Nat)) :: List.replicate 20 .un) = some (none, .d (.list (iL is)) :: .ol [.list (iL (is.take 6)), .int ((5 : Nat) : Int)] :: .d (.int (i : Nat)) :: .d (.str (nmOf d).str) :: .d (.int (1 + a : Nat)) :: .d (.int (1 + b : Nat)) :: .d (.int (n : Nat)) :: List.replicate 19 .un) :=
      rn_ok (tr := [.b true, .tk (.int e) [.list (iL (is.take 6)), .int ((5 : Nat) : Int)], .iv (.int n)]) rfl ⟨hidx, t4, cgt_is (decide_eq_true (by exact ilt (fk (c1 i) [(1, .add (.num 3) (.num 1), .var 0), (1, .var 0, .num 3)] rfl (nt h)))), trivial⟩
    exact execs_app q0 (execs_app q1 (execs_app q2 (execs_app q3 (q4 n))))
  · refine e12 (take_ok m (k := 4) (many := 2) hl (by exact Nat.le_add_left _ _) (by exact Nat.le_succ _) (by exact Nat.le_add_left _ _)) fun e he t4 => ?_
    refine ⟨i, d, 1 + a, 1 + b, 1 + e, 1 + x, .ol [.list (iL (is.take 6)), .int ((6 : Nat) : Int)], hi, hd, rng ha, rng hb, ⟨(rng he).1, leE (rng he).2 rfl, fun _ => (rng he).2⟩, rng hx, ?_⟩
    have q3 : execs (Kn (m + 1)) ((fc_law.body.drop 3).take 1) (.d (.list (iL is)) :: .ol [.list (iL (is.take 6)), .int ((4 : Nat) : Int)] :: .d (.int (i : Nat)) :: .d (.str (nmOf d).str) :: .d (.int (1 + a : Nat)) :: .d (.int (1 + b : Nat)) :: List.replicate 20 .un) = some (none, .d (.list (iL is)) :: .ol [.list (iL (is.take 6)), .int ((5 : Nat) : Int)] :: .d (.int (i : Nat)) :: .d (.str (nmOf d).str) :: .d (.int (1 + a : Nat)) :: .d (.int (1 + b : Nat)) :: .d (.int (1 + e : Nat)) :: List.replicate 19 .un) :=
      rn_ok (tr := [.b false, .tk (.int e) [.list (iL (is.take 6)), .int ((5 : Nat) : Int)]]) rfl ⟨t4, cgt_is (decide_eq_false (by exact fun g0 => fk (c1 i) [(1, .var 0, .num 3), (1, .add (.num 3) (.num 1), .var 0)] rfl (nl (Nat.not_lt.mp h)) (g0))), trivial⟩
    exact execs_app q0 (execs_app q1 (execs_app q2 (execs_app q3 (q4 (1 + e)))))
theorem first_ok {m : Nat} (hm : 3 ≤ m) {i b n x : Nat} {ones : List Int} (hi : i < 8) (hb : b ≤ 100) (hn : n ≤ 100) (hx : x ≤ 100) (h : onesL i b x n = some ones) (s0 s1 s3 s4 : Slot) :
    ∃ s8 s11, execs (Kn m) ((fc_law.body.drop 5).take 1) (s0 :: s1 :: .d (.int (i : Nat)) :: s3 :: s4 :: .d (.int (b : Nat)) :: .d (.int (n : Nat)) :: .d (.int (x : Nat)) :: List.replicate 18 .un) = some (none, s0 :: s1 :: .d (.int (i : Nat)) :: s3 :: s4 :: .d (.int (b : Nat)) :: .d (.int (n : Nat)) :: .d (.int (x : Nat)) :: s8 :: .d (enc (uT i b)) :: .d (.list (iL ones)) :: s11 :: List.replicate 14 .un) := by
  match i, hi, h with
  | 0, _, h => obtain rfl := Option.some.inj h; exact ⟨.un, .d (.str Nm.log.str), rn_ok (tr := [.b false, .c (enc (factorT .log b)), .c (.list (iL (slopesL .log b x n)))]) rfl ⟨slopes_ok (k := .log) (by exact Nat.le_of_lt hm) hb hx hn, factor_ok (k := .log) (by exact leA hm rfl), cgt_is rfl, trivial⟩⟩
  | 1, _, h => obtain rfl := Option.some.inj h; exact ⟨.un, .d (.str Nm.byl.str), rn_ok (tr := [.b false, .c (enc (factorT .byl b)), .c (.list (iL (slopesL .byl b x n)))]) rfl ⟨slopes_ok (k := .byl) (by exact Nat.le_of_lt hm) hb hx hn, factor_ok (k := .byl) (by exact leA hm rfl), cgt_is rfl, trivial⟩⟩
  | 2, _, h => obtain rfl := Option.some.inj h; exact ⟨.un, .d (.str Nm.sin.str), rn_ok (tr := [.b false, .c (enc (factorT .sin b)), .c (.list (iL (slopesL .sin b x n)))]) rfl ⟨slopes_ok (k := .sin) (by exact Nat.le_of_lt hm) hb hx hn, factor_ok (k := .sin) (by exact leA hm rfl), cgt_is rfl, trivial⟩⟩
  | 3, _, h => obtain rfl := Option.some.inj h; exact ⟨.un, .d (.str Nm.cos.str), rn_ok (tr := [.b false, .c (enc (factorT .cos b)), .c (.list (iL (slopesL .cos b x n)))]) rfl ⟨slopes_ok (k := .cos) (by exact Nat.le_of_lt hm) hb hx hn, factor_ok (k := .cos) (by exact leA hm rfl), cgt_is rfl, trivial⟩⟩
  | 4, _, h => exact ⟨.d (.int 3), .un, rn_ok (tr := [.b true, .b true, .c (.list (iL ones))]) rfl ⟨powers_ok (by exact Nat.le_of_lt hm) hx hn h, cne_is rfl, cgt_is rfl, trivial⟩⟩
  | 5, _, h => exact ⟨.d (.int 2), .un, rn_ok (tr := [.b true, .b true, .c (.list (iL ones))]) rfl ⟨powers_ok (by exact Nat.le_of_lt hm) hx hn h, cne_is rfl, cgt_is rfl, trivial⟩⟩
  | 6, _, h => exact ⟨.d (.int (-1)), .un, rn_ok (tr := [.b true, .b true, .c (.list (iL ones))]) rfl ⟨powers_ok (by exact Nat.le_of_lt hm) hx hn h, cne_is rfl, cgt_is rfl, trivial⟩⟩
  | 7, _, h => exact ⟨.d (.int 1), .un, rn_ok (tr := [.b true, .b false, .c (.list (iL ones))]) rfl ⟨powers_ok (by exact Nat.le_of_lt hm) hx hn h, cne_is rfl, cgt_is rfl, trivial⟩⟩
noncomputable def b_due : List CS := [.asg 13 (.e (.bin .Add (.v 13) (.bin .Mult (.bin .Mult (.v 14) (.idx (.v 10) (.v 15))) (.idx (.v 12) (.bin .Sub (.v 6) (.v 15)))))), .asg 14 (.e (.bin .FloorDiv (.bin .Mult (.v 14) (.bin .Sub (.v 6) (.v 15))) (.bin .Add (.v 15) (.k (.int 1)))))]
section
variable {K : Or} {s0 s1 s2 s3 s4 s5 s7 s8 s9 s11 : Slot} {R : St} {n : Int} {ones others : List Int}
abbrev dueSt (s0 s1 s2 s3 s4 s5 s7 s8 s9 s11 : Slot) (n : Int) (ones others : List Int) (t : St) : St := s0 :: s1 :: s2 :: s3 :: s4 :: s5 :: .d (.int n) :: s7 :: s8 :: s9 :: .d (.list (iL ones)) :: s11 :: .d (.list (iL others)) :: t
theorem due_step {o t d c c' k : Int} (h1 : idxV (.list (iL ones)) (.int k) = some (.int o)) (h2 : idxV (.list (iL others)) (.int (n - k)) = some (.int t)) (h3 : sm t = true) (h4 : sm c = true) (h5 : k + 1 ≠ 0 ∧ sm (k + 1) = true) (hc : (c * (n - k)).fdiv (k + 1) = c') :
    execs K b_due (dueSt s0 s1 s2 s3 s4 s5 s7 s8 s9 s11 n ones others (.d (.int d) :: .d (.int c) :: .d (.int k) :: R)) = some (none, dueSt s0 s1 s2 s3 s4 s5 s7 s8 s9 s11 n ones others (.d (.int (d + c * o * t)) :: .d (.int c') :: .d (.int k) :: R)) := by
  subst hc
  exact rn_ok (tr := [.iv (.int o), .iv (.int t)]) rfl ⟨h5, by rw [h4]; rfl, by rw [h3, Bool.or_true], h2, by rw [h4]; rfl, h1, trivial⟩
theorem idx_il {l : List Int} {i : Nat} {a : Int} (h : l[i]? = some a) : idxV (.list (iL l)) (.int (i : Nat)) = some (.int a) := (itemV_nat' _ _).trans (by rw [List.getElem?_map, h]; rfl)
theorem all_at {l : List Int} {i : Nat} {a : Int} (hs : l.all sm = true) (h : l[i]? = some a) : sm a = true := List.all_eq_true.mp hs a (List.mem_of_getElem? h)
theorem due_loop {n : Nat} {D : Int} (hn : n ≤ 100) (hs : others.all sm = true) : ∀ (j k : Nat) (d c : Int) (s : Slot), dueT n ones others j k d c = some D → k + j = n + 1 →
    ∃ s14 s15, forL (execs K b_due) (.one 15) (rangeD (k : Nat) j) (dueSt s0 s1 s2 s3 s4 s5 s7 s8 s9 s11 (n : Nat) ones others (.d (.int d) :: .d (.int c) :: s :: R)) = some (none, dueSt s0 s1 s2 s3 s4 s5 s7 s8 s9 s11 (n : Nat) ones others (.d (.int D) :: s14 :: s15 :: R))
  | 0, k, d, c, s, h, _ => by
    obtain rfl := Option.some.inj h
    exact ⟨_, _, for_nil⟩
  | j + 1, k, d, c, s, h, e => by
    refine bindE h fun o ho h => bindE h fun t ht h => ?_
    cases hc : sm c with
    | false => rw [hc] at h; exact noS h
    | true =>
      rw [hc] at h
      refine e21 (due_loop hn hs j (k + 1) _ _ (.d (.int (k : Nat))) h (by exact Nat.le_antisymm (nle (fk (c3 k j n) [(1, .add (.var 0) (.add (.var 1) (.num 1)), .add (.var 2) (.num 1)), (1, .add (.add (.var 2) (.num 1)) (.num 1), .add (.add (.var 0) (.num 1)) (.var 1))] rfl (ne e))) (nle (fk (c3 k j n) [(1, .add (.var 2) (.num 1), .add (.var 0) (.add (.var 1) (.num 1))), (1, .add (.add (.add (.var 0) (.num 1)) (.var 1)) (.num 1), .add (.var 2) (.num 1))] rfl (ne e.symm))))) fun s14 s15 q => ?_
      have e1 : ((n : Nat) : Int) - (k : Nat) = ((n - k : Nat) : Int) := (Int.ofNat_sub (nle (fk (c3 k j n) [(1, .add (.var 0) (.add (.var 1) (.num 1)), .add (.var 2) (.num 1)), (1, .num 0, .var 1), (1, .add (.var 2) (.num 1), .var 0)] rfl (ne e) (n0 j)))).symm
      exact ⟨s14, s15, for_step rfl (due_step (idx_il ho) (by rw [e1]; exact idx_il ht) (all_at hs ht) hc ⟨by exact of_decide_eq_true rfl, by unfold sm; rw [Nat.blt_eq]; omega⟩ rfl) q⟩
end
set_option tactic.hygienic true in
theorem law_run {m : Nat} (hm : 200 ≤ m) {i b a n x : Nat} {k : Nm} {told : Tm} (hi : i < 8) (ha : a ≤ 100) (hb : b ≤ 100) (hn : n ≤ 100) (hx : x ≤ 100) (ok : okAt i b k a n x told = true) (hd : derive n (.prod [uT i b, factorT k a]) = some told) (hdp : dp told ≤ 64) (s0 s1 : Slot) :
    ∃ st', execs (Kn m) (fc_law.body.drop 5) (s0 :: s1 :: .d (.int (i : Nat)) :: .d (.str k.str) :: .d (.int (a : Nat)) :: .d (.int (b : Nat)) :: .d (.int (n : Nat)) :: .d (.int (x : Nat)) :: List.replicate 18 .un) = some (some (.bool true), st') := by
  unfold okAt at ok
  split at ok
  · exact fTr ok
  · rename_i ones ho
    split at ok
    · exact fTr ok
    · rename_i hs
      split at ok
      · rename_i D w hD hw
        refine e21 (first_ok (m := m) (by exact leA hm rfl) hi hb hn hx ho s0 s1 (.d (.str k.str)) (.d (.int (a : Nat)))) fun s8 s11 q5 => ?_
        refine e21 (due_loop (K := Kn m) (s0 := s0) (s1 := s1) (s2 := .d (.int (i : Nat))) (s3 := .d (.str k.str)) (s4 := .d (.int (a : Nat))) (s5 := .d (.int (b : Nat))) (s7 := .d (.int (x : Nat))) (s8 := s8) (s9 := .d (enc (uT i b))) (s11 := s11) (R := List.replicate 10 .un) hn hs (n + 1) 0 0 1 .un hD (Nat.zero_add _)) fun s14 s15 e => ?_
        have q6 : execs (Kn m) ((fc_law.body.drop 6).take 1) (s0 :: s1 :: .d (.int (i : Nat)) :: .d (.str k.str) :: .d (.int (a : Nat)) :: .d (.int (b : Nat)) :: .d (.int (n : Nat)) :: .d (.int (x : Nat)) :: s8 :: .d (enc (uT i b)) :: .d (.list (iL ones)) :: s11 :: List.replicate 14 .un) = some (none, dueSt s0 s1 (.d (.int (i : Nat))) (.d (.str k.str)) (.d (.int (a : Nat))) (.d (.int (b : Nat))) (.d (.int (x : Nat))) s8 (.d (enc (uT i b))) s11 (n : Nat) ones (slopesL k a x n) (.d (.int 0) :: .d (.int 1) :: .un :: List.replicate 10 .un)) :=
          rn_ok (tr := [.c (.list (iL (slopesL k a x n)))]) rfl ⟨slopes_ok (by exact leA hm rfl) ha hx hn, trivial⟩
        have q7 : execs (Kn m) ((fc_law.body.drop 7).take 1) (dueSt s0 s1 (.d (.int (i : Nat))) (.d (.str k.str)) (.d (.int (a : Nat))) (.d (.int (b : Nat))) (.d (.int (x : Nat))) s8 (.d (enc (uT i b))) s11 (n : Nat) ones (slopesL k a x n) (.d (.int 0) :: .d (.int 1) :: .un :: List.replicate 10 .un)) = some (none, dueSt s0 s1 (.d (.int (i : Nat))) (.d (.str k.str)) (.d (.int (a : Nat))) (.d (.int (b : Nat))) (.d (.int (x : Nat))) s8 (.d (enc (uT i b))) s11 (n : Nat) ones (slopesL k a x n) (.d (.int D) :: s14 :: s15 :: List.replicate 10 .un)) :=
          rn_ok (tr := [.f none (dueSt s0 s1 (.d (.int (i : Nat))) (.d (.str k.str)) (.d (.int (a : Nat))) (.d (.int (b : Nat))) (.d (.int (x : Nat))) s8 (.d (enc (uT i b))) s11 (n : Nat) ones (slopesL k a x n) (.d (.int D) :: s14 :: s15 :: List.replicate 10 .un))]) rfl ⟨e, rg1 hn, trivial⟩
        have q8 : execs (Kn m) ((fc_law.body.drop 8).take 1) (dueSt s0 s1 (.d (.int (i : Nat))) (.d (.str k.str)) (.d (.int (a : Nat))) (.d (.int (b : Nat))) (.d (.int (x : Nat))) s8 (.d (enc (uT i b))) s11 (n : Nat) ones (slopesL k a x n) (.d (.int D) :: s14 :: s15 :: List.replicate 10 .un)) = some (none, dueSt s0 s1 (.d (.int (i : Nat))) (.d (.str k.str)) (.d (.int (a : Nat))) (.d (.int (b : Nat))) (.d (.int (x : Nat))) s8 (.d (enc (uT i b))) s11 (n : Nat) ones (slopesL k a x n) (.d (.int D) :: s14 :: s15 :: .d (enc told) :: List.replicate 9 .un)) :=
          rn_ok (tr := [.c (enc (factorT k a)), .c (enc told)]) rfl ⟨many_ok (n := n) (by exact leA hm rfl) (by exact leE hn rfl) hd, factor_ok (by exact leA hm rfl), trivial⟩
        have q9 : execs (Kn m) (fc_law.body.drop 9) (dueSt s0 s1 (.d (.int (i : Nat))) (.d (.str k.str)) (.d (.int (a : Nat))) (.d (.int (b : Nat))) (.d (.int (x : Nat))) s8 (.d (enc (uT i b))) s11 (n : Nat) ones (slopesL k a x n) (.d (.int D) :: s14 :: s15 :: .d (enc told) :: List.replicate 9 .un)) = some (some (.bool true), dueSt s0 s1 (.d (.int (i : Nat))) (.d (.str k.str)) (.d (.int (a : Nat))) (.d (.int (b : Nat))) (.d (.int (x : Nat))) s8 (.d (enc (uT i b))) s11 (n : Nat) ones (slopesL k a x n) (.d (.int D) :: s14 :: s15 :: .d (enc told) :: List.replicate 9 .un)) :=
          rn_ok (tr := [.c (.int w), .b true]) rfl ⟨ceq_is ok, ⟨by decide, rfl⟩, (value_ok x (by exact ltE hx rfl) told m w (by exact nle (fk (c2 m (dp told)) [(1, .num 200, .var 0), (1, .var 1, .num 64), (1, .add (.var 0) (.num 1), .add (.var 1) (.num 1))] rfl (nl hm) (nl hdp))) hw).1, trivial⟩
        have r8 := execs_app q8 q9
        have r7 := execs_app q7 r8
        have r6 := execs_app q6 r7
        have r5 := execs_app q5 r6
        have el : (fc_law.body.drop 5).take 1 ++ ((fc_law.body.drop 6).take 1 ++ ((fc_law.body.drop 7).take 1 ++ ((fc_law.body.drop 8).take 1 ++ fc_law.body.drop 9))) = fc_law.body.drop 5 := by kernel_rfl
        exact ⟨_, r5⟩
      · exact fTr ok
theorem derive_succ {n : Nat} {t f l : Tm} (h : derive n t = some f) (hs : stepD f = some l) : derive (n + 1) t = some l ∧ dp l ≤ 64 := by
  unfold stepD at hs
  rw [derive, h]
  dsimp only
  cases hd : dterm f with
  | none => rw [hd] at hs; exact noS hs
  | some l' =>
    rw [hd] at hs
    dsimp only at hs ⊢
    split at hs
    · rename_i h1 h2
      obtain rfl := Option.some.inj hs
      try rw [h1, h2]
      rw [Bool.and_eq_true] at h2
      exact ⟨rfl, Nat.le_of_ble_eq_true h2.2⟩
    · exact noS hs
set_option tactic.hygienic true in
theorem chk_at {ok : Nat → Tm → Bool} {t : Tm} : ∀ (k j : Nat) (f : Tm), chkGo ok k j f = true → derive j t = some f → ∀ i, j < i → i ≤ j + k → ∃ g, derive i t = some g ∧ ok i g = true ∧ dp g ≤ 64
  | 0, j, f, _, _, i, h1, h2 => by exact (fk (c2 j i) [(1, .add (.var 0) (.num 1), .var 1), (1, .var 1, .add (.var 0) (.num 0))] rfl (nt h1) (nl h2)).elim
  | k + 1, j, f, h, hf, i, h1, h2 => by
    unfold chkGo at h
    split at h
    · exact fTr h
    · rename_i l hl
      rw [Bool.and_eq_true] at h
      refine and2 (derive_succ hf hl) fun hd hp => ?_
      by_cases he : i = j + 1
      · subst he
        exact ⟨l, hd, h.1, hp⟩
      · exact chk_at k (j + 1) l h.2 hd i (Nat.lt_of_le_of_ne h1 fun z => he z.symm) (by exact nle (fk (c3 i j k) [(1, .var 0, .add (.var 1) (.add (.var 2) (.num 1))), (1, .add (.add (.add (.var 1) (.num 1)) (.var 2)) (.num 1), .var 0)] rfl (nl h2)))
theorem nine_mem : ∀ x, x < 10 → 1 ≤ x → x ∈ nines := by decide +kernel
theorem three_mem : ∀ x, x < 4 → 1 ≤ x → x ∈ threes := by decide +kernel
set_option tactic.hygienic true in
theorem chain_at {i b a N : Nat} {k : Nm} (h : chain i b k a N = true) {n x : Nat} (h1 : 1 ≤ n) (h2 : n ≤ N) (h3 : 1 ≤ x) (h4 : x ≤ 9) : ∃ told, derive n (.prod [uT i b, factorT k a]) = some told ∧ okAt i b k a n x told = true ∧ dp told ≤ 64 := by
  unfold chain at h
  split at h
  · exact fTr h
  · rename_i f hf
    refine e13 (chk_at N 0 f h hf n (by exact h1) (by exact nle (fk (c2 n N) [(1, .var 0, .var 1), (1, .add (.add (.num 0) (.var 1)) (.num 1), .var 0)] rfl (nl h2)))) fun g hg ho hp => ?_
    refine ⟨g, hg, List.all_eq_true.mp ho x ?_, hp⟩
    exact nine_mem x (Nat.lt_succ_of_le h4) h3
theorem three_at {p : Nat → Bool} (h : threes.all p = true) {a : Nat} (h1 : 1 ≤ a) (h2 : a ≤ 3) : p a = true := by
  refine List.all_eq_true.mp h a ?_
  exact three_mem a (Nat.lt_succ_of_le h2) h1
theorem far_b {i b : Nat} (h : 3 < i) : uT i b = uT i 1 ∧ ∀ k a n x told, okAt i b k a n x told = okAt i 1 k a n x told := by
  match i, h with
  | 4, _ => exact ⟨rfl, fun _ _ _ _ _ => rfl⟩
  | 5, _ => exact ⟨rfl, fun _ _ _ _ _ => rfl⟩
  | 6, _ => exact ⟨rfl, fun _ _ _ _ _ => rfl⟩
  | i + 7, _ => exact ⟨rfl, fun _ _ _ _ _ => rfl⟩
theorem cell_at {i d : Nat} (h : cell i d = true) {a b n x : Nat} (ha : 1 ≤ a ∧ a ≤ 3) (hb : 1 ≤ b ∧ b ≤ 3) (hn : 1 ≤ n ∧ n ≤ 3 ∧ (i ≤ 3 → n ≤ 2)) (hx : 1 ≤ x ∧ x ≤ 9) : ∃ told, derive n (.prod [uT i b, factorT (nmOf d) a]) = some told ∧ okAt i b (nmOf d) a n x told = true ∧ dp told ≤ 64 := by
  unfold cell at h
  split at h
  · rename_i hi
    have hi' : 3 < i := by simpa [Nat.blt_eq] using hi
    refine and2 (far_b (b := b) hi') fun e1 e2 => ?_
    rw [e1]
    refine e13 (chain_at (three_at h ha.1 ha.2) hn.1 hn.2.1 hx.1 hx.2) fun told h1 h2 h3 => ?_
    exact ⟨told, h1, by rw [e2]; exact h2, h3⟩
  · rename_i hi
    have hi' : ¬ 3 < i := fun q => by rw [Nat.blt_eq.mpr q] at hi; exact tFa hi
    have h9 : threes.all (fun a => chain i b (nmOf d) a 2) = true := three_at (p := fun b => threes.all fun a => chain i b (nmOf d) a 2) h hb.1 hb.2
    exact chain_at (three_at h9 ha.1 ha.2) hn.1 (hn.2.2 (by exact Nat.not_lt.mp hi')) hx.1 hx.2
theorem law_runs (cells : ∀ i, i < 8 → ∀ d, d < 6 → cell i d = true) : ∀ is : List Int, is.length ≤ 63 → ∃ st1, execs (Kn 650) fc_law.body (.d (.list (is.map .int)) :: List.replicate 25 .un) = some (some (.bool true), st1) := by
  intro is _
  obtain ⟨i, d, a, b, n, x, s1, hi, hd, ha, hb, hn, hx, q⟩ := draws 649 is
  refine e13 (cell_at (cells i hi d hd) ha hb hn hx) fun told h1 h2 h3 => ?_
  refine e11 (law_run (m := 650) (by exact Nat.le_add_left _ _) hi (by exact leE ha.2 rfl) (by exact leE hb.2 rfl) (by exact leE hn.2.1 rfl) (by exact leE hx.2 rfl) h2 h1 h3 (.d (.list (iL is))) s1) fun st' r => ?_
  have e := execs_app q r
  have el : fc_law.body.take 5 ++ fc_law.body.drop 5 = fc_law.body := List.take_append_drop 5 _
  exact ⟨st', e⟩
theorem cell_00 : cell 0 0 = true := by decide +kernel
theorem cell_01 : cell 0 1 = true := by decide +kernel
theorem cell_02 : cell 0 2 = true := by decide +kernel
theorem cell_03 : cell 0 3 = true := by decide +kernel
theorem cell_04 : cell 0 4 = true := by decide +kernel
theorem cell_05 : cell 0 5 = true := by decide +kernel
theorem cell_10 : cell 1 0 = true := by decide +kernel
theorem cell_11 : cell 1 1 = true := by decide +kernel
theorem cell_12 : cell 1 2 = true := by decide +kernel
theorem cell_13 : cell 1 3 = true := by decide +kernel
theorem cell_14 : cell 1 4 = true := by decide +kernel
theorem cell_15 : cell 1 5 = true := by decide +kernel
theorem cell_20 : cell 2 0 = true := by decide +kernel
theorem cell_21 : cell 2 1 = true := by decide +kernel
theorem cell_22 : cell 2 2 = true := by decide +kernel
theorem cell_23 : cell 2 3 = true := by decide +kernel
theorem cell_24 : cell 2 4 = true := by decide +kernel
theorem cell_25 : cell 2 5 = true := by decide +kernel
theorem cell_30 : cell 3 0 = true := by decide +kernel
theorem cell_31 : cell 3 1 = true := by decide +kernel
theorem cell_32 : cell 3 2 = true := by decide +kernel
theorem cell_33 : cell 3 3 = true := by decide +kernel
theorem cell_34 : cell 3 4 = true := by decide +kernel
theorem cell_35 : cell 3 5 = true := by decide +kernel
theorem cell_40 : cell 4 0 = true := by decide +kernel
theorem cell_41 : cell 4 1 = true := by decide +kernel
theorem cell_42 : cell 4 2 = true := by decide +kernel
theorem cell_43 : cell 4 3 = true := by decide +kernel
theorem cell_44 : cell 4 4 = true := by decide +kernel
theorem cell_45 : cell 4 5 = true := by decide +kernel
theorem cell_50 : cell 5 0 = true := by decide +kernel
theorem cell_51 : cell 5 1 = true := by decide +kernel
theorem cell_52 : cell 5 2 = true := by decide +kernel
theorem cell_53 : cell 5 3 = true := by decide +kernel
theorem cell_54 : cell 5 4 = true := by decide +kernel
theorem cell_55 : cell 5 5 = true := by decide +kernel
theorem cell_60 : cell 6 0 = true := by decide +kernel
theorem cell_61 : cell 6 1 = true := by decide +kernel
theorem cell_62 : cell 6 2 = true := by decide +kernel
theorem cell_63 : cell 6 3 = true := by decide +kernel
theorem cell_64 : cell 6 4 = true := by decide +kernel
theorem cell_65 : cell 6 5 = true := by decide +kernel
theorem cell_70 : cell 7 0 = true := by decide +kernel
theorem cell_71 : cell 7 1 = true := by decide +kernel
theorem cell_72 : cell 7 2 = true := by decide +kernel
theorem cell_73 : cell 7 3 = true := by decide +kernel
theorem cell_74 : cell 7 4 = true := by decide +kernel
theorem cell_75 : cell 7 5 = true := by decide +kernel
theorem lt0 {P : Nat → Prop} : ∀ d, d < 0 → P d := fun d h => absurd h (Nat.not_lt_zero d)
theorem ltS {P : Nat → Prop} {n : Nat} (h : ∀ d, d < n → P d) (k : P n) : ∀ d, d < n + 1 → P d := fun d e => (Nat.lt_succ_iff_lt_or_eq.mp e).elim (h d) fun q => q ▸ k
theorem cells : ∀ i, i < 8 → ∀ d, d < 6 → cell i d = true := ltS (ltS (ltS (ltS (ltS (ltS (ltS (ltS lt0 (ltS (ltS (ltS (ltS (ltS (ltS lt0 cell_00) cell_01) cell_02) cell_03) cell_04) cell_05)) (ltS (ltS (ltS (ltS (ltS (ltS lt0 cell_10) cell_11) cell_12) cell_13) cell_14) cell_15)) (ltS (ltS (ltS (ltS (ltS (ltS lt0 cell_20) cell_21) cell_22) cell_23) cell_24) cell_25)) (ltS (ltS (ltS (ltS (ltS (ltS lt0 cell_30) cell_31) cell_32) cell_33) cell_34) cell_35)) (ltS (ltS (ltS (ltS (ltS (ltS lt0 cell_40) cell_41) cell_42) cell_43) cell_44) cell_45)) (ltS (ltS (ltS (ltS (ltS (ltS lt0 cell_50) cell_51) cell_52) cell_53) cell_54) cell_55)) (ltS (ltS (ltS (ltS (ltS (ltS lt0 cell_60) cell_61) cell_62) cell_63) cell_64) cell_65)) (ltS (ltS (ltS (ltS (ltS (ltS lt0 cell_70) cell_71) cell_72) cell_73) cell_74) cell_75)
end Mine
end
theorem PySem.Challenge.cw_tk0043_01_holds : PySem.Challenge.rw_tk0043_01.Holds :=
  Mine.law_holds (Mine.law_runs Mine.cells)
